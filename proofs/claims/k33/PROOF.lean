import PyProof.Rows.All
import Wide.All
import OpenK.AllK
import Wide.FinOn
import HandS.ForMost
import HandS.ForExc
import HandS.Wide
import HandS.TupAny
import HandS.TupMul
import HandS.TupLe
import HandS.WideMore
import HandS.Text
import HandS.Deep
import HandS.IsInst
import HandS.SortInts
import HandS.Defaults
import HandS.ExcOwn
import HandS.Walk
import HandS.Zip
import HandS.Rev
import HandS.RevRange
import HandS.Conv
import HandS.RaiseMore
import HandS.SetFor
import HandS.More
import HandS.Codes
import HandS.EndBits
import KE.KTupSum
import PyProof.WalkInts
import HandS.SortOrd
import PyProof.Rows.SortShell
import PyProof.ReprRoads
import HandS.TupLen
import HandS.WordsDict
import HandS.Small
import HandS.Iter
import PyProof.EnumMake
import KE.GoesEnum
import KE.GoesMore
import HandS.Comp
import HandS.Style
import HandS.Words
import HandS.Dict
import HandS.NoneIn
import HandS.HeadHook3
import HandS.Star
import HandS.Keys
import KE.GoesZip
import HandS.DictComp
import KE.KDictPairs
import HandS.Strs
import KE.SortData
import PyProof.StrLawsRepr
import HandS.Head0
import HandS.Head1
import HandS.Head2
import HandS.HeadEnd
import HandS.HeadHook1
import HandS.HeadHook2
import PySem.Challenge.RW_countahead_k33_rows_one_round_before
set_option Elab.async false
set_option linter.all false
set_option maxRecDepth 100000
set_option maxHeartbeats 0
set_option autoImplicit false
/-! B, the core: values as trees, frames with owned and frozen objects, what relates them to the abstract heap. -/
namespace BL
noncomputable section
open PySem PySem.Spec PyProof.Rows L2
inductive PV where
  | non | bl (b : Bool) | int (i : Int) | str (s : Str) | tup (xs : List PV) | lst (xs : List PV)
  | dic (ks xs : List PV) | obj (n : Nat) | exc (c : Nat) | scr (ns : List Int)
/-- the world: the abstract heap, what is frozen, the instances -/
structure Wd where
  H : Hp
  F : Addr → Prop
  O : List Addr
def FzL (w : Wd) (a : Addr) (vs : List V) : Prop := w.H a = some (.lst vs) ∧ w.F a
/-- the script: known, never written -/
def Scr (K : PySem.W.Frag) (H : Hp) (a : Addr) (vs : List V) : Prop := (∃ o, H a = some (.frz o (.lst vs))) ∨ ∃ (o : Obj) (its : Array Value) (n : Nat), K.lookup a = some o ∧ o.cls = .type "list" ∧ o.dict = none ∧ o.data = .seq its n ∧ its.size ≤ sizeLine ∧ Vals vs its.toList
theorem Scr.sq {K : PySem.W.Frag} {H : Hp} {a : Addr} {vs : List V} (h : Scr K H a vs) : SqL K H a vs := h.imp (fun ⟨o, e⟩ => .inr ⟨o, e⟩) id
def keyP : PV → Option Key
  | .int i => some (.inl i)
  | .str s => some (.inr s)
  | _ => none
def keyT : PV → Option (List Key)
  | .tup xs => xs.mapM keyP
  | _ => none
def DicC (H : Hp) (a : Addr) (ks : List PV) (vs : List V) : Prop :=
  (∃ kk : List Key, ks.map keyP = kk.map some ∧ kk.length = vs.length ∧ H a = some (.dK (kk.zip vs))) ∨
  (∃ kk : List (List Key), (ks.map keyT = kk.map some ∧ ks ≠ []) ∧ kk.length = vs.length ∧ H a = some (.dT (kk.zip vs)))
mutual
def Rep (K : PySem.W.Frag) (w : Wd) : PV → V → Prop
  | .non, v => v = .non
  | .bl b, v => v = .bl b
  | .int i, v => v = .int i
  | .str s, v => v = .str s
  | .tup xs, v => ∃ a vs, v = .ref a ∧ w.H a = some (.tup vs) ∧ Reps K w xs vs
  | .lst xs, v => ∃ a vs, v = .ref a ∧ FzL w a vs ∧ Reps K w xs vs
  | .dic ks xs, v => ∃ a vs, v = .ref a ∧ w.F a ∧ DicC w.H a ks vs ∧ Reps K w xs vs
  | .obj n, v => ∃ a, w.O[n]? = some a ∧ v = .ref a
  | .exc _, _ => False
  | .scr ns, v => ∃ a, v = .ref a ∧ Scr K w.H a (ns.map V.int)
def Reps (K : PySem.W.Frag) (w : Wd) : List PV → List V → Prop
  | [], vs => vs = []
  | x :: xs, vs => ∃ v r, vs = v :: r ∧ Rep K w x v ∧ Reps K w xs r
end
/-- the content of an owned object -/
def ORep (K : PySem.W.Frag) (w : Wd) (p : PV) (a : Addr) : Prop := ¬ w.F a ∧ a ∉ w.O ∧
  ((∃ xs vs, p = .lst xs ∧ w.H a = some (.lst vs) ∧ Reps K w xs vs) ∨ ∃ ks xs vs, p = .dic ks xs ∧ DicC w.H a ks vs ∧ Reps K w xs vs)
/-- what may be read of a value -/
def Con (K : PySem.W.Frag) (w : Wd) (p : PV) (v : V) : Prop := match p with
  | .lst xs => ∃ a vs, v = .ref a ∧ w.H a = some (.lst vs) ∧ Reps K w xs vs
  | .dic ks xs => ∃ a vs, v = .ref a ∧ DicC w.H a ks vs ∧ Reps K w xs vs
  | p => Rep K w p v
def MutO : Option HO → Prop
  | some (.lst _) => True
  | some (.dK _) => True
  | some (.dT _) => True
  | some (.ins _ _ _) => True
  | _ => False
/-- what may have happened: only the objects of M were changed or newly frozen -/
structure Step (M : Addr → Prop) (w w' : Wd) : Prop where
  dom : ∀ a o, w.H a = some o → ∃ o', w'.H a = some o'
  keep : ∀ a o, w.H a = some o → ¬ M a → w'.H a = some o
  fz : ∀ a, w.F a → w'.F a
  nf : ∀ a o, w.H a = some o → w'.F a → w.F a ∨ M a
  os : ∃ t, w'.O = w.O ++ t
  no : ∀ a o, w.H a = some o → a ∈ w'.O → a ∈ w.O
/-- M holds changeable things alone -/
def GoodM (M : Addr → Prop) (w : Wd) : Prop := ∀ a, M a → ¬ w.F a ∧ MutO (w.H a)
section
variable {K : PySem.W.Frag} {w w' : Wd} {M : Addr → Prop}
theorem Step.refl : Step M w w := ⟨fun _ o e => ⟨o, e⟩, fun _ _ e _ => e, fun _ e => e, fun _ _ _ e => .inl e, ⟨[], by simp⟩, fun _ _ _ e => e⟩
theorem Step.trans {M' : Addr → Prop} {w2 : Wd} (a : Step M w w') (b : Step M' w' w2) (h : ∀ x, M' x → M x ∨ w.H x = none) : Step M w w2 where
  dom := fun x o e => by
    obtain ⟨o', e'⟩ := a.dom x o e
    exact b.dom x o' e'
  keep := fun x o e n => b.keep x o (a.keep x o e n) fun z => (h x z).elim n fun q => by rw [q] at e; cases e
  fz := fun x e => b.fz x (a.fz x e)
  nf := fun x o e f => by
    obtain ⟨o', e'⟩ := a.dom x o e
    rcases b.nf x o' e' f with z | z
    · exact a.nf x o e z
    · exact .inr ((h x z).elim id fun q => by rw [q] at e; cases e)
  os := by
    obtain ⟨t, e⟩ := a.os
    obtain ⟨t', e'⟩ := b.os
    exact ⟨t ++ t', by rw [e', e, List.append_assoc]⟩
  no := fun x o e z => by
    obtain ⟨o', e'⟩ := a.dom x o e
    exact a.no x o e (b.no x o' e' z)
theorem Step.mono {M' : Addr → Prop} (a : Step M w w') (h : ∀ x, M x → M' x) : Step M' w w' :=
  ⟨a.dom, fun x o e n => a.keep x o e fun z => n (h x z), a.fz, fun x o e f => (a.nf x o e f).elim .inl fun z => .inr (h x z), a.os, a.no⟩
theorem SqT.step (s : Step M w w') (g : GoodM M w) {a : Addr} {vs : List V} (h : SqT K w.H a vs) : SqT K w'.H a vs := by
  rcases h with (h | ⟨o, h⟩) | h
  · refine .inl (.inl (s.keep a _ h fun z => ?_))
    have := (g a z).2
    rw [h] at this
    exact this
  · refine .inl (.inr ⟨o, s.keep a _ h fun z => ?_⟩)
    have := (g a z).2
    rw [h] at this
    exact this
  · exact .inr h
theorem FzL.step (s : Step M w w') (g : GoodM M w) {a : Addr} {vs : List V} (h : FzL w a vs) : FzL w' a vs := ⟨s.keep a _ h.1 fun z => (g a z).1 h.2, s.fz a h.2⟩
theorem Scr.step (s : Step M w w') (g : GoodM M w) {a : Addr} {vs : List V} (h : Scr K w.H a vs) : Scr K w'.H a vs := by
  rcases h with ⟨o, h⟩ | h
  · refine .inl ⟨o, s.keep a _ h fun z => ?_⟩
    have := (g a z).2
    rw [h] at this
    exact this
  · exact .inr h
theorem DicC.keep {H H' : Hp} {a : Addr} {ks : List PV} {vs : List V} (h : DicC H a ks vs) (k : ∀ o, H a = some o → H' a = some o) : DicC H' a ks vs := by
  rcases h with ⟨kk, e, z, h⟩ | ⟨kk, e, z, h⟩
  · exact .inl ⟨kk, e, z, k _ h⟩
  · exact .inr ⟨kk, e, z, k _ h⟩
theorem DicC.some {H : Hp} {a : Addr} {ks : List PV} {vs : List V} (h : DicC H a ks vs) : ∃ o, H a = some o ∧ MutO (some o) := by
  rcases h with ⟨kk, e, z, h⟩ | ⟨kk, e, z, h⟩
  · exact ⟨_, h, trivial⟩
  · exact ⟨_, h, trivial⟩
mutual
theorem Rep.step (s : Step M w w') (g : GoodM M w) : ∀ {p : PV} {v : V}, Rep K w p v → Rep K w' p v
  | .non, _, h => h
  | .bl _, _, h => h
  | .int _, _, h => h
  | .str _, _, h => h
  | .tup _, _, h => by
    obtain ⟨a, vs, e, h, r⟩ := h
    exact ⟨a, vs, e, s.keep a _ h fun z => by have := (g a z).2; rw [h] at this; exact this, Reps.step s g r⟩
  | .lst _, _, h => by
    obtain ⟨a, vs, e, h, r⟩ := h
    exact ⟨a, vs, e, FzL.step s g h, Reps.step s g r⟩
  | .dic _ _, _, h => by
    obtain ⟨a, vs, e, f, h, r⟩ := h
    exact ⟨a, vs, e, s.fz a f, h.keep fun o q => s.keep a o q fun z => (g a z).1 f, Reps.step s g r⟩
  | .obj n, _, h => by
    obtain ⟨a, e, q⟩ := h
    obtain ⟨t, z⟩ := s.os
    refine ⟨a, ?_, q⟩
    rw [z]
    exact List.getElem?_append_left (List.getElem?_eq_some_iff.mp e).1 ▸ e
  | .exc _, _, h => h
  | .scr _, _, h => by
    obtain ⟨a, e, h⟩ := h
    exact ⟨a, e, Scr.step s g h⟩
theorem Reps.step (s : Step M w w') (g : GoodM M w) : ∀ {ps : List PV} {vs : List V}, Reps K w ps vs → Reps K w' ps vs
  | [], _, h => h
  | _ :: _, _, h => by
    obtain ⟨v, r, e, h1, h2⟩ := h
    exact ⟨v, r, e, Rep.step s g h1, Reps.step s g h2⟩
end
theorem Reps.nil : Reps K w [] [] := rfl
theorem Reps.cons {p : PV} {ps : List PV} {v : V} {vs : List V} (h : Rep K w p v) (t : Reps K w ps vs) : Reps K w (p :: ps) (v :: vs) := ⟨v, vs, rfl, h, t⟩
theorem Reps.inv {p : PV} {ps : List PV} {vs : List V} (h : Reps K w (p :: ps) vs) : ∃ v r, vs = v :: r ∧ Rep K w p v ∧ Reps K w ps r := h
theorem Reps.length : ∀ {ps : List PV} {vs : List V}, Reps K w ps vs → ps.length = vs.length
  | [], vs, h => by
    cases (show vs = [] from h)
    rfl
  | _ :: ps, _, h => by
    obtain ⟨v, r, e, _, t⟩ := h
    subst e
    rw [List.length_cons, List.length_cons, Reps.length t]
theorem Reps.get : ∀ {ps : List PV} {vs : List V} {i : Nat} {p : PV}, Reps K w ps vs → ps[i]? = some p → ∃ v, vs[i]? = some v ∧ Rep K w p v
  | [], _, _, _, _, e => by simp at e
  | q :: ps, _, 0, p, h, e => by
    obtain ⟨v, r, e1, h1, _⟩ := h
    subst e1
    simp at e
    subst e
    exact ⟨v, by simp, h1⟩
  | q :: ps, _, i + 1, p, h, e => by
    obtain ⟨v, r, e1, _, t⟩ := h
    subst e1
    obtain ⟨v', h1, h2⟩ := Reps.get (i := i) (p := p) t (by simpa using e)
    exact ⟨v', by simpa using h1, h2⟩
theorem Reps.getV : ∀ {ps : List PV} {vs : List V} {i : Nat} {v : V}, Reps K w ps vs → vs[i]? = some v → ∃ p, ps[i]? = some p ∧ Rep K w p v
  | [], vs, i, _, h, e => by
    cases (show vs = [] from h)
    simp at e
  | q :: ps, _, 0, p, h, e => by
    obtain ⟨v, r, e1, h1, _⟩ := h
    subst e1
    simp at e
    subst e
    exact ⟨q, by simp, h1⟩
  | q :: ps, _, i + 1, p, h, e => by
    obtain ⟨v, r, e1, _, t⟩ := h
    subst e1
    obtain ⟨v', h1, h2⟩ := Reps.getV (i := i) (v := p) t (by simpa using e)
    exact ⟨v', by simpa using h1, h2⟩
theorem Reps.append : ∀ {ps qs : List PV} {vs us : List V}, Reps K w ps vs → Reps K w qs us → Reps K w (ps ++ qs) (vs ++ us)
  | [], _, vs, _, h, t => by
    cases (show vs = [] from h)
    exact t
  | _ :: _, _, _, _, h, t => by
    obtain ⟨v, r, e, h1, h2⟩ := h
    subst e
    exact ⟨v, _, rfl, h1, Reps.append h2 t⟩
theorem Reps.take : ∀ {ps : List PV} {vs : List V} (n : Nat), Reps K w ps vs → Reps K w (ps.take n) (vs.take n)
  | _, _, 0, _ => rfl
  | [], vs, _ + 1, h => by
    cases (show vs = [] from h)
    exact rfl
  | _ :: _, _, n + 1, h => by
    obtain ⟨v, r, e, h1, h2⟩ := h
    subst e
    exact ⟨v, _, rfl, h1, Reps.take n h2⟩
theorem Reps.drop : ∀ {ps : List PV} {vs : List V} (n : Nat), Reps K w ps vs → Reps K w (ps.drop n) (vs.drop n)
  | _, _, 0, h => h
  | [], vs, _ + 1, h => by
    cases (show vs = [] from h)
    exact rfl
  | _ :: _, _, n + 1, h => by
    obtain ⟨v, r, e, h1, h2⟩ := h
    subst e
    exact Reps.drop n h2
theorem Reps.set : ∀ {ps : List PV} {vs : List V} {p : PV} {v : V} (i : Nat), Reps K w ps vs → Rep K w p v → Reps K w (ps.set i p) (vs.set i v)
  | [], vs, _, _, _, h, _ => by
    cases (show vs = [] from h)
    exact rfl
  | _ :: _, _, _, _, 0, h, q => by
    obtain ⟨v, r, e, h1, h2⟩ := h
    subst e
    exact ⟨_, _, rfl, q, h2⟩
  | _ :: _, _, _, _, i + 1, h, q => by
    obtain ⟨v, r, e, h1, h2⟩ := h
    subst e
    exact ⟨_, _, rfl, h1, Reps.set i h2 q⟩
theorem Reps.reverse : ∀ {ps : List PV} {vs : List V}, Reps K w ps vs → Reps K w ps.reverse vs.reverse
  | [], vs, h => by
    cases (show vs = [] from h)
    exact rfl
  | _ :: _, _, h => by
    obtain ⟨v, r, e, h1, h2⟩ := h
    subst e
    rw [List.reverse_cons, List.reverse_cons]
    exact Reps.append (Reps.reverse h2) ⟨_, _, rfl, h1, rfl⟩
theorem Con.of_rep {p : PV} {v : V} (h : Rep K w p v) : Con K w p v := by
  cases p with
  | lst xs =>
    obtain ⟨a, vs, e, h, r⟩ := h
    exact ⟨a, vs, e, h.1, r⟩
  | dic ks xs =>
    obtain ⟨a, vs, e, f, h, r⟩ := h
    exact ⟨a, vs, e, h, r⟩
  | _ => exact h
theorem Con.of_orep {p : PV} {a : Addr} (h : ORep K w p a) : Con K w p (.ref a) := by
  obtain ⟨_, _, ⟨xs, vs, rfl, e, r⟩ | ⟨ks, xs, vs, rfl, e, r⟩⟩ := h
  · exact ⟨a, vs, rfl, e, r⟩
  · exact ⟨a, vs, rfl, e, r⟩
theorem ORep.mut {p : PV} {a : Addr} (h : ORep K w p a) : MutO (w.H a) := by
  obtain ⟨_, _, ⟨xs, vs, rfl, e, r⟩ | ⟨ks, xs, vs, rfl, e, r⟩⟩ := h
  · rw [e]
    trivial
  · obtain ⟨o, e, m⟩ := e.some
    rw [e]
    exact m
theorem ORep.there {p : PV} {a : Addr} (h : ORep K w p a) : ∃ o, w.H a = some o := by
  have := h.mut
  cases e : w.H a with
  | none => rw [e] at this; exact this.elim
  | some o => exact ⟨o, rfl⟩
/-- an owned object that nobody changes -/
theorem ORep.step (s : Step M w w') (g : GoodM M w) {p : PV} {a : Addr} (h : ORep K w p a) (n : ¬ M a) : ORep K w' p a := by
  obtain ⟨o, eo⟩ := h.there
  obtain ⟨f, no, h⟩ := h
  refine ⟨fun z => (s.nf a o eo z).elim f n, fun z => no (s.no a o eo z), ?_⟩
  rcases h with ⟨xs, vs, rfl, e, r⟩ | ⟨ks, xs, vs, rfl, e, r⟩
  · exact .inl ⟨xs, vs, rfl, s.keep a _ e n, Reps.step s g r⟩
  · exact .inr ⟨ks, xs, vs, rfl, e.keep fun o q => s.keep a o q n, Reps.step s g r⟩
end
/-! ### frames -/
inductive Slot where
  | no | val (p : PV) | own (l : Bool) (p : PV) | loan (k : Nat)
inductive Stt where
  | live | lock | froz
  deriving DecidableEq
structure Inst where
  c : Nat
  fs : List (Str × PV)
structure Env where
  sl : List Slot
  ln : List (Stt × PV)
  st : List Inst
structure BS where
  r : Env
  s : L2.St
  w : Wd
/-- what does not change in a def: the written part, the classes -/
structure BC where
  K : PySem.W.Frag
  cl : List Addr
inductive Hold where
  | slot (i : Nat) | loan (k : Nat)
  deriving DecidableEq
def adr (L : List Addr) (s : BS) : Hold → Option Addr
  | .slot i => match s.r.sl[i]?, s.s[i]? with
    | some (.own _ _), some (some (.ref a)) => some a
    | _, _ => none
  | .loan k => match s.r.ln[k]? with
    | some (.froz, _) => none
    | some (_, _) => L[k]?
    | none => none
def isLive (s : BS) : Hold → Prop
  | .slot i => ∃ p, s.r.sl[i]? = some (.own false p)
  | .loan k => ∃ p, s.r.ln[k]? = some (.live, p)
def Held (L : List Addr) (s : BS) (a : Addr) : Prop := ∃ h, adr L s h = some a
def Opn (L : List Addr) (s : BS) (a : Addr) : Prop := (∃ h, isLive s h ∧ adr L s h = some a) ∨ a ∈ s.w.O
def InstOk (B : BC) (w : Wd) (I : Inst) (a : Addr) : Prop :=
  ∃ C dx fs, B.cl[I.c]? = some C ∧ w.H a = some (.ins C dx fs) ∧ fs.map (·.1) = I.fs.map (·.1) ∧ Reps B.K w (I.fs.map (·.2)) (fs.map (·.2))
def SlotOk (B : BC) (L : List Addr) (w : Wd) (x : Option (Option V)) : Slot → Prop
  | .no => True
  | .val p => ∃ v, x = some (some v) ∧ Rep B.K w p v
  | .own _ p => ∃ a, x = some (some (.ref a)) ∧ ORep B.K w p a
  | .loan k => ∃ a, L[k]? = some a ∧ x = some (some (.ref a))
def LoanOk (B : BC) (w : Wd) (a : Addr) : Stt × PV → Prop
  | (.froz, p) => Rep B.K w p (.ref a)
  | (_, p) => ORep B.K w p a
structure Rel (B : BC) (L : List Addr) (s : BS) : Prop where
  len : s.s.length = s.r.sl.length
  lnL : L.length = s.r.ln.length
  sl : ∀ (i : Nat) x, s.r.sl[i]? = some x → SlotOk B L s.w (s.s[i]?) x
  ln : ∀ (k : Nat) t a, s.r.ln[k]? = some t → L[k]? = some a → LoanOk B s.w a t
  inj : ∀ h h' a, adr L s h = some a → adr L s h' = some a → h = h'
  fd : ∀ a, s.w.F a → ∃ o, s.w.H a = some o ∧ MutO (some o)
  lx : ∀ a ∈ L, ∃ o, s.w.H a = some o
  sL : ∀ (i : Nat) l p a, s.r.sl[i]? = some (.own l p) → s.s[i]? = some (some (.ref a)) → a ∉ L
  od : s.w.O.length = s.r.st.length
  nd : s.w.O.Nodup
  nf : ∀ a, a ∈ s.w.O → ¬ s.w.F a
  st : ∀ (n : Nat) a I, s.w.O[n]? = some a → s.r.st[n]? = some I → InstOk B s.w I a
structure Ex (B : BC) (L : List Addr) (s s' : BS) : Prop where
  st : Step (Opn L s) s.w s'.w
  rel : Rel B L s'
  own : ∀ h a, adr L s' h = some a → adr L s h = some a ∨ s.w.H a = none
  opn : ∀ h a, isLive s' h → adr L s' h = some a → isLive s h ∨ s.w.H a = none
section
variable {B : BC} {L : List Addr} {s s' s2 : BS}
theorem live_adr (R : Rel B L s) {h : Hold} (l : isLive s h) : ∃ p a, adr L s h = some a ∧ ORep B.K s.w p a ∧ (match h with | .slot i => s.r.sl[i]? = some (.own false p) ∧ s.s[i]? = some (some (.ref a)) | .loan k => s.r.ln[k]? = some (.live, p) ∧ L[k]? = some a) := by
  cases h with
  | slot i =>
    obtain ⟨p, e⟩ := l
    obtain ⟨a, e2, o⟩ := R.sl i _ e
    refine ⟨p, a, ?_, o, e, e2⟩
    unfold adr
    simp only [e, e2]
  | loan k =>
    obtain ⟨p, e⟩ := l
    have hk : k < s.r.ln.length := (List.getElem?_eq_some_iff.mp e).1
    have hL : L[k]? = some (L[k]'(by rw [R.lnL]; exact hk)) := List.getElem?_eq_getElem _
    refine ⟨p, _, ?_, R.ln k _ _ e hL, e, hL⟩
    unfold adr
    simp only [e, hL]
/-- the object that a holder holds, live or locked -/
theorem held_orep (R : Rel B L s) {h : Hold} {a : Addr} (e : adr L s h = some a) : ∃ p, ORep B.K s.w p a := by
  cases h with
  | slot i =>
    unfold adr at e
    dsimp only at e
    split at e
    · rename_i l p a' e1 e2
      cases e
      obtain ⟨a2, e3, o⟩ := R.sl i _ e1
      rw [e2] at e3
      cases e3
      exact ⟨p, o⟩
    · cases e
  | loan k =>
    unfold adr at e
    dsimp only at e
    split at e
    · cases e
    · rename_i t p hne e1
      have := R.ln k _ _ e1 e
      cases t with
      | froz => exact (hne rfl).elim
      | live => exact ⟨p, this⟩
      | lock => exact ⟨p, this⟩
    · cases e
theorem inst_some (R : Rel B L s) {a : Addr} (h : a ∈ s.w.O) : ∃ C dx fs, s.w.H a = some (.ins C dx fs) := by
  obtain ⟨n, hn, e⟩ := List.getElem_of_mem h
  obtain ⟨C, dx, fs, _, e2, _⟩ := R.st n a (s.r.st[n]'(by rw [← R.od]; exact hn)) (by rw [List.getElem?_eq_getElem hn, e]) (List.getElem?_eq_getElem _)
  exact ⟨C, dx, fs, e2⟩
theorem Rel.good (R : Rel B L s) : GoodM (Opn L s) s.w := fun a h => by
  rcases h with ⟨h, l, e⟩ | h
  · obtain ⟨p, o⟩ := held_orep R e
    exact ⟨o.1, o.mut⟩
  · obtain ⟨C, dx, fs, e⟩ := inst_some R h
    refine ⟨R.nf a h, ?_⟩
    rw [e]
    trivial
theorem Opn.held {a : Addr} (h : Opn L s a) : Held L s a ∨ a ∈ s.w.O := h.imp (fun ⟨h, _, e⟩ => ⟨h, e⟩) id
theorem Ex.refl (R : Rel B L s) : Ex B L s s := ⟨Step.refl, R, fun _ _ h => .inl h, fun _ _ h _ => .inl h⟩
theorem Ex.none (x : Ex B L s s') {a : Addr} (h : s'.w.H a = none) : s.w.H a = none := by
  cases e : s.w.H a with
  | none => rfl
  | some o =>
    obtain ⟨o', e'⟩ := x.st.dom a o e
    rw [h] at e'
    cases e'
theorem Ex.held (x : Ex B L s s') {a : Addr} (h : Held L s' a) : Held L s a ∨ s.w.H a = Option.none := let ⟨h, e⟩ := h; (x.own h a e).imp (fun z => ⟨h, z⟩) id
theorem Ex.opened (x : Ex B L s s') {a : Addr} (h : Opn L s' a) : Opn L s a ∨ s.w.H a = Option.none := by
  rcases h with ⟨h, l, e⟩ | h
  · rcases x.own h a e with z | z
    · rcases x.opn h a l e with y | y
      · exact .inl (.inl ⟨h, y, z⟩)
      · exact .inr y
    · exact .inr z
  · cases e : s.w.H a with
    | none => exact .inr rfl
    | some o => exact .inl (.inr (x.st.no a o e h))
theorem Ex.trans (a : Ex B L s s') (b : Ex B L s' s2) : Ex B L s s2 where
  st := a.st.trans b.st fun x h => a.opened h
  rel := b.rel
  own := fun h x e => (b.own h x e).elim (a.own h x) fun n => .inr (a.none n)
  opn := fun h x l e => by
    rcases b.own h x e with z | z
    · rcases b.opn h x l e with y | y
      · exact a.opn h x y z
      · exact .inr (a.none y)
    · exact .inr (a.none z)
theorem Ex.rep (x : Ex B L s s') (R : Rel B L s) {p : PV} {v : V} (h : Rep B.K s.w p v) : Rep B.K s'.w p v := Rep.step x.st R.good h
theorem Ex.reps (x : Ex B L s s') (R : Rel B L s) {p : List PV} {v : List V} (h : Reps B.K s.w p v) : Reps B.K s'.w p v := Reps.step x.st R.good h
/-- an owned object of nobody's in this frame -/
theorem Ex.orep (x : Ex B L s s') (R : Rel B L s) {p : PV} {a : Addr} (h : ORep B.K s.w p a) (n : ¬ Held L s a) : ORep B.K s'.w p a ∧ ¬ Held L s' a := by
  obtain ⟨o, e⟩ := h.there
  refine ⟨ORep.step x.st R.good h fun z => ?_, fun z => ?_⟩
  · rcases z.held with z | z
    · exact n z
    · exact h.2.1 z
  · rcases x.held z with z | z
    · exact n z
    · rw [z] at e
      cases e
end
/-! ### results -/
inductive RV where
  | val (p : PV) | fresh (p : PV) | slot (i : Nat) | loan (k : Nat)
inductive Res (α : Type) where
  | ok (a : α) (r : Env) | exc (c : Nat) (r : Env) | no
abbrev M (α : Type) := Env → Res α
def M.bind {α β : Type} (m : M α) (f : α → M β) : M β := fun r => match m r with
  | .ok a r' => f a r'
  | .exc c r' => .exc c r'
  | .no => .no
def M.pure {α : Type} (a : α) : M α := fun r => .ok a r
def M.no {α : Type} : M α := fun _ => .no
/-- a step that only looks -/
def M.opt {α : Type} (o : Option α) : M α := fun r => match o with
  | some a => .ok a r
  | none => .no
def slotC (r : Env) (i : Nat) : Option PV := match r.sl[i]? with
  | some (.val p) => some p
  | some (.own _ p) => some p
  | some (.loan k) => (r.ln[k]?).map (·.2)
  | _ => none
/-- the content as it is now -/
def peek (r : Env) : RV → Option PV
  | .val p => some p
  | .fresh p => some p
  | .slot i => slotC r i
  | .loan k => (r.ln[k]?).map (·.2)
def RRel (B : BC) (L : List Addr) (s0 s : BS) : RV → V → Prop
  | .val p, v => Rep B.K s.w p v
  | .fresh p, v => ∃ a, v = .ref a ∧ ORep B.K s.w p a ∧ ¬ Held L s a ∧ s0.w.H a = none
  | .slot i, v => s.s[i]? = some (some v)
  | .loan k, v => ∃ a, L[k]? = some a ∧ v = .ref a
/-- the addresses of the new ones among them -/
def freshA : List RV → List V → List Addr
  | .fresh _ :: rs, .ref a :: vs => a :: freshA rs vs
  | _ :: rs, _ :: vs => freshA rs vs
  | _, _ => []
def RRels (B : BC) (L : List Addr) (s0 s : BS) (rs : List RV) (vs : List V) : Prop := Paired (RRel B L s0 s) rs vs ∧ (freshA rs vs).Nodup
section
variable {B : BC} {L : List Addr} {s0 s s' : BS}
theorem RRel.keep (x : Ex B L s s') (R : Rel B L s) (hs : s'.s = s.s) {r : RV} {v : V} (h : RRel B L s0 s r v) : RRel B L s0 s' r v := by
  cases r with
  | val p => exact x.rep R h
  | fresh p =>
    obtain ⟨a, e, o, n, z⟩ := h
    obtain ⟨h1, h2⟩ := x.orep R o n
    exact ⟨a, e, h1, h2, z⟩
  | slot i =>
    show s'.s[i]? = some (some v)
    rw [hs]
    exact h
  | loan k => exact h
theorem RRel.weak (x : Ex B L s0 s) {s2 : BS} {r : RV} {v : V} (h : RRel B L s s2 r v) : RRel B L s0 s2 r v := by
  cases r with
  | fresh p =>
    obtain ⟨a, e, o, n, z⟩ := h
    exact ⟨a, e, o, n, x.none z⟩
  | _ => exact h
theorem loan_con (R : Rel B L s) {k : Nat} {p : PV} {a : Addr} (hp : (s.r.ln[k]?).map (·.2) = some p) (hL : L[k]? = some a) : Con B.K s.w p (.ref a) := by
  cases e : s.r.ln[k]? with
  | none => rw [e] at hp; cases hp
  | some t =>
    rw [e] at hp
    obtain ⟨t, q⟩ := t
    cases hp
    have := R.ln k _ a e hL
    cases t with
    | froz => exact Con.of_rep this
    | live => exact Con.of_orep this
    | lock => exact Con.of_orep this
theorem slot_con (R : Rel B L s) {i : Nat} {p : PV} {v : V} (hp : slotC s.r i = some p) (hv : s.s[i]? = some (some v)) : Con B.K s.w p v := by
  unfold slotC at hp
  split at hp
  · rename_i q e
    cases hp
    obtain ⟨v', e', h⟩ := R.sl i _ e
    rw [hv] at e'
    cases e'
    exact Con.of_rep h
  · rename_i l q e
    cases hp
    obtain ⟨a, e', h⟩ := R.sl i _ e
    rw [hv] at e'
    cases e'
    exact Con.of_orep h
  · rename_i k e
    obtain ⟨a, hL, e'⟩ := R.sl i _ e
    rw [hv] at e'
    cases e'
    exact loan_con R hp hL
  · cases hp
theorem peek_con (R : Rel B L s) {r : RV} {p : PV} {v : V} (h : RRel B L s0 s r v) (hp : peek s.r r = some p) : Con B.K s.w p v := by
  cases r with
  | val q =>
    cases hp
    exact Con.of_rep h
  | fresh q =>
    cases hp
    obtain ⟨a, rfl, o, _⟩ := h
    exact Con.of_orep o
  | slot i => exact slot_con R hp h
  | loan k =>
    obtain ⟨a, hL, rfl⟩ := h
    exact loan_con R hp hL
end
/-! ### readings -/
abbrev RTy (α β : Type) := BC → List Addr → BS → BS → α → β → Prop
def RBool : RTy Bool Bool := fun _ _ _ _ a b => a = b
def Post {α β : Type} (T : RTy α β) (B : BC) (L : List Addr) (W : WX) (s0 : BS) (Q : β → Hp → Prop) : Res α → Prop
  | .ok r e => ∀ w' v, Ex B L s0 ⟨e, s0.s, w'⟩ → T B L s0 ⟨e, s0.s, w'⟩ r v → Q v w'.H
  | .exc c e => ∀ w', Ex B L s0 ⟨e, s0.s, w'⟩ → ∀ C, B.cl[c]? = some C → W (.ref C) none s0.s w'.H
  | .no => False
def tG {α β : Type} (T : RTy α β) (B : BC) (W : WX) (m : M α) (σ : L2.St) (H : Hp) (Q : β → Hp → Prop) : Prop :=
  ∃ L s, s.s = σ ∧ s.w.H = H ∧ Rel B L s ∧ Post T B L W s Q (m s.r)
abbrev tB (B : BC) (W : WX) (m : M RV) : TE := tG RRel B W m
abbrev tT (B : BC) (W : WX) (m : M Bool) : TT := tG RBool B W m
abbrev tA (B : BC) (W : WX) (m : M (List RV)) : TA := tG RRels B W m
/-- on the way from s0: now at s -/
structure At (B : BC) (L : List Addr) (s0 s : BS) : Prop where
  x : Ex B L s0 s
  e : s.s = s0.s
theorem At.rel {B : BC} {L : List Addr} {s0 s : BS} (a : At B L s0 s) : Rel B L s := a.x.rel
theorem At.trans {B : BC} {L : List Addr} {s0 s s2 : BS} (a : At B L s0 s) (b : At B L s s2) : At B L s0 s2 := ⟨a.x.trans b.x, b.e.trans a.e⟩
theorem At.refl {B : BC} {L : List Addr} {s : BS} (R : Rel B L s) : At B L s s := ⟨Ex.refl R, rfl⟩
section
variable {α β γ δ : Type} {T : RTy α β} {T2 : RTy γ δ} {B : BC} {W : WX} {L : List Addr} {s0 s s' : BS} {σ : L2.St} {H : Hp}
theorem RRel.at (x : At B L s s') (R : Rel B L s) {r : RV} {v : V} (h : RRel B L s0 s r v) : RRel B L s0 s' r v := h.keep x.x R x.e
theorem tG.bind {ma : M α} {f : α → M γ} {Q : δ → Hp → Prop} (h : tG T2 B W (ma.bind f) σ H Q) :
    tG T B W ma σ H fun x H1 => ∃ L s0 s a, s.s = σ ∧ s.w.H = H1 ∧ Rel B L s0 ∧ At B L s0 s ∧ T B L s0 s a x ∧ Post T2 B L W s0 Q (f a s.r) := by
  obtain ⟨L, s, e1, e2, R, P⟩ := h
  refine ⟨L, s, e1, e2, R, ?_⟩
  unfold M.bind at P
  cases e : ma s.r with
  | ok r e' =>
    rw [e] at P
    exact fun w' v x h => ⟨L, s, ⟨e', s.s, w'⟩, r, e1, rfl, R, ⟨x, rfl⟩, h, P⟩
  | exc c e' =>
    rw [e] at P
    exact P
  | no =>
    rw [e] at P
    exact P
/-- the next part, what is known so far kept -/
theorem Post.bind {ma : M α} {f : α → M γ} {Q : δ → Hp → Prop} (R0 : Rel B L s0) (A : At B L s0 s) (P : Post T2 B L W s0 Q ((ma.bind f) s.r)) :
    tG T B W ma s.s s.w.H fun x H1 => ∃ s2 a, s2.w.H = H1 ∧ At B L s s2 ∧ T B L s s2 a x ∧ Post T2 B L W s0 Q (f a s2.r) := by
  refine ⟨L, s, rfl, rfl, A.rel, ?_⟩
  unfold M.bind at P
  cases e : ma s.r with
  | ok r e' =>
    rw [e] at P
    exact fun w' v x h => ⟨⟨e', s.s, w'⟩, r, rfl, ⟨x, rfl⟩, h, P⟩
  | exc c e' =>
    rw [e] at P
    intro w' x C hC
    rw [A.e] at x ⊢
    exact P w' (A.x.trans x) C hC
  | no =>
    rw [e] at P
    exact P
theorem tG.mono {m : M α} {Q Q' : β → Hp → Prop} (h : tG T B W m σ H Q) (i : ∀ b H, Q b H → Q' b H) : tG T B W m σ H Q' := by
  obtain ⟨L, s, e1, e2, R, P⟩ := h
  refine ⟨L, s, e1, e2, R, ?_⟩
  cases e : m s.r with
  | ok r e' =>
    rw [e] at P
    exact fun w' v x h => i _ _ (P w' v x h)
  | exc c e' =>
    rw [e] at P
    exact P
  | no =>
    rw [e] at P
    exact P
/-- at the end -/
theorem Post.fin {Q : β → Hp → Prop} {a : α} {b : β} (A : At B L s0 s) (P : Post T B L W s0 Q (.ok a s.r)) (h : T B L s0 s a b) : Q b s.w.H := by
  obtain ⟨r, q, w⟩ := s
  have e : q = s0.s := A.e
  subst e
  exact P w b A.x h
/-- the rest, from here on -/
theorem Post.here {m : M α} {Q : β → Hp → Prop} (A : At B L s0 s) (hT : ∀ s2 a x, Ex B L s s2 → T B L s s2 a x → T B L s0 s2 a x) (P : Post T B L W s0 Q (m s.r)) : tG T B W m s.s s.w.H Q := by
  refine ⟨L, s, rfl, rfl, A.rel, ?_⟩
  cases e : m s.r with
  | ok r e' =>
    rw [e] at P
    intro w' v x h
    rw [A.e] at x h
    exact P w' v (A.x.trans x) (hT _ _ _ x h)
  | exc c e' =>
    rw [e] at P
    intro w' x C hC
    rw [A.e] at x ⊢
    exact P w' (A.x.trans x) C hC
  | no =>
    rw [e] at P
    exact P
end
theorem _root_.L2.PE.imp {X : Cx} {e : Expr} {t t' : TE} (h : PE X e t) (i : ∀ σ H Q, t' σ H Q → t σ H Q) : PE X e t' := ⟨fun pins s σ H Q I q => h.run pins s σ H Q I (i σ H Q q)⟩
theorem _root_.L2.PT.imp {X : Cx} {e : Expr} {t t' : TT} (h : PT X e t) (i : ∀ σ H Q, t' σ H Q → t σ H Q) : PT X e t' := ⟨fun pins s σ H Q I q => h.run pins s σ H Q I (i σ H Q q)⟩
theorem _root_.L2.PW.imp {X : Cx} {e : Expr} {t t' : TT} (h : PW X e t) (i : ∀ σ H Q, t' σ H Q → t σ H Q) : PW X e t' := ⟨fun wh pins s σ H Q I q => h.run wh pins s σ H Q I (i σ H Q q)⟩
theorem _root_.L2.PA.imp {X : Cx} {e : List Expr} {t t' : TA} (h : PA X e t) (i : ∀ σ H Q, t' σ H Q → t σ H Q) : PA X e t' := ⟨fun pos pins s σ H Q I q => h.run pos pins s σ H Q I (i σ H Q q)⟩
theorem _root_.L2.PS.imp {X : Cx} {e : Stmt} {t t' : TS} (h : PS X e t) (i : ∀ D σ H, t' D σ H → t D σ H) : PS X e t' := ⟨fun pins s σ H D I q => h.run pins s σ H D I (i D σ H q)⟩
theorem _root_.L2.PSs.imp {X : Cx} {e : List Stmt} {t t' : TS} (h : PSs X e t) (i : ∀ D σ H, t' D σ H → t D σ H) : PSs X e t' := ⟨fun pins s σ H D I q => h.run pins s σ H D I (i D σ H q)⟩
end
end BL
/-! B, expressions: names, constants, operators, comparisons, and / or / not, conditional expressions, displays, subscripts, slices. -/
namespace BL
noncomputable section
open PySem PySem.Spec PyProof.Rows L2
/-! ### names, constants -/
def mVar (i : Nat) : M RV := fun r => match r.sl[i]? with
  | some (.val p) => .ok (.val p) r
  | some (.own _ _) => .ok (.slot i) r
  | some (.loan k) => .ok (.loan k) r
  | _ => .no
def mVal (p : PV) : M RV := M.pure (.val p)
section
variable {X : Cx} {B : BC} {W : WX}
theorem be_var {i : Nat} {e : Expr} (h : PE X e (tVar i)) : PE X e (tB B W (mVar i)) := by
  refine h.imp fun σ H Q q => ?_
  obtain ⟨L, s, rfl, rfl, R, P⟩ := q
  unfold mVar at P
  split at P
  · rename_i p e
    obtain ⟨v, e', h⟩ := R.sl i _ e
    exact ⟨v, e', P.fin (.refl R) h⟩
  · rename_i l p e
    obtain ⟨a, e', h⟩ := R.sl i _ e
    exact ⟨_, e', P.fin (.refl R) e'⟩
  · rename_i k e
    obtain ⟨a, e', h⟩ := R.sl i _ e
    exact ⟨_, h, P.fin (.refl R) ⟨a, e', rfl⟩⟩
  · exact P.elim
theorem be_c {v : V} {p : PV} {e : Expr} (h : PE X e (tC v)) (r : ∀ w, Rep B.K w p v) : PE X e (tB B W (mVal p)) := by
  refine h.imp fun σ H Q q => ?_
  obtain ⟨L, s, rfl, rfl, R, P⟩ := q
  exact P.fin (.refl R) (r s.w)
theorem be_int {i j pos} : PE X (.Constant (.int i) j pos) (tB B W (mVal (.int i))) := be_c pe_int fun _ => rfl
theorem be_bl {b j pos} : PE X (.Constant (.bool b) j pos) (tB B W (mVal (.bl b))) := be_c pe_bl fun _ => rfl
theorem be_non {j pos} : PE X (.Constant .none j pos) (tB B W (mVal .non)) := be_c pe_non fun _ => rfl
theorem be_str {x j pos} : PE X (.Constant (.str x) j pos) (tB B W (mVal (.str x))) := be_c pe_str fun _ => rfl
theorem be_globI {x : Str} {i : Int} {t : Tok} {pos : Pos} (hg : Gl X x) (hm : X.mg x = some (.int i t)) (hd : (x == ("__debug__" : Str)) = false := by decide) : PE X (.Name x pos) (tB B W (mVal (.int i))) :=
  be_c (v := .int i) (pe_glob hg hm ⟨_, rfl⟩ hd) fun _ => rfl
theorem be_globS {x y : Str} {t : Tok} {pos : Pos} (hg : Gl X x) (hm : X.mg x = some (.str y t)) (hd : (x == ("__debug__" : Str)) = false := by decide) : PE X (.Name x pos) (tB B W (mVal (.str y))) :=
  be_c (v := .str y) (pe_glob hg hm ⟨_, rfl⟩ hd) fun _ => rfl
end
/-! ### two operands, by their contents -/
/-- the contents, then a function that only looks -/
def look2 (f : PV → PV → Option RV) (a b : RV) : M RV := fun r => match peek r a, peek r b with
  | some p, some q => (match f p q with | some z => .ok z r | none => .no)
  | _, _ => .no
def look1 (f : PV → Option RV) (a : RV) : M RV := fun r => match peek r a with
  | some p => (match f p with | some z => .ok z r | none => .no)
  | _ => .no
def mBin (f : PV → PV → Option RV) (a b : M RV) : M RV := a.bind fun x => b.bind fun y => look2 f x y
def mUn (f : PV → Option RV) (a : M RV) : M RV := a.bind fun x => look1 f x
/-- a test of two contents -/
def mTst (f : PV → PV → Option Bool) (a b : M RV) : M Bool := a.bind fun x => b.bind fun y => fun r => match peek r x, peek r y with
  | some p, some q => (match f p q with | some z => .ok z r | none => .no)
  | _, _ => .no
def OkR2 (B : BC) (rr : R2) (f : PV → PV → Option RV) : Prop := ∀ (L : List Addr) (s : BS) (p q : PV) (x y : V) (z : RV) (Q : VK), Rel B L s → Con B.K s.w p x → Con B.K s.w q y → f p q = some z →
  (∀ w' v, At B L s ⟨s.r, s.s, w'⟩ → RRel B L s ⟨s.r, s.s, w'⟩ z v → Q v w'.H) → rr x y s.w.H Q
def OkR1 (B : BC) (rr : V → Hp → VK → Prop) (f : PV → Option RV) : Prop := ∀ (L : List Addr) (s : BS) (p : PV) (x : V) (z : RV) (Q : VK), Rel B L s → Con B.K s.w p x → f p = some z →
  (∀ w' v, At B L s ⟨s.r, s.s, w'⟩ → RRel B L s ⟨s.r, s.s, w'⟩ z v → Q v w'.H) → rr x s.w.H Q
section
variable {X : Cx} {B : BC} {W : WX} {L : List Addr} {s0 s : BS} {a b c : Expr} {ma mb mc : M RV} {pos : Pos}
theorem Post.look2 {f : PV → PV → Option RV} {ra rb : RV} {x y : V} {Q : VK} {rr : R2} (ok : OkR2 B rr f) (A : At B L s0 s) (ha : RRel B L s0 s ra x) (hb : RRel B L s0 s rb y) (P : Post RRel B L W s0 Q (look2 f ra rb s.r)) : rr x y s.w.H Q := by
  unfold BL.look2 at P
  split at P
  · rename_i p q e1 e2
    split at P
    · rename_i z e3
      exact ok L s p q x y z Q A.rel (peek_con A.rel ha e1) (peek_con A.rel hb e2) e3 fun w' v A' h => P.fin (A.trans A') (h.weak A.x)
    · exact P.elim
  · exact P.elim
theorem Post.look1 {f : PV → Option RV} {ra : RV} {x : V} {Q : VK} {rr : V → Hp → VK → Prop} (ok : OkR1 B rr f) (A : At B L s0 s) (ha : RRel B L s0 s ra x) (P : Post RRel B L W s0 Q (look1 f ra s.r)) : rr x s.w.H Q := by
  unfold BL.look1 at P
  split at P
  · rename_i p e1
    split at P
    · rename_i z e3
      exact ok L s p x z Q A.rel (peek_con A.rel ha e1) e3 fun w' v A' h => P.fin (A.trans A') (h.weak A.x)
    · exact P.elim
  · exact P.elim
/-- both operands are there -/
theorem two {γ δ : Type} {T : RTy γ δ} {σ : L2.St} {H : Hp} {f : RV → RV → M γ} {Q : δ → Hp → Prop} {R2' : V → V → Hp → Prop} (h : tG T B W (ma.bind fun x => mb.bind fun y => f x y) σ H Q)
    (k : ∀ L s0 s x y vx vy, Rel B L s0 → s.s = σ → At B L s0 s → RRel B L s0 s x vx → RRel B L s0 s y vy → Post T B L W s0 Q (f x y s.r) → R2' vx vy s.w.H) : tB B W ma σ H fun x H1 => tB B W mb σ H1 fun y H2 => R2' x y H2 := by
  refine (tG.bind (T := RRel) h).mono fun x H1 q => ?_
  obtain ⟨L, s0, s, r1, e1, rfl, R0, A, h1, P⟩ := q
  subst e1
  refine (Post.bind (T := RRel) R0 A P).mono fun y H2 q => ?_
  obtain ⟨s2, r2, rfl, A2, h2, P2⟩ := q
  exact k L s0 s2 r1 r2 x y R0 A2.e (A.trans A2) (h1.at A2 A.rel) (h2.weak A.x) P2
theorem be_bin {op : Operator} {rr : R2} {f : PV → PV → Option RV} (ho : OpR X (binaryOp op) rr) (ok : OkR2 B rr f) (ha : PE X a (tB B W ma)) (hb : PE X b (tB B W mb)) : PE X (.BinOp a op b pos) (tB B W (mBin f ma mb)) := by
  refine (pe_op ho ha hb).imp fun σ H Q h => ?_
  exact two h fun L s0 s x y vx vy _ _ A h1 h2 P => P.look2 ok A h1 h2
theorem be_un {op : UnaryOp} {rr : V → Hp → VK → Prop} {f : PV → Option RV} (ho : UnR X (unaryOp op) rr) (ok : OkR1 B rr f) (ha : PE X a (tB B W ma)) : PE X (.UnaryOp op a pos) (tB B W (mUn f ma)) := by
  refine (pe_un ho ha).imp fun σ H Q h => ?_
  refine (tG.bind (T := RRel) h).mono fun x H1 q => ?_
  obtain ⟨L, s0, s, r1, e1, rfl, R0, A, h1, P⟩ := q
  exact P.look1 ok A h1
/-- a comparison as a value: f gives a truth value -/
def asV (f : PV → PV → Option Bool) : PV → PV → Option RV := fun p q => (f p q).map fun b => .val (.bl b)
theorem be_cmp {op : CmpOp} {rr : R2} {f : PV → PV → Option Bool} (ho : OpR X (compareOp op) rr) (ok : OkR2 B rr (asV f)) (ha : PE X a (tB B W ma)) (hb : PE X b (tB B W mb)) (hm : behindInMarks op b = false) :
    PE X (.Compare a [op] [b] pos) (tB B W (mBin (asV f) ma mb)) := by
  refine (pe_cmpR ho ha hb hm).imp fun σ H Q h => ?_
  exact two h fun L s0 s x y vx vy _ _ A h1 h2 P => P.look2 ok A h1 h2
theorem two_t {σ : L2.St} {H : Hp} {f : PV → PV → Option Bool} {Q : Bool → Hp → Prop} {rr : R2} (ok : OkR2 B rr (asV f)) (h : tT B W (mTst f ma mb) σ H Q) : tTest (tOp rr (tB B W ma) (tB B W mb)) σ H Q := by
  refine two h fun L s0 s x y vx vy R0 _ A h1 h2 P => ?_
  split at P
  · rename_i p q e3 e4
    split at P
    · rename_i z e5
      refine ok L s p q vx vy (.val (.bl z)) _ A.rel (peek_con A.rel h1 e3) (peek_con A.rel h2 e4) (by unfold asV; rw [e5]; rfl) fun w' v A' hr => ?_
      exact ⟨z, hr, P.fin (A.trans A') rfl⟩
    · exact P.elim
  · exact P.elim
theorem bt_cmp {op : CmpOp} {rr : R2} {f : PV → PV → Option Bool} (ho : OpR X (compareOp op) rr) (ok : OkR2 B rr (asV f)) (ha : PE X a (tB B W ma)) (hb : PE X b (tB B W mb)) (hm : behindInMarks op b = false) :
    PT X (.Compare a [op] [b] pos) (tT B W (mTst f ma mb)) := by
  refine (pt_cmpR ho ha hb hm).imp fun σ H Q h => two_t ok h
/-! chains: a op1 b op2 c -/
def mChain (f g : PV → PV → Option Bool) (a b c : M RV) : M Bool := a.bind fun x => b.bind fun y => fun r => match peek r x, peek r y with
  | some p, some q => (match f p q with
    | some true => (c.bind fun z => fun r => match peek r y, peek r z with
      | some p, some q => (match g p q with | some z => .ok z r | none => .no)
      | _, _ => .no) r
    | some false => .ok false r
    | none => .no)
  | _, _ => .no
def mBoolV (m : M Bool) : M RV := m.bind fun b => M.pure (.val (.bl b))
theorem two_chain {σ : L2.St} {H : Hp} {f g : PV → PV → Option Bool} {Q : Bool → Hp → Prop} {Q' : VK} {rr rr' : R2} (ok : OkR2 B rr (asV f)) (ok' : OkR2 B rr' (asV g)) (h : tT B W (mChain f g ma mb mc) σ H Q) (hq : ∀ b H, Q b H → Q' (.bl b) H) :
    tChain rr rr' (tB B W ma) (tB B W mb) (tB B W mc) σ H Q' := by
  refine two h fun L s0 s x y vx vy R0 es A h1 h2 P2 => ?_
  split at P2
  · rename_i p q e3 e4
    split at P2
    · rename_i e5
      refine ok L s p q vx vy (.val (.bl true)) _ A.rel (peek_con A.rel h1 e3) (peek_con A.rel h2 e4) (by unfold asV; rw [e5]; rfl) fun w' v A' hr => ?_
      refine ⟨true, hr, ?_⟩
      rw [if_pos rfl]
      rw [← es]
      refine (Post.bind (s := ⟨s.r, s.s, w'⟩) (T := RRel) R0 (A.trans A') P2).mono fun z H3 q => ?_
      obtain ⟨s4, r4, rfl, A4, h4, P4⟩ := q
      have h2' := (h2.at A' A.rel).at A4 A'.rel
      split at P4
      · rename_i p q e6 e7
        split at P4
        · rename_i z' e8
          refine ok' L s4 p q vy z (.val (.bl z')) _ A4.rel (peek_con A4.rel h2' e6) (peek_con A4.rel h4 e7) (by unfold asV; rw [e8]; rfl) fun w'' v' A'' hr' => ?_
          have hr' : v' = .bl z' := hr'
          subst hr'
          exact hq _ _ (P4.fin (((A.trans A').trans A4).trans A'') rfl)
        · exact P4.elim
      · exact P4.elim
    · rename_i e5
      refine ok L s p q vx vy (.val (.bl false)) _ A.rel (peek_con A.rel h1 e3) (peek_con A.rel h2 e4) (by unfold asV; rw [e5]; rfl) fun w' v A' hr => ?_
      exact ⟨false, hr, by rw [if_neg Bool.false_ne_true]; exact hq _ _ (P2.fin (A.trans A') rfl)⟩
    · exact P2.elim
  · exact P2.elim
theorem bt_chain {op op' : CmpOp} {rr rr' : R2} {f g : PV → PV → Option Bool} (ho : OpR X (compareOp op) rr) (ok : OkR2 B rr (asV f)) (ho' : OpR X (compareOp op') rr') (ok' : OkR2 B rr' (asV g)) (ha : PE X a (tB B W ma)) (hb : PE X b (tB B W mb)) (hc : PE X c (tB B W mc))
    (hm : lastMarks [op, op'] [b, c] = false := by with_unfolding_all rfl) : PT X (.Compare a [op, op'] [b, c] pos) (tT B W (mChain f g ma mb mc)) := by
  refine (pt_chain ho ho' ha hb hc hm).imp fun σ H Q h => ?_
  exact two_chain ok ok' h fun b H q => ⟨b, rfl, q⟩
theorem boolV {σ : L2.St} {H : Hp} {m : M Bool} {Q : VK} (h : tB B W (mBoolV m) σ H Q) : tT B W m σ H fun b H1 => Q (.bl b) H1 := by
  refine (tG.bind (T := RBool) h).mono fun b H1 q => ?_
  obtain ⟨L, s0, s, r1, e1, rfl, R0, A, h1, P⟩ := q
  cases h1
  exact P.fin A rfl
theorem be_chain {op op' : CmpOp} {rr rr' : R2} {f g : PV → PV → Option Bool} (ho : OpR X (compareOp op) rr) (ok : OkR2 B rr (asV f)) (ho' : OpR X (compareOp op') rr') (ok' : OkR2 B rr' (asV g)) (ha : PE X a (tB B W ma)) (hb : PE X b (tB B W mb)) (hc : PE X c (tB B W mc))
    (hm : lastMarks [op, op'] [b, c] = false := by with_unfolding_all rfl) : PE X (.Compare a [op, op'] [b, c] pos) (tB B W (mBoolV (mChain f g ma mb mc))) := by
  refine (pe_chain ho ho' ha hb hc hm).imp fun σ H Q h => ?_
  exact two_chain ok ok' (boolV h) fun b H q => q
/-! tests -/
def mTruth (m : M RV) : M Bool := m.bind fun x => fun r => match peek r x with
  | some (.bl b) => .ok b r
  | _ => .no
theorem bt_val {e : Expr} {m : M RV} (h : PE X e (tB B W m)) (he : ∀ whole, isTrue e X.env whole = (do let v ← whole; standAt e.pos; holding [v] (truthy v)) := by intro _; rfl) : PT X e (tT B W (mTruth m)) := by
  refine (pt_val h he).imp fun σ H Q h => ?_
  refine (tG.bind (T := RRel) h).mono fun x H1 q => ?_
  obtain ⟨L, s0, s, r1, e1, rfl, R0, A, h1, P⟩ := q
  split at P
  · rename_i b e2
    have hc : x = .bl b := peek_con A.rel h1 e2
    exact ⟨b, hc, P.fin A rfl⟩
  · exact P.elim
def mNotT (m : M Bool) : M Bool := m.bind fun b => M.pure (!b)
def mAndT (m n : M Bool) : M Bool := m.bind fun b => if b = true then n else M.pure false
def mOrT (m n : M Bool) : M Bool := m.bind fun b => if b = true then M.pure true else n
variable {ta tb : M Bool} {rest : List Expr}
theorem bt_not (ha : PT X a (tT B W ta)) : PT X (.UnaryOp .Not a pos) (tT B W (mNotT ta)) := by
  refine (pt_not ha).imp fun σ H Q h => ?_
  refine (tG.bind (T := RBool) h).mono fun b H1 q => ?_
  obtain ⟨L, s0, s, r1, e1, rfl, R0, A, h1, P⟩ := q
  cases h1
  exact P.fin A rfl
theorem same_bool {L : List Addr} {s0 s s2 : BS} {a b : Bool} (x : Ex B L s0 s) (h : RBool B L s s2 a b) : RBool B L s0 s2 a b := h
theorem Post.hereV {m : M RV} {Q : VK} (A : At B L s0 s) (P : Post RRel B L W s0 Q (m s.r)) : tB B W m s.s s.w.H Q := P.here A fun s2 a x _ h => h.weak A.x
theorem Post.hereT {m : M Bool} {Q : Bool → Hp → Prop} (A : At B L s0 s) (P : Post RBool B L W s0 Q (m s.r)) : tT B W m s.s s.w.H Q := P.here A fun s2 a x _ h => h
theorem bw_and1 (ha : PT X a (tT B W ta)) : PW X (.BoolOp .And [a] pos) (tT B W ta) := pw_and1 ha
theorem bw_or1 (ha : PT X a (tT B W ta)) : PW X (.BoolOp .Or [a] pos) (tT B W ta) := pw_or1 ha
theorem bw_and (ha : PT X a (tT B W ta)) (hb : PW X (.BoolOp .And (b :: rest) pos) (tT B W tb)) : PW X (.BoolOp .And (a :: b :: rest) pos) (tT B W (mAndT ta tb)) := by
  refine (pw_and ha hb).imp fun σ H Q h => ?_
  refine (tG.bind (T := RBool) h).mono fun c H1 q => ?_
  obtain ⟨L, s0, s, r1, rfl, rfl, R0, A, h1, P⟩ := q
  cases h1
  cases c with
  | true =>
    exact P.hereT A
  | false => exact P.fin A rfl
theorem bw_or (ha : PT X a (tT B W ta)) (hb : PW X (.BoolOp .Or (b :: rest) pos) (tT B W tb)) : PW X (.BoolOp .Or (a :: b :: rest) pos) (tT B W (mOrT ta tb)) := by
  refine (pw_or ha hb).imp fun σ H Q h => ?_
  refine (tG.bind (T := RBool) h).mono fun c H1 q => ?_
  obtain ⟨L, s0, s, r1, rfl, rfl, R0, A, h1, P⟩ := q
  cases h1
  cases c with
  | true => exact P.fin A rfl
  | false =>
    exact P.hereT A
/-! and, or, not as values (all but the last truth values) -/
def mBoolOf (m : M RV) : M Bool := mTruth m
def mAndV (m n : M RV) : M RV := (mTruth m).bind fun b => if b = true then n else M.pure (.val (.bl false))
def mOrV (m n : M RV) : M RV := (mTruth m).bind fun b => if b = true then M.pure (.val (.bl true)) else n
def mNotV (m : M RV) : M RV := (mTruth m).bind fun b => M.pure (.val (.bl (!b)))
theorem truth1 {σ : L2.St} {H : Hp} {m : M RV} {f : Bool → M RV} {Q : VK} (h : tB B W ((mTruth m).bind f) σ H Q) :
    tB B W m σ H fun x H1 => ∃ c, x = .bl c ∧ ∃ L s0 s, s.s = σ ∧ s.w.H = H1 ∧ At B L s0 s ∧ Post RRel B L W s0 Q (f c s.r) := by
  have h2 := tG.bind (T := RBool) h
  refine (tG.bind (T := RRel) h2).mono fun x H1 q => ?_
  obtain ⟨L, s0, s, r1, rfl, rfl, R0, A, h1, P⟩ := q
  split at P
  · rename_i b e2
    have hc : x = .bl b := peek_con A.rel h1 e2
    obtain ⟨L', s0', s', a, h3, h4, h5, h6, h7, h8⟩ := P.fin A rfl
    cases h7
    exact ⟨_, hc, L', s0', s', h3, h4, h6, h8⟩
  · exact P.elim
theorem be_not (ha : PE X a (tB B W ma)) : PE X (.UnaryOp .Not a pos) (tB B W (mNotV ma)) := by
  refine (pe_not ha).imp fun σ H Q h => ?_
  refine (truth1 h).mono fun x H1 q => ?_
  obtain ⟨c, e, L, s0, s, rfl, rfl, A, P⟩ := q
  exact ⟨c, e, P.fin A rfl⟩
theorem be_and (ha : PE X a (tB B W ma)) (hb : PE X (.BoolOp .And (b :: rest) pos) (tB B W mb)) : PE X (.BoolOp .And (a :: b :: rest) pos) (tB B W (mAndV ma mb)) := by
  refine (pe_and ha hb).imp fun σ H Q h => ?_
  refine (truth1 h).mono fun x H1 q => ?_
  obtain ⟨c, e, L, s0, s, rfl, rfl, A, P⟩ := q
  refine ⟨c, e, ?_⟩
  cases c with
  | true => exact P.hereV A
  | false => exact P.fin A rfl
theorem be_or (ha : PE X a (tB B W ma)) (hb : PE X (.BoolOp .Or (b :: rest) pos) (tB B W mb)) : PE X (.BoolOp .Or (a :: b :: rest) pos) (tB B W (mOrV ma mb)) := by
  refine (pe_or ha hb).imp fun σ H Q h => ?_
  refine (truth1 h).mono fun x H1 q => ?_
  obtain ⟨c, e, L, s0, s, rfl, rfl, A, P⟩ := q
  refine ⟨c, e, ?_⟩
  cases c with
  | true => exact P.fin A rfl
  | false => exact P.hereV A
theorem be_one {op} (ha : PE X a (tB B W ma)) : PE X (.BoolOp op [a] pos) (tB B W ma) := pe_one ha
def mIf (t : M Bool) (m n : M RV) : M RV := t.bind fun b => if b = true then m else n
theorem be_if (hc : PT X c (tT B W ta)) (ha : PE X a (tB B W ma)) (hb : PE X b (tB B W mb)) : PE X (.IfExp c a b pos) (tB B W (mIf ta ma mb)) := by
  refine (pe_ifExp hc ha hb).imp fun σ H Q h => ?_
  refine (tG.bind (T := RBool) h).mono fun d H1 q => ?_
  obtain ⟨L, s0, s, r1, rfl, rfl, R0, A, h1, P⟩ := q
  cases h1
  cases d with
  | true => exact P.hereV A
  | false => exact P.hereV A
end
end
end BL
/-! B, operations on contents. -/
namespace BL
noncomputable section
open PySem PySem.Spec PyProof.Rows L2
section
variable {B : BC} {L : List Addr} {s : BS} {p : Addr} {o : HO}
theorem noGood (w : Wd) : GoodM (fun _ => False) w := fun _ h => h.elim
theorem Rel.grow (R : Rel B L s) {w' : Wd} (st : Step (fun _ => False) s.w w') (hO : w'.O = s.w.O) (hF : ∀ a, w'.F a → s.w.F a) : At B L s ⟨s.r, s.s, w'⟩ := by
  have g := noGood s.w
  refine ⟨⟨st.mono fun _ h => h.elim, ⟨R.len, R.lnL, fun i x e => ?_, fun k t a e e2 => ?_, R.inj, fun a f => ?_, fun a h => ?_, R.sL, by rw [hO]; exact R.od, by rw [hO]; exact R.nd, fun a h f => R.nf a (hO ▸ h) (hF a f), fun n a I e e2 => ?_⟩, fun _ a h => .inl h, fun _ a h _ => .inl h⟩, rfl⟩
  · have := R.sl i x e
    cases x with
    | no => trivial
    | val p =>
      obtain ⟨v, e1, h⟩ := this
      exact ⟨v, e1, Rep.step st g h⟩
    | own l p =>
      obtain ⟨v, e1, h⟩ := this
      exact ⟨v, e1, ORep.step st g h id⟩
    | loan k => exact this
  · have := R.ln k t a e e2
    obtain ⟨t, p⟩ := t
    cases t with
    | froz => exact Rep.step st g this
    | live => exact ORep.step st g this id
    | lock => exact ORep.step st g this id
  · obtain ⟨o, e, m⟩ := R.fd a (hF a f)
    exact ⟨o, st.keep a o e id, m⟩
  · obtain ⟨o, e⟩ := R.lx a h
    exact ⟨o, st.keep a o e id⟩
  · have e : s.w.O[n]? = some a := by
      rw [← hO]
      exact e
    obtain ⟨C, dx, fs, h1, h2, h3, h4⟩ := R.st n a I e e2
    exact ⟨C, dx, fs, h1, st.keep a _ h2 id, h3, Reps.step st g h4⟩
theorem Rel.alloc (R : Rel B L s) (hn : s.w.H p = none) : At B L s ⟨s.r, s.s, ⟨upd s.w.H p o, s.w.F, s.w.O⟩⟩ := by
  have ne : ∀ a u, s.w.H a = some u → a ≠ p := fun a u e => ne_of_none e hn
  exact R.grow ⟨fun a u e => ⟨u, by show upd s.w.H p o a = _; rw [upd_ne (ne a u e)]; exact e⟩, fun a u e _ => by show upd s.w.H p o a = _; rw [upd_ne (ne a u e)]; exact e, fun _ h => h, fun _ _ _ h => .inl h, ⟨[], by simp⟩, fun _ _ _ h => h⟩ rfl fun _ h => h
theorem Rel.notHeld (R : Rel B L s) (hn : s.w.H p = none) : ¬ Held L s p := fun ⟨h, e⟩ => by
  obtain ⟨q, ho⟩ := held_orep R e
  obtain ⟨o, eo⟩ := ho.there
  rw [hn] at eo
  cases eo
theorem Rel.notF (R : Rel B L s) (hn : s.w.H p = none) : ¬ s.w.F p := fun f => by
  obtain ⟨o, e, _⟩ := R.fd p f
  rw [hn] at e
  cases e
theorem Rel.notO (R : Rel B L s) (hn : s.w.H p = none) : p ∉ s.w.O := fun h => by
  obtain ⟨C, dx, fs, e⟩ := inst_some R h
  rw [hn] at e
  cases e
theorem Rel.newList (R : Rel B L s) (hn : s.w.H p = none) {xs : List PV} {vs : List V} (h : Reps B.K s.w xs vs) : RRel B L s ⟨s.r, s.s, ⟨upd s.w.H p (.lst vs), s.w.F, s.w.O⟩⟩ (.fresh (.lst xs)) (.ref p) :=
  ⟨p, rfl, ⟨R.notF hn, R.notO hn, .inl ⟨xs, vs, rfl, upd_same, ((R.alloc hn (o := .lst vs)).x.reps R h)⟩⟩, R.notHeld hn, hn⟩
theorem Rel.newTup (R : Rel B L s) (hn : s.w.H p = none) {xs : List PV} {vs : List V} (h : Reps B.K s.w xs vs) : RRel B L s ⟨s.r, s.s, ⟨upd s.w.H p (.tup vs), s.w.F, s.w.O⟩⟩ (.val (.tup xs)) (.ref p) :=
  ⟨p, vs, rfl, upd_same, ((R.alloc hn (o := .tup vs)).x.reps R h)⟩
end
def lim : Nat := 16777216
theorem lim_eq : lim = sizeLine := sizeLine_eq.symm
/-! ### + - * // % ** -/
def addF : PV → PV → Option RV
  | .int i, .int j => some (.val (.int (i + j)))
  | .str a, .str b => @ite _ (a.length + b.length ≤ lim) (Classical.propDecidable _) (some (.val (.str (a ++ b)))) none
  | .lst a, .lst b => @ite _ (a.length + b.length ≤ lim) (Classical.propDecidable _) (some (.fresh (.lst (a ++ b)))) none
  | .tup a, .tup b => @ite _ (a.length + b.length ≤ lim) (Classical.propDecidable _) (some (.val (.tup (a ++ b)))) none
  | _, _ => none
abbrev rAdd (K : PySem.W.Frag) : R2 := fun x y H Q => rI0 (fun i j => .int (i + j)) x y H Q ∨ (fun x y H Q => ∃ i j, x = .str i ∧ y = .str j ∧ i.length + j.length ≤ sizeLine ∧ Q (.str (i ++ j)) H) x y H Q ∨ rCat x y H Q ∨ rCatA K x y H Q
section
variable {X : Cx} {B : BC}
theorem op_addB : OpR X (binaryOp .Add) (rAdd X.K) := op_add.or (op_add_str.or (op_cat.or op_catA))
theorem ok_add : OkR2 B (rAdd B.K) addF := by
  intro L s p q x y z Q R cp cq e k
  unfold addF at e
  split at e
  · cases e
    cases (show x = .int _ from cp)
    cases (show y = .int _ from cq)
    exact .inl ⟨_, _, rfl, rfl, k s.w _ (.refl R) rfl⟩
  · split at e
    · rename_i hz
      cases e
      cases (show x = .str _ from cp)
      cases (show y = .str _ from cq)
      exact .inr (.inl ⟨_, _, rfl, rfl, by rw [← lim_eq]; exact hz, k s.w _ (.refl R) rfl⟩)
    · cases e
  · split at e
    · rename_i hz
      cases e
      obtain ⟨a, vs, rfl, h1, r1⟩ := cp
      obtain ⟨b, us, rfl, h2, r2⟩ := cq
      exact .inr (.inr (.inl ⟨a, b, vs, us, rfl, rfl, h1, h2, by rw [← r1.length, ← r2.length, ← lim_eq]; exact hz, fun p hn => k _ _ (R.alloc hn) (R.newList hn (r1.append r2))⟩))
    · cases e
  · split at e
    · rename_i hz
      cases e
      obtain ⟨a, vs, rfl, h1, r1⟩ := cp
      obtain ⟨b, us, rfl, h2, r2⟩ := cq
      refine .inr (.inr (.inr ⟨a, b, vs, us, rfl, rfl, .inl (.inl h1), .inl (.inl h2), by rw [← r1.length, ← r2.length, ← lim_eq]; exact hz, fun e => ?_, fun e1 e => ?_, fun e1 e2 p hn => ?_⟩))
      · subst e
        exact k s.w _ (.refl R) ⟨b, [] ++ us, rfl, h2, r1.append r2⟩
      · subst e
        exact k s.w _ (.refl R) ⟨a, vs ++ [], rfl, by rw [List.append_nil]; exact h1, r1.append r2⟩
      · exact k _ _ (R.alloc hn) (R.newTup hn (r1.append r2))
    · cases e
  · cases e
def subF : PV → PV → Option RV
  | .int i, .int j => some (.val (.int (i - j)))
  | _, _ => none
theorem ok_sub : OkR2 B (rI0 fun i j => .int (i - j)) subF := by
  intro L s p q x y z Q R cp cq e k
  unfold subF at e
  split at e
  · cases e
    cases (show x = .int _ from cp)
    cases (show y = .int _ from cq)
    exact ⟨_, _, rfl, rfl, k s.w _ (.refl R) rfl⟩
  · cases e
/-- // by a positive divisor, % by a positive divisor -/
def divF : PV → PV → Option RV
  | .int i, .int j => @ite _ (0 < j ∧ j.natAbs.log2 < 9000) (Classical.propDecidable _) (some (.val (.int (i / j)))) none
  | _, _ => none
def modF : PV → PV → Option RV
  | .int i, .int j => @ite _ (0 < j) (Classical.propDecidable _) (some (.val (.int (i % j)))) none
  | _, _ => none
theorem ok_div : OkR2 B (rI CDivW fun i j => .int (i / j)) divF := by
  intro L s p q x y z Q R cp cq e k
  unfold divF at e
  split at e
  · split at e
    · rename_i hz
      cases e
      cases (show x = .int _ from cp)
      cases (show y = .int _ from cq)
      exact ⟨_, _, rfl, rfl, hz, k s.w _ (.refl R) rfl⟩
    · cases e
  · cases e
theorem ok_mod : OkR2 B (rI (fun _ j => 0 < j) fun i j => .int (i % j)) modF := by
  intro L s p q x y z Q R cp cq e k
  unfold modF at e
  split at e
  · split at e
    · rename_i hz
      cases e
      cases (show x = .int _ from cp)
      cases (show y = .int _ from cq)
      exact ⟨_, _, rfl, rfl, hz, k s.w _ (.refl R) rfl⟩
    · cases e
  · cases e
/-- a ** n, n small, a below 2 ^ 100000 -/
def powF : PV → PV → Option RV
  | .int i, .int j => @ite _ (0 ≤ j ∧ j ≤ 1000 ∧ i.natAbs.log2 < 100000) (Classical.propDecidable _) (some (.val (.int (i ^ j.toNat)))) none
  | _, _ => none
theorem op_powB : OpR X (binaryOp .Pow) (rI (fun i j => 0 ≤ j ∧ j ≤ 1000 ∧ i.natAbs.log2 < 100000) fun i j => .int (i ^ j.toNat)) := opI fun i j _ _ _ _ _ hc q => by
  refine pow_int hc.1 ?_ q
  have h1 := hc.1
  have h2 := hc.2.1
  have h3 := hc.2.2
  have b : Builtin.Int.intBits i ≤ i.natAbs.log2 + 1 := by
    unfold Builtin.Int.intBits
    split <;> omega
  have c : ((Builtin.Int.intBits i : Nat) : Int) * j ≤ 100000 * j := Int.mul_le_mul_of_nonneg_right (by omega) h1
  omega
theorem ok_pow : OkR2 B (rI (fun i j => 0 ≤ j ∧ j ≤ 1000 ∧ i.natAbs.log2 < 100000) fun i j => .int (i ^ j.toNat)) powF := by
  intro L s p q x y z Q R cp cq e k
  unfold powF at e
  split at e
  · split at e
    · rename_i hz
      cases e
      cases (show x = .int _ from cp)
      cases (show y = .int _ from cq)
      exact ⟨_, _, rfl, rfl, hz, k s.w _ (.refl R) rfl⟩
    · cases e
  · cases e
def negF : PV → Option RV
  | .int i => some (.val (.int (-i)))
  | _ => none
theorem ok_neg : OkR1 B (rU fun i => .int (-i)) negF := by
  intro L s p x z Q R cp e k
  unfold negF at e
  split at e
  · cases e
    cases (show x = .int _ from cp)
    exact ⟨_, rfl, k s.w _ (.refl R) rfl⟩
  · cases e
end
/-! ### a tuple or a text times an int -/
theorem tuple_mul_same (l : Addr) (items : Array Value) (n : Nat) (dd : Option Addr) (sl : Array (Option Value)) (x : Int) (u : Tok) (c0 : (decide (x < -(2 ^ 63)) || decide (x ≥ 2 ^ 63)) = false) (c1 : (items.isEmpty || x == 1) = true) :
    Meets (Builtin.«tuple.__mul__» ⟨[.ref l, .int x u], []⟩) (fun _ R s => s.heap.get? l = some { cls := .type "tuple", dict := dd, data := .seq items n, slots := sl } ∧ R (.ok (.ret (Value.ref l))) s) :=
  .of_wp fun prog w A R s h => by
    obtain ⟨hp, g, d, tk, os⟩ := s
    obtain ⟨hl, h⟩ := h
    have f1 := AutoSeq1.idx_int
    wp_walk using AutoSeq1.wpAny_loadPart' hl
    refine wpAny_ite_false (decide_eq_false (by rw [c0]; exact Bool.false_ne_true)) ?_
    wp_walk using AutoSeq1.wpAny_loadPart' hl
    exact ⟨_, rfl, h⟩
theorem tuple_mul_none (l : Addr) (items : Array Value) (n : Nat) (dd : Option Addr) (sl : Array (Option Value)) (x : Int) (u : Tok) (c0 : (decide (x < -(2 ^ 63)) || decide (x ≥ 2 ^ 63)) = false) (c1 : (items.isEmpty || x == 1) = false) (c2 : (decide (x ≤ 0) || items.isEmpty) = true) :
    Meets (Builtin.«tuple.__mul__» ⟨[.ref l, .int x u], []⟩) (fun _ R s => s.heap.get? l = some { cls := .type "tuple", dict := dd, data := .seq items n, slots := sl } ∧
      R (.ok (.ret (Value.ref s.heap.objs.size))) { s with heap := s.heap.push { cls := Value.type "tuple", data := Data.seq #[] } }) :=
  .of_wp fun prog w A R s h => by
    obtain ⟨hp, g, d, tk, os⟩ := s
    obtain ⟨hl, h⟩ := h
    have f1 := AutoSeq1.idx_int
    wp_walk using AutoSeq1.wpAny_loadPart' hl
    repeat (first
      | (refine wpAny_ite_false (decide_eq_false (by rw [c0]; exact Bool.false_ne_true)) ?_; wp_walk using AutoSeq1.wpAny_loadPart' hl)
      | (refine wpAny_ite_false (decide_eq_false (by rw [c1]; exact Bool.false_ne_true)) ?_; wp_walk using AutoSeq1.wpAny_loadPart' hl)
      | (refine wpAny_ite_true (decide_eq_true (by rw [c2])) ?_; wp_walk using AutoSeq1.wpAny_loadPart' hl))
    exact ⟨_, rfl, h⟩
/-- t * k, any t, k -/
def rRepA (K : PySem.W.Frag) : R2 := fun x y H Q => ∃ l k xs, x = .ref l ∧ y = .int k ∧ SqT K H l xs ∧ k ≤ 1000 ∧ -1000 ≤ k ∧ xs.length ≤ 1000 ∧
  (k = 1 ∨ xs = [] → Q (.ref l) H) ∧ (k ≤ 0 → xs ≠ [] → ∀ p, H p = none → Q (.ref p) (upd H p (.tup []))) ∧ (2 ≤ k → xs ≠ [] → ∀ p, H p = none → Q (.ref p) (upd H p (.tup (List.replicate k.toNat xs).flatten)))
section
variable {X : Cx} {B : BC}
theorem op_repA : OpR X (binaryOp .Mult) (rRepA X.K) := by
  intro pins s σ H x y v u Q I rx ry h
  obtain ⟨l, k, xs, rfl, rfl, hT, h2, h1, hz, q0, q1, q2⟩ := h
  by_cases hk2 : 2 ≤ k ∧ xs ≠ []
  · exact op_repT pins s σ H _ _ v u Q I rx ry ⟨l, k, xs, rfl, rfl, hT, hk2.2, hk2.1, h2, hz, q2 hk2.1 hk2.2⟩
  cases rx
  obtain ⟨t, rfl⟩ := ry
  obtain ⟨its, r, ⟨⟨cls, dd, data, sl⟩, ho, hc, n, hd⟩, hs⟩ := I.tuple hT
  simp only at hc hd
  subst hc hd
  have hle : its.length = xs.length := r.length.symm
  have c0 : (decide (k < -(2 ^ 63)) || decide (k ≥ 2 ^ 63)) = false := by
    rw [decide_eq_false (by omega), decide_eq_false (by omega)] <;> rfl
  have he : its.toArray.isEmpty = xs.isEmpty := by
    cases its with
    | nil => cases xs with
      | nil => rfl
      | cons a b => simp at hle
    | cons a b => cases xs with
      | nil => simp at hle
      | cons a b => rfl
  by_cases hs1 : k = 1 ∨ xs = []
  · have c1 : (its.toArray.isEmpty || k == 1) = true := by
      rcases hs1 with e | e
      · subst e
        simp
      · subst e
        rw [he]
        rfl
    exact wpAny_binaryOp_repeat_ref (T := "tuple") (U := "int") (by decide) ⟨_, ho, rfl⟩ (fun s' => typeIs_int s' k t) noFill_tuple_mul F.fills_int_mul F.slot_int_rmul repeat_tuple F.slot_int_index.lookup
      (call_meets F.slot_int_rmul (typeIs_int s k t) F.entry_int_rmul (F.args_int_rmul_2 _ _) (int_rmul_tuple k t l its.toArray n dd sl)
        ⟨ho, rfl, ⟨_, ho, rfl⟩, call_meets F.slot_tuple_mul ⟨_, ho, rfl⟩ F.entry_tuple_mul (F.args_tuple_mul_2 _ _) (tuple_mul_same l its.toArray n dd sl k t c0 c1) ⟨ho, ⟨.ref l, H, I, rfl, q0 hs1⟩⟩⟩)
  · have hx : xs ≠ [] := fun e => hs1 (.inr e)
    have hk : k ≤ 0 := by
      have h3 : ¬ k = 1 := fun e => hs1 (.inl e)
      have h4 : ¬ 2 ≤ k := fun e => hk2 ⟨e, hx⟩
      omega
    have hxe : xs.isEmpty = false := by
      cases xs with
      | nil => exact absurd rfl hx
      | cons a b => rfl
    have c1 : (its.toArray.isEmpty || k == 1) = false := by
      rw [he, hxe, Bool.false_or]
      exact beq_eq_false_iff_ne.mpr (by omega)
    have c2 : (decide (k ≤ 0) || its.toArray.isEmpty) = true := by
      rw [decide_eq_true hk]
      rfl
    refine wpAny_binaryOp_repeat_ref (T := "tuple") (U := "int") (by decide) ⟨_, ho, rfl⟩ (fun s' => typeIs_int s' k t) noFill_tuple_mul F.fills_int_mul F.slot_int_rmul repeat_tuple F.slot_int_index.lookup
      (call_meets F.slot_int_rmul (typeIs_int s k t) F.entry_int_rmul (F.args_int_rmul_2 _ _) (int_rmul_tuple k t l its.toArray n dd sl)
        ⟨ho, rfl, ⟨_, ho, rfl⟩, call_meets F.slot_tuple_mul ⟨_, ho, rfl⟩ F.entry_tuple_mul (F.args_tuple_mul_2 _ _) (tuple_mul_none l its.toArray n dd sl k t c0 c1 c2) ⟨ho, ?_⟩⟩)
    refine ⟨.ref s.heap.objs.size, _, I.laid (t' := s.toks) (o := .tup []) (fun b ob q => Heap.get?_push_of_some _ q) (Nat.le_refl _) ?_, rfl, q1 hk hx _ (I.hok.fresh (Nat.le_refl _))⟩
    exact ⟨Nat.zero_le _, _, .nil, IsTup.new _ _⟩
/-- a text times an int -/
def repS (a : Str) (k : Int) : Str := ⟨(List.replicate k.toNat a.cps.toList).flatten.toArray⟩
theorem op_repS : OpR X (binaryOp .Mult) (fun x y H Q => ∃ a k, x = .str a ∧ y = .int k ∧ k ≤ 100000 ∧ -100000 ≤ k ∧ a.length ≤ 100 ∧ Q (.str (repS a k)) H) := by
  intro pins s σ H x y v u Q I rx ry h
  obtain ⟨a, k, rfl, rfl, h2, h1, hz, q⟩ := h
  obtain ⟨t, rfl⟩ := rx
  obtain ⟨t', rfl⟩ := ry
  have fe : (List.replicate k.toNat a.cps).foldl (· ++ ·) #[] = (List.replicate k.toNat a.cps.toList).flatten.toArray := by
    have gen : ∀ (m : Nat) (acc : Array Nat), (List.replicate m a.cps).foldl (· ++ ·) acc = acc ++ (List.replicate m a.cps.toList).flatten.toArray := by
      intro m
      induction m with
      | zero => intro acc; simp
      | succ m ih =>
        intro acc
        rw [List.replicate_succ, List.foldl_cons, ih, List.replicate_succ, List.flatten_cons]
        apply Array.ext'
        simp
    rw [gen]
    apply Array.ext'
    simp
  refine PySem.P.mul_str (by rw [decide_eq_false (by omega), decide_eq_false (by omega)] <;> rfl) (fun hn hm => ?_) (fun hn hm => ?_) ?_
  · have : ((2 ^ 63 - 1 : Int)) / k ≥ 1000 := by
      refine Int.le_ediv_of_mul_le (by omega) ?_
      omega
    omega
  · have hle : a.length * k.toNat ≤ 100 * 100000 := Nat.mul_le_mul hz (by omega)
    show decide (_ > _) = false
    exact decide_eq_false (by rw [sizeLine_eq]; omega)
  · by_cases hn : k < 1
    · rw [if_pos hn]
      refine ⟨Nat.zero_le _, .str Str.empty, H, I.tok _, ⟨_, rfl⟩, ?_⟩
      have : repS a k = Str.empty := by
        unfold repS
        rw [show k.toNat = 0 by omega]
        rfl
      rw [this] at q
      exact q
    · rw [if_neg hn]
      by_cases hm : (k == 1 || a.length == 0) = true
      · rw [if_pos hm]
        refine ⟨.str a, H, I, ⟨_, rfl⟩, ?_⟩
        have : repS a k = a := by
          unfold repS
          rcases Bool.or_eq_true _ _ ▸ hm with e | e
          · have e := beq_iff_eq.mp e
            subst e
            simp
          · have e : a.cps.size = 0 := beq_iff_eq.mp e
            have e2 : a.cps = #[] := Array.eq_empty_of_size_eq_zero e
            obtain ⟨c⟩ := a
            simp only at e2
            subst e2
            simp
        rw [this] at q
        exact q
      · rw [if_neg hm]
        have hle : a.length * k.toNat ≤ 100 * 100000 := Nat.mul_le_mul hz (by omega)
        have hs : (⟨(List.replicate k.toNat a.cps).foldl (· ++ ·) #[]⟩ : Str) = repS a k := by
          unfold repS
          rw [fe]
        rw [hs]
        refine ⟨?_, .str (repS a k), H, I.tok _, ⟨_, rfl⟩, q⟩
        show (List.replicate k.toNat a.cps.toList).flatten.toArray.size ≤ sizeLine
        rw [List.size_toArray, PyProof.Rows.lm_len_rep_flat, sizeLine_eq, Nat.mul_comm]
        have e : a.cps.toList.length = a.length := Array.length_toList
        rw [e]
        omega
end
section
variable {X : Cx} {B : BC} {K : PySem.W.Frag} {w : Wd}
theorem Reps.rep {xs : List PV} {vs : List V} (h : Reps K w xs vs) : ∀ n : Nat, Reps K w (List.replicate n xs).flatten (List.replicate n vs).flatten
  | 0 => rfl
  | n + 1 => by
    rw [List.replicate_succ, List.replicate_succ, List.flatten_cons, List.flatten_cons]
    exact h.append (Reps.rep h n)
def mulF : PV → PV → Option RV
  | .int i, .int j => @ite _ (i.natAbs.log2 + j.natAbs.log2 < 1000000) (Classical.propDecidable _) (some (.val (.int (i * j)))) none
  | .lst a, .int k => @ite _ (k ≤ 1000000 ∧ -1000000 ≤ k ∧ a.length * k.toNat ≤ lim) (Classical.propDecidable _) (some (.fresh (.lst (List.replicate k.toNat a).flatten))) none
  | .tup a, .int k => @ite _ (k ≤ 1000 ∧ -1000 ≤ k ∧ a.length ≤ 1000) (Classical.propDecidable _) (some (.val (.tup (List.replicate k.toNat a).flatten))) none
  | .str a, .int k => @ite _ (k ≤ 100000 ∧ -100000 ≤ k ∧ a.length ≤ 100) (Classical.propDecidable _) (some (.val (.str (repS a k)))) none
  | _, _ => none
abbrev rMul (K : PySem.W.Frag) : R2 := fun x y H Q => rI CMulW (fun i j => .int (i * j)) x y H Q ∨ rRep x y H Q ∨ rRepA K x y H Q ∨ (fun x y H Q => ∃ a k, x = .str a ∧ y = .int k ∧ k ≤ 100000 ∧ -100000 ≤ k ∧ a.length ≤ 100 ∧ Q (.str (repS a k)) H) x y H Q
theorem op_mulB : OpR X (binaryOp .Mult) (rMul X.K) := op_mulW.or (op_rep.or (op_repA.or op_repS))
theorem ok_mul : OkR2 B (rMul B.K) mulF := by
  intro L s p q x y z Q R cp cq e k
  unfold mulF at e
  split at e
  · split at e
    · rename_i hz
      cases e
      cases (show x = .int _ from cp)
      cases (show y = .int _ from cq)
      exact .inl ⟨_, _, rfl, rfl, hz, k s.w _ (.refl R) rfl⟩
    · cases e
  · split at e
    · rename_i hz
      cases e
      obtain ⟨a, vs, rfl, h1, r1⟩ := cp
      cases (show y = .int _ from cq)
      exact .inr (.inl ⟨a, _, vs, rfl, rfl, h1, by omega, by omega, by rw [← r1.length, ← lim_eq]; exact hz.2.2, fun p hn => k _ _ (R.alloc hn) (R.newList hn (r1.rep _))⟩)
    · cases e
  · split at e
    · rename_i hz
      cases e
      obtain ⟨a, vs, rfl, h1, r1⟩ := cp
      cases (show y = .int _ from cq)
      refine .inr (.inr (.inl ⟨a, _, vs, rfl, rfl, .inl (.inl h1), hz.1, hz.2.1, by rw [← r1.length]; exact hz.2.2, fun e => ?_, fun e1 e2 p hn => ?_, fun e1 e2 p hn => k _ _ (R.alloc hn) (R.newTup hn (r1.rep _))⟩))
      · refine k s.w _ (.refl R) ⟨a, vs, rfl, h1, ?_⟩
        rcases e with e | e
        · subst e
          rw [show (1 : Int).toNat = 1 from rfl, List.replicate_one, List.flatten_singleton]
          exact r1
        · subst e
          have := Reps.rep r1 (Int.toNat ‹Int›)
          simpa using this
      · rename_i kk
        have e0 : kk.toNat = 0 := by omega
        refine k _ _ (R.alloc hn (o := .tup [])) ?_
        rw [e0]
        exact R.newTup hn (xs := []) (vs := []) rfl
    · cases e
  · split at e
    · rename_i hz
      cases e
      cases (show x = .str _ from cp)
      cases (show y = .int _ from cq)
      exact .inr (.inr (.inr ⟨_, _, rfl, rfl, hz.1, hz.2.1, hz.2.2, k s.w _ (.refl R) rfl⟩))
    · cases e
  · cases e
/-! ### comparisons of ints -/
/-- the same truth value, which the kernel does not work out -/
def slB (b : Bool) : Bool := @decide (b = true) (Classical.propDecidable _)
theorem slB_eq (b : Bool) : slB b = b := by
  unfold slB
  cases b
  · exact @decide_eq_false _ (Classical.propDecidable _) (fun h => Bool.noConfusion h)
  · exact @decide_eq_true _ (Classical.propDecidable _) rfl
def cmpI (f : Int → Int → Bool) : PV → PV → Option Bool
  | .int i, .int j => some (slB (f i j))
  | _, _ => none
theorem ok_cmpI (f : Int → Int → Bool) : OkR2 B (rI0 fun i j => .bl (f i j)) (asV (cmpI f)) := by
  intro L s p q x y z Q R cp cq e k
  unfold asV cmpI at e
  split at e
  · cases e
    cases (show x = .int _ from cp)
    cases (show y = .int _ from cq)
    exact ⟨_, _, rfl, rfl, k s.w _ (.refl R) (by show _ = V.bl _; rw [slB_eq])⟩
  · cases e
abbrev ltI : Int → Int → Bool := fun i j => decide (i < j)
abbrev leI : Int → Int → Bool := fun i j => decide (i ≤ j)
abbrev gtI : Int → Int → Bool := fun i j => decide (j < i)
abbrev geI : Int → Int → Bool := fun i j => decide (j ≤ i)
/-! ### == of data -/
mutual
def toD : PV → Option PyData
  | .non => some .none
  | .bl b => some (.bool b)
  | .int i => some (.int i)
  | .str s => some (.str s)
  | .tup xs => (toDs xs).map .tuple
  | .lst xs => (toDs xs).map .list
  | _ => none
def toDs : List PV → Option (List PyData)
  | [] => some []
  | x :: xs => match toD x, toDs xs with
    | some d, some ds => some (d :: ds)
    | _, _ => none
end
mutual
theorem toD_rep : ∀ {p : PV} {v : V} {d : PyData}, Rep K w p v → toD p = some d → Dp K w.H v d
  | .non, _, _, h, e => by
    cases e
    cases (show _ = V.non from h)
    exact .non
  | .bl b, _, _, h, e => by
    cases e
    cases (show _ = V.bl b from h)
    exact .bl b
  | .int i, _, _, h, e => by
    cases e
    cases (show _ = V.int i from h)
    exact .int i
  | .str i, _, _, h, e => by
    cases e
    cases (show _ = V.str i from h)
    exact .str i
  | .tup xs, _, _, h, e => by
    obtain ⟨a, vs, rfl, h1, r⟩ := h
    unfold toD at e
    cases e2 : toDs xs with
    | none => rw [e2] at e; cases e
    | some ds =>
      rw [e2] at e
      cases e
      exact .tup (.inl (.inl h1)) (toDs_rep r e2)
  | .lst xs, _, _, h, e => by
    obtain ⟨a, vs, rfl, h1, r⟩ := h
    unfold toD at e
    cases e2 : toDs xs with
    | none => rw [e2] at e; cases e
    | some ds =>
      rw [e2] at e
      cases e
      exact .lst (.inl (.inl h1.1)) (toDs_rep r e2)
  | .dic _ _, _, _, _, e => by cases e
  | .obj _, _, _, _, e => by cases e
  | .exc _, _, _, _, e => by cases e
  | .scr _, _, _, _, e => by cases e
theorem toDs_rep : ∀ {ps : List PV} {vs : List V} {ds : List PyData}, Reps K w ps vs → toDs ps = some ds → DpAll K w.H vs ds
  | [], _, _, h, e => by
    cases e
    cases (show _ = ([] : List V) from h)
    exact .nil
  | p :: ps, _, _, h, e => by
    obtain ⟨v, r, rfl, h1, h2⟩ := h
    unfold toDs at e
    cases e1 : toD p with
    | none => rw [e1] at e; cases e
    | some d =>
      cases e2 : toDs ps with
      | none => rw [e1, e2] at e; cases e
      | some ds =>
        rw [e1, e2] at e
        cases e
        exact .cons (toD_rep h1 e1) (toDs_rep h2 e2)
end
theorem toD_con {p : PV} {v : V} {d : PyData} (h : Con K w p v) (e : toD p = some d) : Dp K w.H v d := by
  cases p with
  | lst xs =>
    obtain ⟨a, vs, rfl, h1, r⟩ := h
    unfold toD at e
    cases e2 : toDs xs with
    | none => rw [e2] at e; cases e
    | some ds =>
      rw [e2] at e
      cases e
      exact .lst (.inl (.inl h1)) (toDs_rep r e2)
  | dic ks xs => cases e
  | _ => exact toD_rep h e
/-- data that == may be asked of -/
def datP (p : PV) : Option PyData := match toD p with
  | some d => @ite _ (SeqAt.shaped d = true) (Classical.propDecidable _) (some d) none
  | none => none
theorem datP_inv {p : PV} {d : PyData} (h : datP p = some d) : toD p = some d ∧ SeqAt.shaped d = true := by
  unfold datP at h
  split at h
  · rename_i d' e
    split at h
    · rename_i hs
      cases h
      exact ⟨e, hs⟩
    · cases h
  · cases h
def eqF (p q : PV) : Option Bool := match datP p, datP q with
  | some d, some e => some (PyData.eqv d e)
  | _, _ => none
def neF (p q : PV) : Option Bool := (eqF p q).map (!·)
theorem ok_eq : OkR2 B (rEqD B.K) (asV eqF) := by
  intro L s p q x y z Q R cp cq e k
  unfold asV eqF at e
  split at e
  · rename_i d d' e1 e2
    cases e
    obtain ⟨h1, s1⟩ := datP_inv e1
    obtain ⟨h2, s2⟩ := datP_inv e2
    exact ⟨d, d', toD_con cp h1, toD_con cq h2, s1, s2, k s.w _ (.refl R) rfl⟩
  · cases e
theorem ok_ne : OkR2 B (rNeD B.K) (asV neF) := by
  intro L s p q x y z Q R cp cq e k
  unfold asV neF eqF at e
  split at e
  · rename_i d d' e1 e2
    cases e
    obtain ⟨h1, s1⟩ := datP_inv e1
    obtain ⟨h2, s2⟩ := datP_inv e2
    exact ⟨d, d', toD_con cp h1, toD_con cq h2, s1, s2, k s.w _ (.refl R) rfl⟩
  · cases e
/-! is None -/
def isNonF (p q : PV) : Option Bool := match q with
  | .non => (match p with | .non => some true | _ => some false)
  | _ => none
def notNonF (p q : PV) : Option Bool := (isNonF p q).map (!·)
theorem con_non {p : PV} {v : V} (h : Con K w p v) : decide (v = .non) = (match p with | .non => true | _ => false) := by
  cases p with
  | non => cases (show v = .non from h); rfl
  | bl _ => cases (show v = .bl _ from h); rfl
  | int _ => cases (show v = .int _ from h); rfl
  | str _ => cases (show v = .str _ from h); rfl
  | tup _ => obtain ⟨a, vs, rfl, _⟩ := h; rfl
  | lst _ => obtain ⟨a, vs, rfl, _⟩ := h; rfl
  | dic _ _ => obtain ⟨a, vs, rfl, _⟩ := h; rfl
  | obj _ => obtain ⟨a, _, rfl⟩ := h; rfl
  | exc _ => exact (show False from h).elim
  | scr _ => obtain ⟨a, rfl, _⟩ := h; rfl
theorem ok_isN : OkR2 B (fun x y H Q => y = .non ∧ Q (.bl (decide (x = .non))) H) (asV isNonF) := by
  intro L s p q x y z Q R cp cq e k
  cases q with
  | non =>
    refine ⟨cq, k s.w _ (.refl R) ?_⟩
    rw [con_non cp]
    cases p <;> (cases e; exact rfl)
  | _ => cases e
theorem ok_notN : OkR2 B (fun x y H Q => y = .non ∧ Q (.bl (!decide (x = .non))) H) (asV notNonF) := by
  intro L s p q x y z Q R cp cq e k
  cases q with
  | non =>
    refine ⟨cq, k s.w _ (.refl R) ?_⟩
    rw [con_non cp]
    cases p <;> (cases e; exact rfl)
  | _ => cases e
end
end
end BL
/-! B, changes of the state: freezing, changing an owned object, storing in a slot. -/
namespace BL
noncomputable section
open PySem PySem.Spec PyProof.Rows L2
section
variable {B : BC} {L : List Addr} {s0 s : BS} {a : Addr} {p : PV} {v : V}
theorem Held.mono_sl {r' : Env} {σ' : L2.St} {w' : Wd} (h : ∀ x b, adr L ⟨r', σ', w'⟩ x = some b → adr L s x = some b) {b : Addr} (q : Held L ⟨r', σ', w'⟩ b) : Held L s b := let ⟨x, e⟩ := q; ⟨x, h x b e⟩
theorem adr_slot {i : Nat} {l : Bool} {p : PV} {a : Addr} (e : s.r.sl[i]? = some (.own l p)) (e2 : s.s[i]? = some (some (.ref a))) : adr L s (.slot i) = some a := by
  unfold adr
  simp only [e, e2]
theorem adr_loan {k : Nat} {t : Stt} {p : PV} {a : Addr} (e : s.r.ln[k]? = some (t, p)) (ht : t ≠ .froz) (e2 : L[k]? = some a) : adr L s (.loan k) = some a := by
  unfold adr
  simp only [e]
  cases t with
  | froz => exact absurd rfl ht
  | live => exact e2
  | lock => exact e2
theorem adr_slot_inv {i : Nat} {a : Addr} (e : adr L s (.slot i) = some a) : ∃ l p, s.r.sl[i]? = some (.own l p) ∧ s.s[i]? = some (some (.ref a)) := by
  unfold adr at e
  dsimp only at e
  split at e
  · rename_i l p a' e1 e2
    cases e
    exact ⟨l, p, e1, e2⟩
  · cases e
theorem adr_loan_inv {k : Nat} {a : Addr} (e : adr L s (.loan k) = some a) : ∃ t p, s.r.ln[k]? = some (t, p) ∧ t ≠ .froz ∧ L[k]? = some a := by
  unfold adr at e
  dsimp only at e
  split at e
  · cases e
  · rename_i t p hne e1
    exact ⟨t, p, e1, fun z => hne z, e⟩
  · cases e
theorem Rel.held_there (R : Rel B L s) (h : Held L s a) : ∃ o, s.w.H a = some o := by
  obtain ⟨x, e⟩ := h
  obtain ⟨q, ho⟩ := held_orep R e
  exact ho.there
/-- one owned object is changed or frozen: the step of the world -/
theorem one_good (o : ORep B.K s.w p a) : GoodM (fun b => b = a) s.w := fun b e => by
  subst e
  exact ⟨o.1, o.mut⟩
/-- the same state in another world, the objects of the others kept; sl, ln: the slots and loans as they are now -/
theorem Rel.swap (R : Rel B L s) (o : ORep B.K s.w p a) {r' : Env} {w' : Wd} (st : Step (fun b => b = a) s.w w') (hO : w'.O = s.w.O) (hF : ∀ b, w'.F b → s.w.F b ∨ (b = a ∧ MutO (w'.H a)))
    (hsl : r'.sl.length = s.r.sl.length) (hln : r'.ln.length = s.r.ln.length) (hst : r'.st = s.r.st)
    (sl : ∀ (i : Nat) x, r'.sl[i]? = some x → s.r.sl[i]? = some x ∧ (∀ l q, x = .own l q → s.s[i]? ≠ some (some (.ref a))) ∨ SlotOk B L w' (s.s[i]?) x ∧ ((∃ l q, x = .own l q) → ∃ l q, s.r.sl[i]? = some (.own l q)))
    (ln : ∀ (k : Nat) x, r'.ln[k]? = some x → s.r.ln[k]? = some x ∧ (x.1 ≠ .froz → L[k]? ≠ some a) ∨ (∀ b, L[k]? = some b → LoanOk B w' b x) ∧ (x.1 ≠ .froz → ∃ y, s.r.ln[k]? = some y ∧ y.1 ≠ .froz))
    (there : ∃ u, w'.H a = some u) : Rel B L ⟨r', s.s, w'⟩ := by
  have g := one_good o
  have ad : ∀ x b, adr L ⟨r', s.s, w'⟩ x = some b → adr L s x = some b := fun x b e => by
    cases x with
    | slot i =>
      obtain ⟨l, q, e1, e2⟩ := adr_slot_inv e
      rcases sl i _ e1 with ⟨h, _⟩ | ⟨_, h⟩
      · exact adr_slot h e2
      · obtain ⟨l', q', h⟩ := h ⟨l, q, rfl⟩
        exact adr_slot h e2
    | loan k =>
      obtain ⟨t, q, e1, ht, e2⟩ := adr_loan_inv e
      rcases ln k _ e1 with ⟨h, _⟩ | ⟨_, h⟩
      · exact adr_loan h ht e2
      · obtain ⟨⟨t', q'⟩, h, ht'⟩ := h ht
        exact adr_loan h ht' e2
  refine ⟨by rw [R.len, ← hsl], by rw [R.lnL, ← hln], fun i x e => ?_, fun k t b e e2 => ?_, fun x y b e e2 => R.inj x y b (ad x b e) (ad y b e2), fun b f => ?_, fun b h => ?_, fun i l q b e e2 => ?_, by show w'.O.length = r'.st.length; rw [hO, hst]; exact R.od, by show w'.O.Nodup; rw [hO]; exact R.nd, fun b h f => ?_, fun n b I e e2 => ?_⟩
  · rcases sl i x e with ⟨h, hn⟩ | ⟨h, _⟩
    · have := R.sl i x h
      cases x with
      | no => trivial
      | val p =>
        obtain ⟨v, e1, h⟩ := this
        exact ⟨v, e1, Rep.step st g h⟩
      | own l p =>
        obtain ⟨v, e1, h⟩ := this
        exact ⟨v, e1, ORep.step st g h fun z => hn l p rfl (by rw [← z]; exact e1)⟩
      | loan k => exact this
    · exact h
  · rcases ln k t e with ⟨h, hn⟩ | ⟨h, _⟩
    · have := R.ln k t b h e2
      obtain ⟨t, q⟩ := t
      cases t with
      | froz => exact Rep.step st g this
      | live => exact ORep.step st g this fun z => hn (fun y => nomatch y) (by rw [← z]; exact e2)
      | lock => exact ORep.step st g this fun z => hn (fun y => nomatch y) (by rw [← z]; exact e2)
    · exact h b e2
  · rcases hF b f with h | ⟨rfl, m⟩
    · obtain ⟨u, e, m⟩ := R.fd b h
      by_cases z : b = a
      · subst z
        exact (o.1 h).elim
      · exact ⟨u, st.keep b u e z, m⟩
    · obtain ⟨u, e⟩ := there
      rw [e] at m
      exact ⟨u, e, m⟩
  · obtain ⟨u, e⟩ := R.lx b h
    exact st.dom b u e
  · rcases sl i _ e with ⟨h, _⟩ | ⟨_, h⟩
    · exact R.sL i l q b h e2
    · obtain ⟨l', q', h⟩ := h ⟨l, q, rfl⟩
      exact R.sL i l' q' b h e2
  · have h : b ∈ s.w.O := hO ▸ h
    rcases hF b f with z | ⟨z, _⟩
    · exact R.nf b h z
    · exact o.2.1 (z ▸ h)
  · have e : s.w.O[n]? = some b := by
      rw [← hO]
      exact e
    have e2 : s.r.st[n]? = some I := by
      rw [← hst]
      exact e2
    obtain ⟨C, dx, fs, h1, h2, h3, h4⟩ := R.st n b I e e2
    exact ⟨C, dx, fs, h1, st.keep b _ h2 fun z => o.2.1 (z ▸ List.mem_of_getElem? e), h3, Reps.step st g h4⟩
theorem Rel.swapAd (R : Rel B L s) {r' : Env} {w' : Wd} (hs : ∀ (i : Nat) l q, r'.sl[i]? = some (.own l q) → ∃ l q, s.r.sl[i]? = some (.own l q)) (hl : ∀ (k : Nat) t q, r'.ln[k]? = some (t, q) → t ≠ .froz → ∃ t q, s.r.ln[k]? = some (t, q) ∧ t ≠ .froz) :
    ∀ x b, adr L ⟨r', s.s, w'⟩ x = some b → adr L s x = some b := fun x b e => by
  cases x with
  | slot i =>
    obtain ⟨l, q, e1, e2⟩ := adr_slot_inv e
    obtain ⟨l', q', h⟩ := hs i l q e1
    exact adr_slot h e2
  | loan k =>
    obtain ⟨t, q, e1, ht, e2⟩ := adr_loan_inv e
    obtain ⟨t', q', h, ht'⟩ := hl k t q e1 ht
    exact adr_loan h ht' e2
theorem Rel.swapAt (A : At B L s0 s) (o : ORep B.K s.w p a) (hop : Opn L s a ∨ s0.w.H a = none) {r' : Env} {w' : Wd} (st : Step (fun b => b = a) s.w w') (hO : w'.O = s.w.O) (R' : Rel B L ⟨r', s.s, w'⟩)
    (ad : ∀ x b, adr L ⟨r', s.s, w'⟩ x = some b → adr L s x = some b) (hl : ∀ h, isLive ⟨r', s.s, w'⟩ h → isLive s h) : At B L s0 ⟨r', s.s, w'⟩ where
  x := by
    refine ⟨A.x.st.trans st fun x e => ?_, R', fun h b e => A.x.own h b (ad h b e), fun h b l e => A.x.opn h b (hl h l) (ad h b e)⟩
    have e : x = a := e
    subst e
    rcases hop with h | h
    · exact A.x.opened h
    · exact .inr h
  e := A.e
/-! ### freezing -/
def frzLn (k : Nat) : M RV := fun r => match r.ln[k]? with
  | some (.froz, p) => .ok (.val p) r
  | some (.live, p) => .ok (.val p) { r with ln := r.ln.set k (.froz, p) }
  | _ => .no
def frzM : RV → M RV
  | .val p => M.pure (.val p)
  | .fresh p => M.pure (.val p)
  | .slot i => fun r => match r.sl[i]? with
    | some (.val p) => .ok (.val p) r
    | some (.own false p) => .ok (.val p) { r with sl := r.sl.set i (.val p) }
    | some (.loan k) => frzLn k r
    | _ => .no
  | .loan k => frzLn k
def mFrz (m : M RV) : M RV := m.bind frzM
def frzW (w : Wd) (a : Addr) : Wd := ⟨w.H, fun b => w.F b ∨ b = a, w.O⟩
theorem frzW_step (w : Wd) : Step (fun b => b = a) w (frzW w a) := ⟨fun _ o e => ⟨o, e⟩, fun _ _ e _ => e, fun _ h => .inl h, fun _ _ _ h => h, ⟨[], by simp [frzW]⟩, fun _ _ _ h => h⟩
theorem ORep.frozen (o : ORep B.K s.w p a) : Rep B.K (frzW s.w a) p (.ref a) := by
  have g := one_good o
  obtain ⟨_, _, ⟨xs, vs, rfl, e, r⟩ | ⟨ks, xs, vs, rfl, e, r⟩⟩ := o
  · exact ⟨a, vs, rfl, ⟨e, .inr rfl⟩, Reps.step (frzW_step _) g r⟩
  · exact ⟨a, vs, rfl, .inr rfl, e, Reps.step (frzW_step _) g r⟩
theorem setv {α : Type} {xs : List α} {i j : Nat} {x y : α} (h : (xs.set i x)[j]? = some y) : (j = i ∧ x = y ∧ i < xs.length) ∨ (j ≠ i ∧ xs[j]? = some y) := by
  rw [List.getElem?_set] at h
  split at h
  · rename_i e
    split at h
    · cases h
      exact .inl ⟨e.symm, rfl, by assumption⟩
    · cases h
  · rename_i e
    exact .inr ⟨fun z => e z.symm, h⟩
theorem frz_loan (A : At B L s0 s) {k : Nat} {z : RV} {e' : Env} (hL : L[k]? = some a) (h : frzLn k s.r = .ok z e') :
    ∃ q w', z = .val q ∧ w'.H = s.w.H ∧ At B L s0 ⟨e', s.s, w'⟩ ∧ Rep B.K w' q (.ref a) := by
  unfold frzLn at h
  split at h
  · rename_i p e
    cases h
    exact ⟨p, s.w, rfl, rfl, A, A.rel.ln k _ a e hL⟩
  · rename_i p e
    cases h
    have o : ORep B.K s.w p a := A.rel.ln k _ a e hL
    have hk : adr L s (.loan k) = some a := adr_loan e (fun y => nomatch y) hL
    refine ⟨p, frzW s.w a, rfl, rfl, ?_, o.frozen⟩
    have ad := A.rel.swapAd (r' := { s.r with ln := s.r.ln.set k (.froz, p) }) (w' := frzW s.w a) (fun i l q h => ⟨l, q, h⟩) fun j t q h ht => by
      rcases setv h with ⟨rfl, h, _⟩ | ⟨hj, h⟩
      · cases h
        exact absurd rfl ht
      · exact ⟨t, q, h, ht⟩
    refine Rel.swapAt A o (.inl (.inl ⟨.loan k, ⟨p, e⟩, hk⟩)) (frzW_step _) rfl ?_ ad fun h l => ?_
    · refine A.rel.swap o (frzW_step _) rfl (fun b h => h.imp id fun e => ⟨e, o.mut⟩) rfl (List.length_set ..) rfl (fun i x h => .inl ⟨h, fun l q e1 e2 => ?_⟩) (fun j x h => ?_) o.there
      · subst e1
        exact A.rel.sL i l q a h e2 (List.mem_of_getElem? hL)
      · rcases setv h with ⟨rfl, h, _⟩ | ⟨hj, h⟩
        · cases h
          refine .inr ⟨fun b hb => ?_, fun z => absurd rfl z⟩
          rw [hL] at hb
          cases hb
          exact o.frozen
        · refine .inl ⟨h, fun ht hb => hj ?_⟩
          have := A.rel.inj (.loan j) (.loan k) a (adr_loan h ht hb) hk
          cases this
          rfl
    · cases h with
      | slot i => exact l
      | loan j =>
        obtain ⟨q, h⟩ := l
        rcases setv h with ⟨rfl, h, _⟩ | ⟨hj, h⟩
        · cases h
        · exact ⟨q, h⟩
  · cases h
theorem frz_ok (A : At B L s0 s) {r z : RV} {x : V} {e' : Env} (h : RRel B L s0 s r x) (e : frzM r s.r = .ok z e') :
    ∃ q w', z = .val q ∧ w'.H = s.w.H ∧ At B L s0 ⟨e', s.s, w'⟩ ∧ Rep B.K w' q x := by
  cases r with
  | val p =>
    cases e
    exact ⟨p, s.w, rfl, rfl, A, h⟩
  | fresh p =>
    cases e
    obtain ⟨a, rfl, o, n, z⟩ := h
    refine ⟨p, frzW s.w a, rfl, rfl, ?_, o.frozen⟩
    have ad : ∀ x b, adr L ⟨s.r, s.s, frzW s.w a⟩ x = some b → adr L s x = some b := fun _ _ h => h
    refine Rel.swapAt A o (.inr z) (frzW_step _) rfl ?_ ad fun h l => l
    refine A.rel.swap o (frzW_step _) rfl (fun b h => h.imp id fun e => ⟨e, o.mut⟩) rfl rfl rfl (fun i x h => .inl ⟨h, fun l q e1 e2 => ?_⟩) (fun j x h => .inl ⟨h, fun ht hb => ?_⟩) o.there
    · subst e1
      exact n ⟨.slot i, adr_slot h e2⟩
    · obtain ⟨t, q⟩ := x
      exact n ⟨.loan j, adr_loan h ht hb⟩
  | slot i =>
    unfold frzM at e
    dsimp only at e
    split at e
    · rename_i p e1
      cases e
      obtain ⟨v, e2, hr⟩ := A.rel.sl i _ e1
      have h : s.s[i]? = some (some x) := h
      rw [h] at e2
      cases e2
      exact ⟨p, s.w, rfl, rfl, A, hr⟩
    · rename_i p e1
      cases e
      obtain ⟨a, e2, o⟩ := A.rel.sl i _ e1
      have h : s.s[i]? = some (some x) := h
      rw [h] at e2
      cases e2
      have hk : adr L s (.slot i) = some a := adr_slot e1 h
      refine ⟨p, frzW s.w a, rfl, rfl, ?_, o.frozen⟩
      have ad := A.rel.swapAd (r' := { s.r with sl := s.r.sl.set i (.val p) }) (w' := frzW s.w a) (fun j l q h => by
        rcases setv h with ⟨rfl, h, _⟩ | ⟨hj, h⟩
        · cases h
        · exact ⟨l, q, h⟩) fun j t q h ht => ⟨t, q, h, ht⟩
      refine Rel.swapAt A o (.inl (.inl ⟨.slot i, ⟨p, e1⟩, hk⟩)) (frzW_step _) rfl ?_ ad fun y l => ?_
      · refine A.rel.swap o (frzW_step _) rfl (fun b h => h.imp id fun e => ⟨e, o.mut⟩) (List.length_set ..) rfl rfl (fun j x hx => ?_) (fun j x hx => .inl ⟨hx, fun ht hb => ?_⟩) o.there
        · rcases setv hx with ⟨rfl, hx, _⟩ | ⟨hj, hx⟩
          · subst hx
            refine .inr ⟨⟨_, h, o.frozen⟩, fun ⟨l, q, z⟩ => by cases z⟩
          · refine .inl ⟨hx, fun l q e3 e4 => hj ?_⟩
            subst e3
            have := A.rel.inj (.slot j) (.slot i) a (adr_slot hx e4) hk
            cases this
            rfl
        · obtain ⟨t, q⟩ := x
          have := A.rel.inj (.loan j) (.slot i) a (adr_loan hx ht hb) hk
          cases this
      · cases y with
        | slot j =>
          obtain ⟨q, hq⟩ := l
          rcases setv hq with ⟨rfl, hq, _⟩ | ⟨hj, hq⟩
          · cases hq
          · exact ⟨q, hq⟩
        | loan j => exact l
    · rename_i k e1
      obtain ⟨a, hL, e2⟩ := A.rel.sl i _ e1
      have h : s.s[i]? = some (some x) := h
      rw [h] at e2
      cases e2
      exact frz_loan A hL e
    · cases e
  | loan k =>
    obtain ⟨a, hL, rfl⟩ := h
    exact frz_loan A hL e
end
section
variable {X : Cx} {B : BC} {W : WX} {L : List Addr} {s0 s : BS} {e : Expr} {es : List Expr} {m : M RV} {ms : M (List RV)} {pos : Pos}
theorem frzLn_ne {k c : Nat} {r e' : Env} : frzLn k r ≠ .exc c e' := by
  unfold frzLn
  split <;> exact fun h => by cases h
theorem frzM_ne {z : RV} {c : Nat} {r e' : Env} : frzM z r ≠ .exc c e' := by
  cases z with
  | val p => exact fun h => by cases h
  | fresh p => exact fun h => by cases h
  | slot i =>
    unfold frzM
    dsimp only
    split <;> first | exact frzLn_ne | exact fun h => by cases h
  | loan k => exact frzLn_ne
/-- the same expression, what it gives is frozen -/
theorem be_frz (h : PE X e (tB B W m)) : PE X e (tB B W (mFrz m)) := by
  refine h.imp fun σ H Q h => ?_
  refine (tG.bind (T := RRel) h).mono fun x H1 q => ?_
  obtain ⟨L, s0, s, r1, rfl, rfl, R0, A, h1, P⟩ := q
  cases e : frzM r1 s.r with
  | ok z e' =>
    rw [e] at P
    obtain ⟨q, w', rfl, hH, A', hr⟩ := frz_ok A h1 e
    rw [← hH]
    exact P.fin (s := ⟨e', s.s, w'⟩) A' hr
  | exc c e' =>
    exact (frzM_ne e).elim
  | no =>
    rw [e] at P
    exact P.elim
/-! ### lists of expressions -/
def mNilA : M (List RV) := M.pure []
def mConsA (m : M RV) (ms : M (List RV)) : M (List RV) := m.bind fun x => ms.bind fun xs => M.pure (x :: xs)
theorem freshA_mem {s0 s : BS} : ∀ {rs : List RV} {vs : List V} {a : Addr}, Paired (RRel B L s0 s) rs vs → a ∈ freshA rs vs → s0.w.H a = none
  | _, _, _, .nil, h => by cases h
  | r :: rs, v :: vs, a, .cons h t, hm => by
    cases r with
    | fresh p =>
      obtain ⟨b, rfl, o, n, z⟩ := h
      unfold freshA at hm
      rcases List.mem_cons.mp hm with rfl | hm
      · exact z
      · exact freshA_mem t hm
    | val p => unfold freshA at hm; exact freshA_mem t hm
    | slot p => unfold freshA at hm; exact freshA_mem t hm
    | loan p => unfold freshA at hm; exact freshA_mem t hm
theorem RRels.keep {rs : List RV} {vs : List V} (h : RRels B L s0 s rs vs) {s' : BS} (A : At B L s s') (R : Rel B L s) : RRels B L s0 s' rs vs := ⟨Paired.mapP h.1 fun _ _ q => q.at A R, h.2⟩
theorem RRels.weak {rs : List RV} {vs : List V} {s2 : BS} (x : Ex B L s0 s) (h : RRels B L s s2 rs vs) : RRels B L s0 s2 rs vs := ⟨Paired.mapP h.1 fun _ _ q => q.weak x, h.2⟩
theorem ba_nil : PA X [] (tA B W mNilA) := by
  refine pa_nil.imp fun σ H Q h => ?_
  obtain ⟨L, s, rfl, rfl, R, P⟩ := h
  exact P.fin (.refl R) ⟨.nil, List.nodup_nil⟩
theorem ba_cons (ha : PE X e (tB B W m)) (hr : PA X es (tA B W ms)) (hs : starEach (e :: es) X.env = (false, eval e X.env) :: starEach es X.env := by rfl) : PA X (e :: es) (tA B W (mConsA m ms)) := by
  refine (pa_cons ha hr hs).imp fun σ H Q h => ?_
  refine (tG.bind (T := RRel) h).mono fun x H1 q => ?_
  obtain ⟨L, s0, s, r1, rfl, rfl, R0, A, h1, P⟩ := q
  refine (Post.bind (T := RRels) R0 A P).mono fun xs H2 q => ?_
  obtain ⟨s2, rs, rfl, A2, h2, P2⟩ := q
  refine P2.fin (A.trans A2) ⟨.cons (h1.at A2 A.rel) (RRels.weak A.x h2).1, ?_⟩
  cases r1 with
  | fresh p =>
    obtain ⟨a, rfl, o, n, z⟩ := h1
    refine List.nodup_cons.mpr ⟨fun hm => ?_, h2.2⟩
    have := freshA_mem h2.1 hm
    obtain ⟨u, e⟩ := o.there
    rw [this] at e
    cases e
  | val p => unfold freshA; exact h2.2
  | slot i => unfold freshA; exact h2.2
  | loan k => unfold freshA; exact h2.2
/-- all of them values -/
def valsOf : List RV → Option (List PV)
  | [] => some []
  | .val p :: rs => (valsOf rs).map (p :: ·)
  | _ => none
theorem valsOf_reps : ∀ {rs : List RV} {vs : List V} {ps : List PV}, Paired (RRel B L s0 s) rs vs → valsOf rs = some ps → Reps B.K s.w ps vs
  | _, _, _, .nil, e => by
    cases e
    rfl
  | r :: rs, v :: vs, ps, .cons h t, e => by
    cases r with
    | val p =>
      unfold valsOf at e
      cases e2 : valsOf rs with
      | none => rw [e2] at e; cases e
      | some qs =>
        rw [e2] at e
        cases e
        exact ⟨v, vs, rfl, h, valsOf_reps t e2⟩
    | _ => unfold valsOf at e; cases e
def mTup (ms : M (List RV)) : M RV := ms.bind fun rs => M.opt ((valsOf rs).bind fun ps => @ite _ (ps.length ≤ lim) (Classical.propDecidable _) (some (.val (.tup ps))) none)
def mLst (ms : M (List RV)) : M RV := ms.bind fun rs => M.opt ((valsOf rs).bind fun ps => @ite _ (ps.length ≤ lim) (Classical.propDecidable _) (some (.fresh (.lst ps))) none)
theorem opt_inv {α : Type} {o : Option α} {r : Env} : M.opt o r = (match o with | some a => .ok a r | none => .no) := rfl
theorem be_tup {k : Nat} (h : PA X es (tA B W ms)) : PE X (.Tuple es k pos) (tB B W (mTup ms)) := by
  refine (pe_tup h).imp fun σ H Q h => ?_
  refine (tG.bind (T := RRels) h).mono fun x H1 q => ?_
  obtain ⟨L, s0, s, r1, rfl, rfl, R0, A, h1, P⟩ := q
  rw [opt_inv] at P
  cases e : valsOf r1 with
  | none => rw [e] at P; exact P.elim
  | some ps =>
    rw [e] at P
    simp only [Option.bind_some] at P
    have r := valsOf_reps h1.1 e
    by_cases hz : ps.length ≤ lim
    · simp only [hz, if_true] at P
      exact ⟨by rw [← r.length, ← lim_eq]; exact hz, fun p hn => P.fin (A.trans (A.rel.alloc hn)) (RRel.weak A.x (A.rel.newTup hn r))⟩
    · simp only [hz, if_false] at P
      exact P.elim
theorem be_lst (h : PA X es (tA B W ms)) : PE X (.List es pos) (tB B W (mLst ms)) := by
  refine (pe_lst h).imp fun σ H Q h => ?_
  refine (tG.bind (T := RRels) h).mono fun x H1 q => ?_
  obtain ⟨L, s0, s, r1, rfl, rfl, R0, A, h1, P⟩ := q
  rw [opt_inv] at P
  cases e : valsOf r1 with
  | none => rw [e] at P; exact P.elim
  | some ps =>
    rw [e] at P
    simp only [Option.bind_some] at P
    have r := valsOf_reps h1.1 e
    by_cases hz : ps.length ≤ lim
    · simp only [hz, if_true] at P
      exact ⟨by rw [← r.length, ← lim_eq]; exact hz, fun p hn => P.fin (A.trans (A.rel.alloc hn)) (RRel.weak A.x (A.rel.newList hn r))⟩
    · simp only [hz, if_false] at P
      exact P.elim
/-! ### an owned object is changed -/
def mutLn (k : Nat) (p : PV) : M Unit := fun r => match r.ln[k]? with
  | some (.live, _) => .ok () { r with ln := r.ln.set k (.live, p) }
  | _ => .no
/-- the content is p from now on -/
def mutM : RV → PV → M Unit
  | .fresh _, _ => M.pure ()
  | .slot i, p => fun r => match r.sl[i]? with
    | some (.own false _) => .ok () { r with sl := r.sl.set i (.own false p) }
    | some (.loan k) => mutLn k p r
    | _ => .no
  | .loan k, p => mutLn k p
  | .val _, _ => M.no
def mutW (w : Wd) (a : Addr) (o : HO) : Wd := ⟨upd w.H a o, w.F, w.O⟩
theorem mutW_step {w : Wd} {a : Addr} {o o' : HO} (h : w.H a = some o') : Step (fun b => b = a) w (mutW w a o) :=
  ⟨fun b u e => by
    by_cases z : b = a
    · subst z
      exact ⟨o, upd_same⟩
    · exact ⟨u, by show upd w.H a o b = _; rw [upd_ne z]; exact e⟩, fun b u e n => by show upd w.H a o b = _; rw [upd_ne n]; exact e, fun _ h => h, fun _ _ _ h => .inl h, ⟨[], by simp [mutW]⟩, fun _ _ _ h => h⟩
/-- the new object: its content -/
def NewC (B : BC) (w : Wd) (a : Addr) (p : PV) (o : HO) : Prop :=
  (∃ xs vs, p = .lst xs ∧ o = .lst vs ∧ Reps B.K w xs vs) ∨ ∃ ks xs vs, p = .dic ks xs ∧ (∀ H : Hp, H a = some o → DicC H a ks vs) ∧ Reps B.K w xs vs
theorem NewC.orep {a : Addr} {p q : PV} {o : HO} (h : NewC B s.w a q o) (o0 : ORep B.K s.w p a) : ORep B.K (mutW s.w a o) q a := by
  obtain ⟨u, e⟩ := o0.there
  have g := one_good o0
  refine ⟨o0.1, o0.2.1, ?_⟩
  rcases h with ⟨xs, vs, rfl, rfl, r⟩ | ⟨ks, xs, vs, rfl, d, r⟩
  · exact .inl ⟨xs, vs, rfl, upd_same, Reps.step (mutW_step e) g r⟩
  · exact .inr ⟨ks, xs, vs, rfl, d _ upd_same, Reps.step (mutW_step e) g r⟩
theorem NewC.mut {a : Addr} {q : PV} {o : HO} (h : NewC B s.w a q o) : MutO (some o) := by
  rcases h with ⟨xs, vs, rfl, rfl, r⟩ | ⟨ks, xs, vs, rfl, d, r⟩
  · trivial
  · obtain ⟨u, e, m⟩ := (d (fun _ => some o) rfl).some
    cases e
    exact m
theorem mut_loan (A : At B L s0 s) {k : Nat} {a : Addr} {q : PV} {o : HO} {e' : Env} (hL : L[k]? = some a) (h : mutLn k q s.r = .ok () e') (n : NewC B s.w a q o) : At B L s0 ⟨e', s.s, mutW s.w a o⟩ := by
  unfold mutLn at h
  split at h
  · rename_i p e
    cases h
    have o0 : ORep B.K s.w p a := A.rel.ln k _ a e hL
    have hk : adr L s (.loan k) = some a := adr_loan e (fun y => nomatch y) hL
    obtain ⟨u, eu⟩ := o0.there
    have ad := A.rel.swapAd (r' := { s.r with ln := s.r.ln.set k (.live, q) }) (w' := mutW s.w a o) (fun i l q h => ⟨l, q, h⟩) fun j t q' h ht => by
      rcases setv h with ⟨rfl, h, _⟩ | ⟨hj, h⟩
      · exact ⟨_, _, e, fun y => nomatch y⟩
      · exact ⟨t, q', h, ht⟩
    refine Rel.swapAt A o0 (.inl (.inl ⟨.loan k, ⟨p, e⟩, hk⟩)) (mutW_step eu) rfl ?_ ad fun h l => ?_
    · refine A.rel.swap o0 (mutW_step eu) rfl (fun b h => .inl h) rfl (List.length_set ..) rfl (fun i x h => .inl ⟨h, fun l q e1 e2 => ?_⟩) (fun j x h => ?_) ⟨o, upd_same⟩
      · subst e1
        exact A.rel.sL i l q a h e2 (List.mem_of_getElem? hL)
      · rcases setv h with ⟨rfl, h, _⟩ | ⟨hj, h⟩
        · cases h
          refine .inr ⟨fun b hb => ?_, fun z => ⟨_, e, fun y => nomatch y⟩⟩
          rw [hL] at hb
          cases hb
          exact n.orep o0
        · refine .inl ⟨h, fun ht hb => hj ?_⟩
          have := A.rel.inj (.loan j) (.loan k) a (adr_loan h ht hb) hk
          cases this
          rfl
    · cases h with
      | slot i => exact l
      | loan j =>
        obtain ⟨q, h⟩ := l
        rcases setv h with ⟨rfl, h, _⟩ | ⟨hj, h⟩
        · exact ⟨p, e⟩
        · exact ⟨q, h⟩
  · cases h
theorem mut_ok (A : At B L s0 s) {r : RV} {a : Addr} {q : PV} {o : HO} {e' : Env} (h : RRel B L s0 s r (.ref a)) (e : mutM r q s.r = .ok () e') (n : NewC B s.w a q o) : At B L s0 ⟨e', s.s, mutW s.w a o⟩ := by
  cases r with
  | val p => cases e
  | fresh p =>
    cases e
    obtain ⟨b, hb, o0, nh, z⟩ := h
    cases hb
    obtain ⟨u, eu⟩ := o0.there
    have ad : ∀ x b, adr L ⟨s.r, s.s, mutW s.w a o⟩ x = some b → adr L s x = some b := fun _ _ h => h
    refine Rel.swapAt A o0 (.inr z) (mutW_step eu) rfl ?_ ad fun h l => l
    refine A.rel.swap o0 (mutW_step eu) rfl (fun b h => .inl h) rfl rfl rfl (fun i x h => .inl ⟨h, fun l q e1 e2 => ?_⟩) (fun j x h => .inl ⟨h, fun ht hb => ?_⟩) ⟨o, upd_same⟩
    · subst e1
      exact nh ⟨.slot i, adr_slot h e2⟩
    · obtain ⟨t, q⟩ := x
      exact nh ⟨.loan j, adr_loan h ht hb⟩
  | slot i =>
    have h : s.s[i]? = some (some (.ref a)) := h
    unfold mutM at e
    dsimp only at e
    split at e
    · rename_i p e1
      cases e
      obtain ⟨a', e2, o0⟩ := A.rel.sl i _ e1
      rw [h] at e2
      cases e2
      have hk : adr L s (.slot i) = some a := adr_slot e1 h
      obtain ⟨u, eu⟩ := o0.there
      have ad := A.rel.swapAd (r' := { s.r with sl := s.r.sl.set i (.own false q) }) (w' := mutW s.w a o) (fun j l q h => by
        rcases setv h with ⟨rfl, h, _⟩ | ⟨hj, h⟩
        · exact ⟨_, _, e1⟩
        · exact ⟨l, q, h⟩) fun j t q h ht => ⟨t, q, h, ht⟩
      refine Rel.swapAt A o0 (.inl (.inl ⟨.slot i, ⟨p, e1⟩, hk⟩)) (mutW_step eu) rfl ?_ ad fun y l => ?_
      · refine A.rel.swap o0 (mutW_step eu) rfl (fun b h => .inl h) (List.length_set ..) rfl rfl (fun j x hx => ?_) (fun j x hx => .inl ⟨hx, fun ht hb => ?_⟩) ⟨o, upd_same⟩
        · rcases setv hx with ⟨rfl, hx, _⟩ | ⟨hj, hx⟩
          · subst hx
            exact .inr ⟨⟨a, h, n.orep o0⟩, fun _ => ⟨_, _, e1⟩⟩
          · refine .inl ⟨hx, fun l q e3 e4 => hj ?_⟩
            subst e3
            have := A.rel.inj (.slot j) (.slot i) a (adr_slot hx e4) hk
            cases this
            rfl
        · obtain ⟨t, q⟩ := x
          have := A.rel.inj (.loan j) (.slot i) a (adr_loan hx ht hb) hk
          cases this
      · cases y with
        | slot j =>
          obtain ⟨q, hq⟩ := l
          rcases setv hq with ⟨rfl, hq, _⟩ | ⟨hj, hq⟩
          · exact ⟨p, e1⟩
          · exact ⟨q, hq⟩
        | loan j => exact l
    · rename_i k e1
      obtain ⟨a', hL, e2⟩ := A.rel.sl i _ e1
      rw [h] at e2
      cases e2
      exact mut_loan A hL e n
    · cases e
  | loan k =>
    obtain ⟨a', hL, e2⟩ := h
    cases e2
    exact mut_loan A hL e n
end
end
end BL
/-! B, statements: blocks, assignments to names, if, return. -/
namespace BL
noncomputable section
open PySem PySem.Spec PyProof.Rows L2
inductive Fl where
  | next | brk | cont | ret (r : RV)
def PostS (B : BC) (L : List Addr) (W : WX) (s : BS) (D : Ends) : Res Fl → Prop
  | .ok .next e => ∀ σ w, Ex B L s ⟨e, σ, w⟩ → D.nx σ w.H
  | .ok .brk e => ∀ σ w, Ex B L s ⟨e, σ, w⟩ → D.bk σ w.H
  | .ok .cont e => ∀ σ w, Ex B L s ⟨e, σ, w⟩ → D.ct σ w.H
  | .ok (.ret r) e => ∀ σ w v, Ex B L s ⟨e, σ, w⟩ → RRel B L s ⟨e, σ, w⟩ r v → D.rt v w.H
  | .exc c e => ∀ σ w, Ex B L s ⟨e, σ, w⟩ → ∀ C, B.cl[c]? = some C → W (.ref C) none σ w.H
  | .no => False
def tS (B : BC) (W : WX) (m : M Fl) : TS := fun D σ H => ∃ L s, s.s = σ ∧ s.w.H = H ∧ Rel B L s ∧ PostS B L W s D (m s.r)
def mSeq (m n : M Fl) : M Fl := m.bind fun f => match f with
  | .next => n
  | f => M.pure f
section
variable {X : Cx} {B : BC} {W : WX} {L : List Addr} {s0 s : BS} {D : Ends} {e : Expr} {m : M RV} {pos : Pos}
theorem PostS.rebase {res : Res Fl} (x : Ex B L s0 s) (P : PostS B L W s0 D res) : PostS B L W s D res := by
  cases res with
  | ok f e =>
    cases f with
    | next => exact fun σ w y => P σ w (x.trans y)
    | brk => exact fun σ w y => P σ w (x.trans y)
    | cont => exact fun σ w y => P σ w (x.trans y)
    | ret r => exact fun σ w v y h => P σ w v (x.trans y) (h.weak x)
  | exc c e => exact fun σ w y => P σ w (x.trans y)
  | no => exact P
/-- from here on -/
theorem PostS.here {n : M Fl} (x : Ex B L s0 s) (P : PostS B L W s0 D (n s.r)) : tS B W n D s.s s.w.H := ⟨L, s, rfl, rfl, x.rel, P.rebase x⟩
theorem bs_nil : PSs X [] (tS B W (M.pure .next)) := by
  refine pss_nil.imp fun D σ H h => ?_
  obtain ⟨L, s, rfl, rfl, R, P⟩ := h
  exact P s.s s.w (Ex.refl R)
theorem bs_cons {st : Stmt} {rest : List Stmt} {m n : M Fl} (h1 : PS X st (tS B W m)) (h2 : PSs X rest (tS B W n)) : PSs X (st :: rest) (tS B W (mSeq m n)) := by
  refine (pss_cons h1 h2).imp fun D σ H h => ?_
  obtain ⟨L, s, rfl, rfl, R, P⟩ := h
  refine ⟨L, s, rfl, rfl, R, ?_⟩
  unfold mSeq M.bind at P
  cases e : m s.r with
  | ok f e' =>
    rw [e] at P
    cases f with
    | next => exact fun σ w x => P.here (s := ⟨e', σ, w⟩) x
    | brk => exact P
    | cont => exact P
    | ret r => exact P
  | exc c e' =>
    rw [e] at P
    exact P
  | no =>
    rw [e] at P
    exact P
theorem bs_one {st : Stmt} {m : M Fl} (h1 : PS X st (tS B W m)) : PSs X [st] (tS B W m) := pss_one h1
def mNext (m : M RV) : M Fl := m.bind fun _ => M.pure .next
def mRet (m : M RV) : M Fl := m.bind fun r => M.pure (.ret r)
def mIfS (t : M Bool) (m n : M Fl) : M Fl := t.bind fun b => if b = true then m else n
/-- an expression ahead of a statement's rest -/
theorem tS.bind {α β : Type} {T : RTy α β} {ma : M α} {f : α → M Fl} {σ : L2.St} {H : Hp} (h : tS B W (ma.bind f) D σ H) :
    tG T B W ma σ H fun x H1 => ∃ L s0 s a, s.s = σ ∧ s.w.H = H1 ∧ Rel B L s0 ∧ At B L s0 s ∧ T B L s0 s a x ∧ PostS B L W s0 D (f a s.r) := by
  obtain ⟨L, s, rfl, rfl, R, P⟩ := h
  refine ⟨L, s, rfl, rfl, R, ?_⟩
  unfold M.bind at P
  cases e : ma s.r with
  | ok r e' =>
    rw [e] at P
    exact fun w' v x h => ⟨L, s, ⟨e', s.s, w'⟩, r, rfl, rfl, R, ⟨x, rfl⟩, h, P⟩
  | exc c e' =>
    rw [e] at P
    exact fun w' x => P s.s w' x
  | no =>
    rw [e] at P
    exact P
/-- a further expression -/
theorem PostS.bind {α β : Type} {T : RTy α β} {ma : M α} {f : α → M Fl} (A : Ex B L s0 s) (P : PostS B L W s0 D ((ma.bind f) s.r)) :
    tG T B W ma s.s s.w.H fun x H1 => ∃ s2 a, s2.w.H = H1 ∧ At B L s s2 ∧ T B L s s2 a x ∧ PostS B L W s0 D (f a s2.r) := by
  refine ⟨L, s, rfl, rfl, A.rel, ?_⟩
  unfold M.bind at P
  cases e : ma s.r with
  | ok r e' =>
    rw [e] at P
    exact fun w' v x h => ⟨⟨e', s.s, w'⟩, r, rfl, ⟨x, rfl⟩, h, P⟩
  | exc c e' =>
    rw [e] at P
    exact fun w' x => P s.s w' (A.trans x)
  | no =>
    rw [e] at P
    exact P
theorem PostS.nx (P : PostS B L W s0 D (.ok .next s.r)) (x : Ex B L s0 s) : D.nx s.s s.w.H := P s.s s.w x
theorem bs_expr (he : PE X e (tB B W m)) (hs : swapsWith e none pos.line X.env = pure false := by rfl) : PS X (.Expr e pos) (tS B W (mNext m)) := by
  refine (ps_expr he hs).imp fun D σ H h => ?_
  refine (tS.bind (T := RRel) h).mono fun x H1 q => ?_
  obtain ⟨L, s0, s, r1, rfl, rfl, R0, A, h1, P⟩ := q
  exact P.nx A.x
theorem bs_ret (he : PE X e (tB B W m)) : PS X (.Return (some e) pos) (tS B W (mRet m)) := by
  refine (ps_ret he).imp fun D σ H h => ?_
  refine (tS.bind (T := RRel) h).mono fun x H1 q => ?_
  obtain ⟨L, s0, s, r1, rfl, rfl, R0, A, h1, P⟩ := q
  exact P s.s s.w x A.x h1
theorem bs_retN : PS X (.Return none pos) (tS B W (M.pure (.ret (.val .non)))) := by
  refine ps_retN.imp fun D σ H h => ?_
  obtain ⟨L, s, rfl, rfl, R, P⟩ := h
  exact P s.s s.w .non (Ex.refl R) rfl
theorem bs_pass : PS X (.Pass pos) (tS B W (M.pure .next)) := by
  refine ps_pass.imp fun D σ H h => ?_
  obtain ⟨L, s, rfl, rfl, R, P⟩ := h
  exact P s.s s.w (Ex.refl R)
theorem bs_break : PS X (.Break pos) (tS B W (M.pure .brk)) := by
  refine ps_break.imp fun D σ H h => ?_
  obtain ⟨L, s, rfl, rfl, R, P⟩ := h
  exact P s.s s.w (Ex.refl R)
theorem bs_never {st : Stmt} : PS X st (tS B W M.no) := by
  refine ps_never.imp fun D σ H h => ?_
  obtain ⟨L, s, _, _, R, P⟩ := h
  exact P
theorem bs_if {c : Expr} {a b : List Stmt} {t : M Bool} {m n : M Fl} (hc : PT X c (tT B W t)) (ha : PSs X a (tS B W m)) (hb : PSs X b (tS B W n)) : PS X (.If c a b pos) (tS B W (mIfS t m n)) := by
  refine (ps_if hc ha hb).imp fun D σ H h => ?_
  refine (tS.bind (T := RBool) h).mono fun d H1 q => ?_
  obtain ⟨L, s0, s, r1, rfl, rfl, R0, A, h1, P⟩ := q
  cases h1
  cases d with
  | true => exact P.here A.x
  | false => exact P.here A.x
/-! ### storing in a slot -/
theorem Rel.setSlot (R : Rel B L s) {i : Nat} {x : Slot} {v : V} (ok : SlotOk B L s.w (some (some v)) x) (hn : ∀ l p, x = .own l p → ∃ a, v = .ref a ∧ ¬ Held L s a ∧ a ∉ L) :
    Rel B L ⟨{ s.r with sl := s.r.sl.set i x }, s.s.set i (some v), s.w⟩ ∧ ∀ y b, adr L ⟨{ s.r with sl := s.r.sl.set i x }, s.s.set i (some v), s.w⟩ y = some b → (adr L s y = some b ∧ y ≠ .slot i) ∨ (y = .slot i ∧ ∃ l p, x = .own l p ∧ v = .ref b) := by
  have ad : ∀ y b, adr L ⟨{ s.r with sl := s.r.sl.set i x }, s.s.set i (some v), s.w⟩ y = some b → (adr L s y = some b ∧ y ≠ .slot i) ∨ (y = .slot i ∧ ∃ l p, x = .own l p ∧ v = .ref b) := fun y b e => by
    cases y with
    | slot j =>
      obtain ⟨l, p, e1, e2⟩ := adr_slot_inv e
      rcases setv e1 with ⟨rfl, h, _⟩ | ⟨hj, h⟩
      · subst h
        rcases setv e2 with ⟨_, h2, _⟩ | ⟨hj, _⟩
        · cases h2
          exact .inr ⟨rfl, l, p, rfl, rfl⟩
        · exact absurd rfl hj
      · rcases setv e2 with ⟨h2, _, _⟩ | ⟨_, h2⟩
        · exact absurd h2 hj
        · exact .inl ⟨adr_slot h h2, fun z => hj (by cases z; rfl)⟩
    | loan k =>
      obtain ⟨t, p, e1, ht, e2⟩ := adr_loan_inv e
      exact .inl ⟨adr_loan e1 ht e2, fun z => nomatch z⟩
  refine ⟨⟨by rw [List.length_set, List.length_set]; exact R.len, R.lnL, fun j y e => ?_, R.ln, fun y z b e1 e2 => ?_, R.fd, R.lx, fun j l p b e1 e2 => ?_, R.od, R.nd, R.nf, R.st⟩, ad⟩
  · rcases setv e with ⟨rfl, h, hl⟩ | ⟨hj, h⟩
    · subst h
      show SlotOk B L s.w ((s.s.set j (some v))[j]?) x
      rw [List.getElem?_set_self (by rw [R.len]; exact hl)]
      exact ok
    · show SlotOk B L s.w ((s.s.set i (some v))[j]?) y
      rw [List.getElem?_set_ne (Ne.symm hj)]
      exact R.sl j y h
  · rcases ad y b e1 with ⟨h1, n1⟩ | ⟨rfl, l, p, hx, hv⟩
    · rcases ad z b e2 with ⟨h2, n2⟩ | ⟨rfl, l, p, hx, hv⟩
      · exact R.inj y z b h1 h2
      · obtain ⟨a, ha, hh, _⟩ := hn l p hx
        rw [hv] at ha
        cases ha
        exact (hh ⟨y, h1⟩).elim
    · rcases ad z b e2 with ⟨h2, n2⟩ | ⟨rfl, _⟩
      · obtain ⟨a, ha, hh, _⟩ := hn l p hx
        rw [hv] at ha
        cases ha
        exact (hh ⟨z, h2⟩).elim
      · rfl
  · rcases setv e1 with ⟨rfl, h, hl⟩ | ⟨hj, h⟩
    · subst h
      rcases setv e2 with ⟨_, h2, _⟩ | ⟨hj, _⟩
      · cases h2
        obtain ⟨a, ha, _, hL⟩ := hn l p rfl
        cases ha
        exact hL
      · exact absurd rfl hj
    · rcases setv e2 with ⟨h2, _, _⟩ | ⟨_, h2⟩
      · exact absurd h2 hj
      · exact R.sL j l p b h h2
theorem setSlotEx (R0 : Rel B L s0) (A : Ex B L s0 s) {i : Nat} {x : Slot} {v : V} (ok : SlotOk B L s.w (some (some v)) x) (hn : ∀ l p, x = .own l p → ∃ a, v = .ref a ∧ ¬ Held L s a ∧ s0.w.H a = none) :
    Ex B L s0 ⟨{ s.r with sl := s.r.sl.set i x }, s.s.set i (some v), s.w⟩ := by
  obtain ⟨R', ad⟩ := A.rel.setSlot (i := i) ok fun l p e => by
    obtain ⟨a, ha, hh, hz⟩ := hn l p e
    refine ⟨a, ha, hh, fun hm => ?_⟩
    obtain ⟨o, e⟩ := R0.lx a hm
    rw [hz] at e
    cases e
  refine ⟨A.st, R', fun h b e => ?_, fun h b l e => ?_⟩
  · rcases ad h b e with ⟨z, _⟩ | ⟨_, l, p, e, ev⟩
    · exact A.own h b z
    · obtain ⟨a, ha, _, hz⟩ := hn l p e
      rw [ev] at ha
      cases ha
      exact .inr hz
  · rcases ad h b e with ⟨z, ne⟩ | ⟨_, l, p, e, ev⟩
    · refine A.opn h b ?_ z
      cases h with
      | slot j =>
        obtain ⟨p, hp⟩ := l
        rcases setv hp with ⟨rfl, _, _⟩ | ⟨hj, hp⟩
        · exact absurd rfl ne
        · exact ⟨p, hp⟩
      | loan k => exact l
    · obtain ⟨a, ha, _, hz⟩ := hn l p e
      rw [ev] at ha
      cases ha
      exact .inr hz
def setSl (i : Nat) (x : Slot) : M Unit := fun r => .ok () { r with sl := r.sl.set i x }
def storeM (i : Nat) : RV → M Unit
  | .val p => setSl i (.val p)
  | .fresh p => setSl i (.own false p)
  | .loan k => setSl i (.loan k)
  | .slot j => fun r => match frzM (.slot j) r with
    | .ok (.val p) r' => setSl i (.val p) r'
    | _ => .no
/-- the state behind a store -/
theorem store_ok (R0 : Rel B L s0) (A : Ex B L s0 s) (hs : s.s = s0.s ∨ True) {i : Nat} {r : RV} {v : V} {res : Res Unit} (h : RRel B L s0 s r v) (e : storeM i r s.r = res) :
    (∃ e' w', res = .ok () e' ∧ w'.H = s.w.H ∧ Ex B L s0 ⟨e', s.s.set i (some v), w'⟩) ∨ res = .no := by
  cases r with
  | val p =>
    subst e
    exact .inl ⟨_, s.w, rfl, rfl, setSlotEx R0 A (x := .val p) ⟨v, rfl, h⟩ fun l p e => by cases e⟩
  | fresh p =>
    subst e
    obtain ⟨a, rfl, o, n, z⟩ := h
    exact .inl ⟨_, s.w, rfl, rfl, setSlotEx R0 A (x := .own false p) ⟨a, rfl, o⟩ fun l p e => by
      cases e
      exact ⟨a, rfl, n, z⟩⟩
  | loan k =>
    subst e
    obtain ⟨a, hL, rfl⟩ := h
    exact .inl ⟨_, s.w, rfl, rfl, setSlotEx R0 A (x := .loan k) ⟨a, hL, rfl⟩ fun l p e => by cases e⟩
  | slot j =>
    cases e1 : frzM (.slot j) s.r with
    | ok z e' =>
      obtain ⟨q, w', rfl, hH, A', hr⟩ := frz_ok (s0 := s) (.refl A.rel) (r := .slot j) h e1
      have A2 := A.trans A'.x
      have e : setSl i (.val q) e' = res := by
        rw [← e]
        unfold storeM
        simp only [e1]
      subst e
      refine .inl ⟨_, w', rfl, hH, ?_⟩
      exact setSlotEx (s := ⟨e', s.s, w'⟩) R0 A2 (x := .val q) ⟨v, rfl, hr⟩ fun l p e => by cases e
    | exc c e' => exact (frzM_ne e1).elim
    | no =>
      refine .inr ?_
      rw [← e]
      unfold storeM
      simp only [e1]
def mSet (i : Nat) (m : M RV) : M Fl := m.bind fun r => (storeM i r).bind fun _ => M.pure .next
theorem set_end {i : Nat} {r : RV} {v : V} (R0 : Rel B L s0) (A : Ex B L s0 s) (h : RRel B L s0 s r v) (P : PostS B L W s0 D (((storeM i r).bind fun _ => M.pure .next) s.r)) : D.nx (s.s.set i (some v)) s.w.H := by
  unfold M.bind at P
  rcases store_ok R0 A (.inr trivial) h rfl (i := i) with ⟨e', w', e, hH, x⟩ | e
  · rw [e] at P
    rw [← hH]
    exact P _ _ x
  · rw [e] at P
    exact P.elim
theorem bs_set {i : Nat} {x : Str} {pos' : Pos} (hN : X.N.Nodup) (hi : X.N[i]? = some x) (hx : Loc X.env.scope x) (he : PE X e (tB B W m)) (hs : swapsWith e (some (.Name x pos')) pos.line X.env = pure false := by rfl) (hf : X.fn x = true ∨ X.env.scope.names.lookup x = some .local := by first | exact .inl rfl | exact .inr rfl | assumption) :
    PS X (.Assign [.Name x pos'] e pos) (tS B W (mSet i m)) := by
  refine (ps_set hN hi hx he hs hf).imp fun D σ H h => ?_
  refine (tS.bind (T := RRel) h).mono fun v H1 q => ?_
  obtain ⟨L, s0, s, r1, rfl, rfl, R0, A, h1, P⟩ := q
  exact set_end R0 A.x h1 P
/-- .. whatever rule stores it (a comprehension's own) -/
theorem bs_setBy {i : Nat} {st : Stmt} (h : PS X st (tAsg (tB B W m) (gName i))) : PS X st (tS B W (mSet i m)) := by
  refine h.imp fun D σ H h => ?_
  refine (tS.bind (T := RRel) h).mono fun v H1 q => ?_
  obtain ⟨L, s0, s, r1, rfl, rfl, R0, A, h1, P⟩ := q
  exact set_end R0 A.x h1 P
/-- x op= e -/
def mAug (f : PV → PV → Option RV) (i : Nat) (m : M RV) : M Fl := mSet i (mBin f (mVar i) m)
theorem bs_aug {i : Nat} {x : Str} {op : Operator} {rr : R2} {f : PV → PV → Option RV} {pos' : Pos} (hN : X.N.Nodup) (hi : X.N[i]? = some x) (hx : Loc X.env.scope x) (he : PE X e (tB B W m)) (ho : OpR X (inplaceOp op) rr) (ok : OkR2 B rr f)
    (hf : X.fn x = true ∨ X.env.scope.names.lookup x = some .local := by first | exact .inl rfl | exact .inr rfl | assumption) : PS X (.AugAssign (.Name x pos') op e pos) (tS B W (mAug f i m)) := by
  refine (ps_aug (ti := rr) hN hi hx he (fun pins s σ H x y v u Q I r1 r2 h => ho pins s σ H x y v u Q I r1 r2 h) hf).imp fun D σ H h => ?_
  have h1 := tS.bind (T := RRel) (ma := mBin f (mVar i) m) h
  obtain ⟨L, s, rfl, rfl, R, P⟩ := h
  have P : PostS B L W s D (((mVar i).bind fun x => m.bind fun y => (look2 f x y).bind fun r => (storeM i r).bind fun _ => M.pure .next) s.r) := by
    have e : ((mBin f (mVar i) m).bind fun r => (storeM i r).bind fun _ => M.pure Fl.next) s.r = ((mVar i).bind fun x => m.bind fun y => (look2 f x y).bind fun r => (storeM i r).bind fun _ => M.pure .next) s.r := by
      unfold mBin M.bind
      cases mVar i s.r with
      | ok a r =>
        dsimp only
        cases m r with
        | ok b r => rfl
        | exc c r => rfl
        | no => rfl
      | exc c r => rfl
      | no => rfl
    rw [← e]
    exact P
  -- the old value
  have key : ∀ (r1 : RV) (v : V), s.s[i]? = some (some v) → mVar i s.r = .ok r1 s.r → RRel B L s s r1 v → PostS B L W s D ((m.bind fun y => (look2 f r1 y).bind fun r => (storeM i r).bind fun _ => M.pure .next) s.r) → ∃ x, s.s[i]? = some (some x) ∧ tB B W m s.s s.w.H fun y H1 => rr x y H1 fun z H2 => D.nx (s.s.set i (some z)) H2 := by
    intro r1 v ev e1 hr P
    refine ⟨v, ev, ?_⟩
    refine (PostS.bind (T := RRel) (Ex.refl R) P).mono fun y H1 q => ?_
    obtain ⟨s2, r2, rfl, A2, h2, P2⟩ := q
    have h1' := hr.at A2 R
    unfold M.bind look2 at P2
    cases e3 : peek s2.r r1 with
    | none => rw [e3] at P2; exact P2.elim
    | some p =>
      cases e4 : peek s2.r r2 with
      | none => rw [e3, e4] at P2; exact P2.elim
      | some q =>
        rw [e3, e4] at P2
        cases e5 : f p q with
        | none => simp only [e5] at P2; exact P2.elim
        | some z =>
          simp only [e5] at P2
          refine ok L s2 p q v y z _ A2.rel (peek_con A2.rel h1' e3) (peek_con A2.rel h2 e4) e5 fun w' u A' hz => ?_
          have := set_end (s := ⟨s2.r, s2.s, w'⟩) (i := i) R (A2.trans A').x (RRel.weak A2.x hz) P2
          rw [← A2.e]
          exact this
  unfold M.bind at P
  cases e1 : mVar i s.r with
  | ok r1 e' =>
    have hv := e1
    unfold mVar at hv
    rw [e1] at P
    split at hv
    · rename_i p e
      cases hv
      obtain ⟨v, ev, hr⟩ := R.sl i _ e
      exact key _ v ev e1 hr P
    · rename_i l p e
      cases hv
      obtain ⟨a, ev, hr⟩ := R.sl i _ e
      exact key _ _ ev e1 ev P
    · rename_i k e
      cases hv
      obtain ⟨a, hL, ev⟩ := R.sl i _ e
      exact key _ _ ev e1 ⟨a, hL, rfl⟩ P
    · cases hv
  | exc c e' =>
    unfold mVar at e1
    split at e1 <;> cases e1
  | no =>
    rw [e1] at P
    exact P.elim
end
end
end BL
/-! B, defs: their mirrors, their promises, calls. -/
namespace BL
noncomputable section
open PySem PySem.Spec PyProof.Rows L2
inductive Arg where
  | val (p : PV) | loan (t : Stt) (p : PV)
inductive FRes where
  | ok (r : RV) (ln : List (Stt × PV)) (st : List Inst) | exc (c : Nat) (ln : List (Stt × PV)) (st : List Inst) | no
abbrev Fn := List Arg → List Inst → FRes
def argSl : Nat → List Arg → List Slot
  | _, [] => []
  | k, .val p :: r => .val p :: argSl k r
  | k, .loan _ _ :: r => .loan k :: argSl (k + 1) r
def argLn : List Arg → List (Stt × PV)
  | [] => []
  | .val _ :: r => argLn r
  | .loan t p :: r => (t, p) :: argLn r
theorem argSl_length : ∀ (k : Nat) (as : List Arg), (argSl k as).length = as.length
  | _, [] => rfl
  | k, .val p :: r => by
    show (argSl k r).length + 1 = r.length + 1
    rw [argSl_length k r]
  | k, .loan _ _ :: r => by
    show (argSl (k + 1) r).length + 1 = r.length + 1
    rw [argSl_length (k + 1) r]
def entry (as : List Arg) (st : List Inst) (vs : List V) (w : Wd) : BS := ⟨⟨argSl 0 as, argLn as, st⟩, vs.map some, w⟩
def leftB (e : Env) (w : Wd) : BS := ⟨⟨[], e.ln, e.st⟩, [], w⟩
def PostF (B : BC) (L : List Addr) (s0 : BS) (Q : VK) (E : XK) : FRes → Prop
  | .ok r ln st => ∀ w v, Ex B L s0 ⟨⟨[], ln, st⟩, [], w⟩ → RRel B L s0 ⟨⟨[], ln, st⟩, [], w⟩ r v → Q v w.H
  | .exc c ln st => ∀ w, Ex B L s0 ⟨⟨[], ln, st⟩, [], w⟩ → ∀ C, B.cl[c]? = some C → E (.ref C) none w.H
  | .no => False
/-- a def's promise by its mirror -/
def spF (B : BC) (n : Nat) (F : Fn) : Sp := fun vs H Q E => vs.length = n ∧ ∃ L as st w, w.H = H ∧ Rel B L (entry as st vs w) ∧ PostF B L (entry as st vs w) Q E (F as st)
def finRV (r : RV) (e : Env) : FRes := match r with
  | .val p => .ok (.val p) e.ln e.st
  | .fresh p => .ok (.fresh p) e.ln e.st
  | .slot i => (match e.sl[i]? with
    | some (.own false p) => .ok (.fresh p) e.ln e.st
    | some (.val p) => .ok (.val p) e.ln e.st
    | some (.loan k) => (match frzLn k e with
      | .ok r e' => .ok r e'.ln e'.st
      | _ => .no)
    | _ => .no)
  | .loan k => (match frzLn k e with
    | .ok r e' => .ok r e'.ln e'.st
    | _ => .no)
def finF : Res Fl → FRes
  | .ok (.ret r) e => finRV r e
  | .ok .next e => .ok (.val .non) e.ln e.st
  | .exc c e => .exc c e.ln e.st
  | _ => .no
/-- a def with n parameters, N names in all -/
def mkFn (n N : Nat) (body : M Fl) : Fn := fun as st => if as.length = n then finF (body ⟨argSl 0 as ++ List.replicate (N - n) .no, argLn as, st⟩) else .no
section
variable {B : BC} {W : WX} {L : List Addr} {s0 s : BS}
theorem rep_get {α : Type} {n i : Nat} {x y : α} (h : (List.replicate n x)[i]? = some y) : y = x := by
  rw [List.getElem?_replicate] at h
  split at h
  · cases h
    rfl
  · cases h
theorem app_get {α : Type} {xs ys : List α} {i : Nat} {y : α} (h : (xs ++ ys)[i]? = some y) : xs[i]? = some y ∨ (xs.length ≤ i ∧ ys[i - xs.length]? = some y) := by
  by_cases hi : i < xs.length
  · rw [List.getElem?_append_left hi] at h
    exact .inl h
  · rw [List.getElem?_append_right (by omega)] at h
    exact .inr ⟨by omega, h⟩
/-- further names without a value -/
theorem ext_ok {r : Env} {σ : L2.St} {w : Wd} {k : Nat} (R : Rel B L ⟨r, σ, w⟩) :
    Rel B L ⟨{ r with sl := r.sl ++ List.replicate k .no }, σ ++ List.replicate k none, w⟩ ∧ ∀ s', Ex B L ⟨{ r with sl := r.sl ++ List.replicate k .no }, σ ++ List.replicate k none, w⟩ s' → Ex B L ⟨r, σ, w⟩ s' := by
  have hl : σ.length = r.sl.length := R.len
  have gs : ∀ {i : Nat} {x : Slot}, (r.sl ++ List.replicate k .no)[i]? = some x → r.sl[i]? = some x ∨ x = .no := fun {i x} h => by
    rcases app_get h with h | ⟨_, h⟩
    · exact .inl h
    · exact .inr (rep_get h)
  have gv : ∀ {i : Nat} {x : Option V}, i < σ.length → (σ ++ List.replicate k none)[i]? = σ[i]? := fun {i x} h => List.getElem?_append_left h
  have gl : ∀ {i : Nat} {x : Slot}, r.sl[i]? = some x → i < σ.length := fun {i x} h => by rw [hl]; exact (List.getElem?_eq_some_iff.mp h).1
  have ad : ∀ h a, adr L ⟨{ r with sl := r.sl ++ List.replicate k .no }, σ ++ List.replicate k none, w⟩ h = some a → adr L ⟨r, σ, w⟩ h = some a := fun h a e => by
    cases h with
    | slot i =>
      obtain ⟨l, p, e1, e2⟩ := adr_slot_inv e
      rcases gs e1 with e1 | e1
      · exact adr_slot (s := ⟨r, σ, w⟩) e1 ((gv (x := none) (gl e1)).symm.trans e2)
      · cases e1
    | loan k =>
      obtain ⟨t, p, e1, ht, e2⟩ := adr_loan_inv e
      exact adr_loan (s := ⟨r, σ, w⟩) e1 ht e2
  have ad2 : ∀ h a, adr L ⟨r, σ, w⟩ h = some a → adr L ⟨{ r with sl := r.sl ++ List.replicate k .no }, σ ++ List.replicate k none, w⟩ h = some a := fun h a e => by
    cases h with
    | slot i =>
      obtain ⟨l, p, e1, e2⟩ := adr_slot_inv e
      have e1 : r.sl[i]? = some (.own l p) := e1
      have hi := gl e1
      exact adr_slot (s := ⟨{ r with sl := r.sl ++ List.replicate k .no }, σ ++ List.replicate k none, w⟩) ((List.getElem?_append_left (by rw [← hl]; exact hi)).trans e1) ((gv (x := none) hi).trans e2)
    | loan k =>
      obtain ⟨t, p, e1, ht, e2⟩ := adr_loan_inv e
      exact adr_loan (s := ⟨{ r with sl := r.sl ++ List.replicate _ .no }, σ ++ List.replicate _ none, w⟩) e1 ht e2
  have lv : ∀ h, isLive ⟨{ r with sl := r.sl ++ List.replicate k .no }, σ ++ List.replicate k none, w⟩ h → isLive ⟨r, σ, w⟩ h := fun h l => by
    cases h with
    | slot i =>
      obtain ⟨p, e⟩ := l
      rcases gs e with e | e
      · exact ⟨p, e⟩
      · cases e
    | loan k => exact l
  refine ⟨⟨by simp [hl], R.lnL, fun i x e => ?_, R.ln, fun x y a e1 e2 => R.inj x y a (ad x a e1) (ad y a e2), R.fd, R.lx, fun i l p a e1 e2 => ?_, R.od, R.nd, R.nf, R.st⟩, fun s' x => ⟨?_, x.rel, fun h a e => (x.own h a e).imp (ad h a) id, fun h a l e => (x.opn h a l e).imp (lv h) id⟩⟩
  · rcases gs e with e | e
    · show SlotOk B L w ((σ ++ List.replicate k none)[i]?) x
      rw [gv (x := none) (gl e)]
      exact R.sl i x e
    · subst e
      trivial
  · rcases gs e1 with e1 | e1
    · exact R.sL i l p a e1 ((gv (x := none) (gl e1)).symm.trans e2)
    · cases e1
  · refine x.st.mono fun a h => ?_
    rcases h with ⟨h, l, e⟩ | h
    · exact .inl ⟨h, lv h l, ad h a e⟩
    · exact .inr h
/-- all names forgotten -/
theorem Ex.drop {e : Env} {σ : L2.St} {w : Wd} (x : Ex B L s0 ⟨e, σ, w⟩) : Ex B L s0 (leftB e w) := by
  have R := x.rel
  have ad : ∀ h a, adr L (leftB e w) h = some a → adr L ⟨e, σ, w⟩ h = some a := fun h a q => by
    cases h with
    | slot i =>
      obtain ⟨l, p, e1, e2⟩ := adr_slot_inv q
      cases e1
    | loan k => exact q
  refine ⟨x.st, ⟨rfl, R.lnL, fun i y h => ?_, R.ln, fun y z a e1 e2 => R.inj y z a (ad y a e1) (ad z a e2), R.fd, R.lx, fun i l p a e1 e2 => ?_, R.od, R.nd, R.nf, R.st⟩, fun h a q => x.own h a (ad h a q), fun h a l q => x.opn h a ?_ (ad h a q)⟩
  · cases h
  · cases e1
  · cases h with
    | slot i =>
      obtain ⟨p, z⟩ := l
      cases z
    | loan k => exact l
theorem held_left {e : Env} {σ : L2.St} {w : Wd} {a : Addr} (h : Held L (leftB e w) a) : Held L ⟨e, σ, w⟩ a := by
  obtain ⟨h, q⟩ := h
  cases h with
  | slot i =>
    obtain ⟨l, p, e1, e2⟩ := adr_slot_inv q
    cases e1
  | loan k => exact ⟨.loan k, q⟩
theorem frzLn_inv {k : Nat} {e e' : Env} {z : RV} (h : frzLn k e = .ok z e') : e'.st = e.st ∧ e'.sl = e.sl := by
  unfold frzLn at h
  split at h
  · cases h
    exact ⟨rfl, rfl⟩
  · cases h
    exact ⟨rfl, rfl⟩
  · cases h
/-- what is handed back -/
theorem fin_ok {e : Env} {σ : L2.St} {w : Wd} {r r' : RV} {v : V} {ln : List (Stt × PV)} {st : List Inst} (hL : ∀ a, Held L s0 a → a ∈ L) (x : Ex B L s0 ⟨e, σ, w⟩) (h : RRel B L s0 ⟨e, σ, w⟩ r v) (q : finRV r e = .ok r' ln st) :
    ∃ w', w'.H = w.H ∧ Ex B L s0 ⟨⟨[], ln, st⟩, [], w'⟩ ∧ RRel B L s0 ⟨⟨[], ln, st⟩, [], w'⟩ r' v := by
  have viaLoan : ∀ {k : Nat} {a : Addr} {r' : RV} {e' : Env}, L[k]? = some a → v = .ref a → frzLn k e = .ok r' e' → ∃ w', w'.H = w.H ∧ Ex B L s0 ⟨⟨[], e'.ln, e'.st⟩, [], w'⟩ ∧ RRel B L s0 ⟨⟨[], e'.ln, e'.st⟩, [], w'⟩ r' v := by
    intro k a r' e' hk ev hf
    subst ev
    obtain ⟨p, w', rfl, hH, A, hr⟩ := frz_loan (s0 := ⟨e, σ, w⟩) (s := ⟨e, σ, w⟩) (.refl x.rel) hk hf
    exact ⟨w', hH, (x.trans A.x).drop, hr⟩
  cases r with
  | val p =>
    cases q
    exact ⟨w, rfl, x.drop, h⟩
  | fresh p =>
    cases q
    obtain ⟨a, rfl, o, n, z⟩ := h
    exact ⟨w, rfl, x.drop, a, rfl, o, fun hh => n (held_left hh), z⟩
  | slot i =>
    have h : σ[i]? = some (some v) := h
    unfold finRV at q
    dsimp only at q
    split at q
    · rename_i p e1
      cases q
      obtain ⟨a, e2, o⟩ := x.rel.sl i _ e1
      have e2 : σ[i]? = some (some (.ref a)) := e2
      rw [h] at e2
      cases e2
      have ha : adr L ⟨e, σ, w⟩ (.slot i) = some a := adr_slot (s := ⟨e, σ, w⟩) e1 h
      refine ⟨w, rfl, x.drop, a, rfl, o, fun hh => ?_, ?_⟩
      · obtain ⟨y, hy⟩ := hh
        cases y with
        | slot j =>
          obtain ⟨l, p, z, _⟩ := adr_slot_inv hy
          cases z
        | loan k =>
          have := x.rel.inj (.loan k) (.slot i) a hy ha
          cases this
      · rcases x.held ⟨_, ha⟩ with z | z
        · exact absurd (hL a z) (x.rel.sL i _ _ a e1 h)
        · exact z
    · rename_i p e1
      cases q
      obtain ⟨u, e2, hr⟩ := x.rel.sl i _ e1
      have e2 : σ[i]? = some (some u) := e2
      rw [h] at e2
      cases e2
      exact ⟨w, rfl, x.drop, hr⟩
    · rename_i k e1
      obtain ⟨a, hk, e2⟩ := x.rel.sl i _ e1
      have e2 : σ[i]? = some (some (.ref a)) := e2
      rw [h] at e2
      cases e2
      split at q
      · rename_i r2 e' hf
        cases q
        exact viaLoan hk rfl hf
      · cases q
    · cases q
  | loan k =>
    obtain ⟨a, hk, rfl⟩ := h
    unfold finRV at q
    dsimp only at q
    split at q
    · rename_i r2 e' hf
      cases q
      exact viaLoan hk rfl hf
    · cases q
theorem argSl_own {i k : Nat} {l : Bool} {p : PV} : ∀ {as : List Arg}, (argSl k as)[i]? ≠ some (.own l p) := by
  intro as
  induction as generalizing i k with
  | nil => intro h; cases h
  | cons a r ih =>
    intro h
    cases a with
    | val q =>
      cases i with
      | zero => cases h
      | succ i => exact ih h
    | loan t q =>
      cases i with
      | zero => cases h
      | succ i => exact ih h
theorem entry_held {as : List Arg} {st : List Inst} {vs : List V} {w : Wd} {a : Addr} (h : Held L (entry as st vs w) a) : a ∈ L := by
  obtain ⟨h, e⟩ := h
  cases h with
  | slot i =>
    obtain ⟨l, p, e1, _⟩ := adr_slot_inv e
    exact (argSl_own e1).elim
  | loan k =>
    obtain ⟨t, p, _, _, e2⟩ := adr_loan_inv e
    exact List.mem_of_getElem? e2
/-- a def's body, from its promise -/
theorem body_of {N : List Str} {n : Nat} {m : M Fl} {vs : List V} {H : Hp} {Q : VK} {E : XK} (h : spF B n (mkFn n N.length m) vs H Q E) :
    tS B (fun c d _ H => E c d H) m { nx := fun _ H' => Q .non H', rt := Q } (L2.start N vs) H := by
  obtain ⟨hn, L, as, st, w, rfl, R, P⟩ := h
  have hl : as.length = n := by
    have e : (vs.map some).length = (argSl 0 as).length := R.len
    rw [List.length_map, argSl_length] at e
    omega
  unfold mkFn at P
  rw [if_pos hl] at P
  obtain ⟨R2, back⟩ := ext_ok (k := N.length - n) R
  have es : L2.start N vs = vs.map some ++ List.replicate (N.length - n) none := by
    unfold L2.start
    rw [hn]
  refine ⟨L, ⟨⟨argSl 0 as ++ List.replicate (N.length - n) .no, argLn as, st⟩, vs.map some ++ List.replicate (N.length - n) none, w⟩, es.symm, rfl, R2, ?_⟩
  have hL : ∀ a, Held L (entry as st vs w) a → a ∈ L := fun a h => entry_held h
  dsimp only
  cases e : m ⟨argSl 0 as ++ List.replicate (N.length - n) .no, argLn as, st⟩ with
  | ok f e' =>
    rw [e] at P
    cases f with
    | next => exact fun σ w' x => P w' .non (back _ x).drop rfl
    | brk => exact P.elim
    | cont => exact P.elim
    | ret r =>
      intro σ w' v x hr
      have x' := back _ x
      have hr' : RRel B L (entry as st vs w) ⟨e', σ, w'⟩ r v := hr
      have P : PostF B L (entry as st vs w) Q E (finRV r e') := P
      cases q : finRV r e' with
      | ok r' ln st' =>
        rw [q] at P
        obtain ⟨w2, hH, x2, h2⟩ := fin_ok hL x' hr' q
        have := P w2 v x2 h2
        rw [hH] at this
        exact this
      | exc c ln st' =>
        exfalso
        unfold finRV at q
        split at q
        · cases q
        · cases q
        · split at q
          · cases q
          · cases q
          · split at q <;> cases q
          · cases q
        · split at q <;> cases q
      | no =>
        rw [q] at P
        exact P.elim
  | exc c e' =>
    rw [e] at P
    exact fun σ w' x C hC => P w' (back _ x).drop C hC
  | no =>
    rw [e] at P
    exact P.elim
/-- THE RULE for a def: its body's walk, for any frame -/
theorem fn_ok {P : Program} {w : World} {K : PySem.W.Frag} {mg : Str → Option Value} {base : Heap} {x qual : Str} {params : Arguments} {body : List Stmt} {scope : Scope} {dvs : List V} {kws : List (Str × V)} {f : Addr} {fd : FuncData} {N ps : List Str} {k n : Nat} {cl : List Addr} {m : M Fl}
    (F : FunD K x qual params body scope dvs kws f fd) (S : FnScope N ps scope) (hn : n = ps.length)
    (hb : ∀ (X : Cx) (W : WX), X.prog = P → X.w = w → X.K = K → X.mg = mg → X.base = base → X.N = N → X.env.scope = scope → X.calm = true → X.stack = X.env :: X.outer → X.env.frame = some X.env.locals → X.fn = (fun _ => true) → Room k X.A → Takes X W →
      PassesOwn (model X.prog X.w) X.A X.env X.xe → PSs X body (tS ⟨K, cl⟩ W m)) :
    FnOk P w K mg base (L2.CX P w) (k + 1) f fd ps (spF ⟨K, cl⟩ n (mkFn n N.length m)) := by
  subst hn
  refine F.ok S (fun vs H Q E h => h.1) fun cdv A outer s H vs Q E hr h => ⟨_, ?_, body_of h⟩
  exact hb (cxOf (L2.CX P w) P w K mg base N qual scope f cdv A outer s H E) _ rfl rfl rfl rfl rfl rfl rfl rfl rfl rfl rfl hr (takes_of rfl rfl rfl rfl) (passes_of rfl)
end
/-! ### calls -/
def callV (F : Fn) (rs : List RV) : M RV := fun r => match valsOf rs with
  | some ps => (match F (ps.map .val) r.st with
    | .ok z _ st => .ok z { r with st := st }
    | .exc c _ st => .exc c { r with st := st }
    | .no => .no)
  | none => .no
def mCall (F : Fn) (ms : M (List RV)) : M RV := ms.bind fun rs => callV F rs
section
variable {B : BC} {W : WX} {L : List Addr} {s0 s : BS}
theorem entry_vals {ps : List PV} {vs : List V} (R : Rel B L s) (h : Reps B.K s.w ps vs) : Rel B [] (entry (ps.map .val) s.r.st vs s.w) := by
  have sl : ∀ (k : Nat) (ps : List PV), argSl k (ps.map .val) = ps.map .val := fun k ps => by
    induction ps with
    | nil => rfl
    | cons p ps ih =>
      show Slot.val p :: argSl k (ps.map .val) = _
      rw [ih]
      rfl
  have ln : argLn (ps.map .val) = [] := by
    clear h sl
    induction ps with
    | nil => rfl
    | cons p ps ih => exact ih
  refine ⟨?_, ?_, fun i x e => ?_, fun k t a e _ => ?_, fun x y a e _ => ?_, R.fd, (fun a h => nomatch h), fun i l p a e _ => ?_, R.od, R.nd, R.nf, R.st⟩
  · show (vs.map some).length = (argSl 0 (ps.map Arg.val)).length
    rw [sl, List.length_map, List.length_map, h.length]
  · show 0 = (argLn (ps.map Arg.val)).length
    rw [ln]
    rfl
  · have e : (argSl 0 (ps.map Arg.val))[i]? = some x := e
    rw [sl, List.getElem?_map] at e
    cases q : ps[i]? with
    | none => rw [q] at e; cases e
    | some p =>
      rw [q] at e
      cases e
      obtain ⟨v, hv, hr⟩ := h.get q
      refine ⟨v, ?_, hr⟩
      show (vs.map some)[i]? = _
      rw [List.getElem?_map, hv]
      rfl
  · have e : (argLn (ps.map Arg.val))[k]? = some t := e
    rw [ln] at e
    cases e
  · exact nomatch entry_held ⟨x, e⟩
  · exact (argSl_own e).elim
theorem entry_vals_opn {ps : List PV} {vs : List V} {st : List Inst} {w : Wd} {a : Addr} (h : Opn [] (entry (ps.map .val) st vs w) a) : a ∈ w.O := by
  rcases h with ⟨h, _, e⟩ | h
  · exact nomatch entry_held ⟨h, e⟩
  · exact h
/-- behind a call that was handed values alone: the caller's state -/
theorem call_back {ps : List PV} {vs : List V} {ln : List (Stt × PV)} {st : List Inst} {w' : Wd} (A : At B L s0 s) (x : Ex B [] (entry (ps.map .val) s.r.st vs s.w) ⟨⟨[], ln, st⟩, [], w'⟩) : At B L s0 ⟨{ s.r with st := st }, s.s, w'⟩ := by
  have R := A.rel
  have R' := x.rel
  have M : Step (fun a => a ∈ s.w.O) s.w w' := x.st.mono fun a h => entry_vals_opn h
  have g : GoodM (fun a => a ∈ s.w.O) s.w := fun a h => R.good a (.inr h)
  have nO : ∀ {p : PV} {a : Addr}, ORep B.K s.w p a → ¬ a ∈ s.w.O := fun o => o.2.1
  have nn : ∀ {a : Addr}, s.w.H a = none → s0.w.H a = none := fun h => A.x.none h
  refine ⟨⟨A.x.st.trans M fun a h => (A.x.opened (.inr h)), ⟨R.len, R.lnL, fun i y e => ?_, fun k t a e e2 => ?_, R.inj, R'.fd, fun a h => ?_, R.sL, R'.od, R'.nd, R'.nf, R'.st⟩, fun h a e => A.x.own h a e, fun h a l e => A.x.opn h a l e⟩, A.e⟩
  · have := R.sl i y e
    cases y with
    | no => trivial
    | val p =>
      obtain ⟨v, e1, h⟩ := this
      exact ⟨v, e1, Rep.step M g h⟩
    | own l p =>
      obtain ⟨v, e1, h⟩ := this
      exact ⟨v, e1, ORep.step M g h (nO h)⟩
    | loan k => exact this
  · have := R.ln k t a e e2
    obtain ⟨t, p⟩ := t
    cases t with
    | froz => exact Rep.step M g this
    | live => exact ORep.step M g this (nO this)
    | lock => exact ORep.step M g this (nO this)
  · obtain ⟨o, e⟩ := R.lx a h
    exact M.dom a o e
theorem fin_rv {r : RV} {e : Env} {ln : List (Stt × PV)} {st : List Inst} {r' : RV} (q : finRV r e = .ok r' ln st) : (∃ p, r' = .val p) ∨ ∃ p, r' = .fresh p := by
  have viaLoan : ∀ {k : Nat} {r' : RV} {e' : Env}, frzLn k e = .ok r' e' → (∃ p, r' = .val p) ∨ ∃ p, r' = .fresh p := fun {k r' e'} h => by
    unfold frzLn at h
    split at h
    · cases h; exact .inl ⟨_, rfl⟩
    · cases h; exact .inl ⟨_, rfl⟩
    · cases h
  unfold finRV at q
  split at q
  · cases q; exact .inl ⟨_, rfl⟩
  · cases q; exact .inr ⟨_, rfl⟩
  · split at q
    · cases q; exact .inr ⟨_, rfl⟩
    · cases q; exact .inl ⟨_, rfl⟩
    · split at q
      · cases q; exact viaLoan (by assumption)
      · cases q
    · cases q
  · split at q
    · cases q; exact viaLoan (by assumption)
    · cases q
/-- a def hands back a value or a new object -/
def Plain (F : Fn) : Prop := ∀ as st r ln st', F as st = .ok r ln st' → (∃ p, r = .val p) ∨ ∃ p, r = .fresh p
theorem plain_mk {n N : Nat} {m : M Fl} : Plain (mkFn n N m) := fun as st r ln st' h => by
  unfold mkFn at h
  split at h
  · unfold finF at h
    split at h
    · exact fin_rv h
    · cases h; exact .inl ⟨_, rfl⟩
    · cases h
    · cases h
  · cases h
theorem ret_back {B : BC} {L L' : List Addr} {s0 s s1 : BS} {e1 : Env} {w' : Wd} {r : RV} {v : V} (A : At B L s0 s) (A' : At B L s0 ⟨e1, s.s, w'⟩) (hr : (∃ p, r = .val p) ∨ ∃ p, r = .fresh p) (hs : s1.w = s.w) {ln : List (Stt × PV)} {st : List Inst} (hh : ∀ a, Held L ⟨e1, s.s, w'⟩ a → Held L s a)
    (h : RRel B L' s1 ⟨⟨[], ln, st⟩, [], w'⟩ r v) : RRel B L s0 ⟨e1, s.s, w'⟩ r v := by
  rcases hr with ⟨p, rfl⟩ | ⟨p, rfl⟩
  · exact h
  · obtain ⟨a, e, o, n, z⟩ := h
    rw [hs] at z
    refine ⟨a, e, o, fun q => ?_, A.x.none z⟩
    obtain ⟨u, eu⟩ := A.rel.held_there (hh a q)
    rw [z] at eu
    cases eu
theorem callV_ok {F : Fn} {n : Nat} {rs : List RV} {vs : List V} {Q : VK} (hF : Plain F) (hn : rs.length = n) (A : At B L s0 s) (h : RRels B L s0 s rs vs) (P : Post RRel B L W s0 Q (callV F rs s.r)) : spF B n F vs s.w.H Q (WE W s.s) := by
  unfold callV at P
  cases e : valsOf rs with
  | none => rw [e] at P; exact P.elim
  | some ps =>
    rw [e] at P
    have hr := valsOf_reps h.1 e
    have hl : vs.length = n := by rw [← hn]; exact (Paired.length h.1).symm
    refine ⟨hl, [], ps.map .val, s.r.st, s.w, rfl, entry_vals A.rel hr, ?_⟩
    dsimp only at P
    cases q : F (ps.map .val) s.r.st with
    | ok z ln st =>
      rw [q] at P
      intro w' v x hv
      have A' := call_back A x
      have hz := ret_back A A' (hF _ _ _ _ _ q) rfl (fun a h => h) hv
      exact P.fin (s := ⟨{ s.r with st := st }, s.s, w'⟩) A' hz
    | exc c ln st =>
      rw [q] at P
      intro w' x C hC
      have A' := call_back A x
      show W (.ref C) none s.s w'.H
      have P := P w' (by rw [← A.e]; exact A'.x) C hC
      rw [← A.e] at P
      exact P
    | no =>
      rw [q] at P
      exact P.elim
end
section
variable {X : Cx} {B : BC} {W : WX} {x : Str} {p pos : Pos} {e : Expr} {es : List Expr} {ms : M (List RV)} {F : Fn} {k n : Nat} {f : Addr} {fd : FuncData} {ps : List Str}
theorem rrels_len {L : List Addr} {s0 s : BS} {rs : List RV} {vs : List V} (h : RRels B L s0 s rs vs) : rs.length = vs.length := Paired.length h.1
theorem be_call (G : FnOk X.prog X.w X.K X.mg X.base (L2.CX X.prog X.w) k f fd ps (spF B n F)) (hF : Plain F) (hr : Room k X.A) (hg : Gl X x) (hm : X.mg x = some (.ref f)) (hk : PySem.W.keepIn X.K (.ref f) = true) (hb : Binds X.K fd ps []) (tk : Takes X W)
    (ha : PA X (e :: es) (tA B W ms)) (hlen : ∀ r rs e', ms r = .ok rs e' → rs.length = n) (hdb : (x == ("__debug__" : Str)) = false := by decide) (he : starEach (e :: es) X.env = (false, eval e X.env) :: starEach es X.env := by rfl)
    (hpl : (backTo pos (starEach es X.env)).any (·.1) = false := by rfl) : PE X (.Call (.Name x p) (e :: es) [] pos) (tB B W (mCall F ms)) := by
  refine (pe_callS G hr hg hm hk hb (fun σ => passAt tk σ) ha hdb he hpl).imp fun σ H Q h => ?_
  obtain ⟨L, s, rfl, rfl, R, P⟩ := h
  refine ⟨L, s, rfl, rfl, R, ?_⟩
  unfold mCall M.bind at P
  cases q : ms s.r with
  | ok rs e' =>
    rw [q] at P
    intro w' vs xx hv
    exact callV_ok (s := ⟨e', s.s, w'⟩) hF (hlen _ _ _ q) ⟨xx, rfl⟩ hv P
  | exc c e' =>
    rw [q] at P
    exact P
  | no =>
    rw [q] at P
    exact P.elim
theorem len_nil : ∀ (r : Env) (rs : List RV) (e' : Env), mNilA r = .ok rs e' → rs.length = 0 := fun r rs e' h => by
  cases h
  rfl
theorem len_cons {m : M RV} {ms : M (List RV)} {n : Nat} (h : ∀ (r : Env) (rs : List RV) (e' : Env), ms r = .ok rs e' → rs.length = n) : ∀ (r : Env) (rs : List RV) (e' : Env), mConsA m ms r = .ok rs e' → rs.length = n + 1 := fun r rs e' q => by
  unfold mConsA M.bind at q
  split at q
  · dsimp only at q
    split at q
    · rename_i rs2 e2 q2
      cases q
      show rs2.length + 1 = n + 1
      rw [h _ _ _ q2]
    · cases q
    · cases q
  · cases q
  · cases q
end
end
end BL
/-! B, calls that lend one owned object. -/
namespace BL
noncomputable section
open PySem PySem.Spec PyProof.Rows L2
def loanLn (r : Env) (k : Nat) : Option (Stt × PV × Hold) := match r.ln[k]? with
  | some (.live, p) => some (.live, p, .loan k)
  | some (.lock, p) => some (.lock, p, .loan k)
  | _ => none
def loanOf (r : Env) : RV → Option (Stt × PV × Hold)
  | .slot i => (match r.sl[i]? with
    | some (.own false p) => some (.live, p, .slot i)
    | some (.own true p) => some (.lock, p, .slot i)
    | some (.loan k) => loanLn r k
    | _ => none)
  | .loan k => loanLn r k
  | _ => none
def slotOf : Stt → PV → Slot
  | .froz, p => .val p
  | .live, p => .own false p
  | .lock, p => .own true p
def putB (r : Env) (t : Stt) (p : PV) : Hold → Env
  | .slot i => { r with sl := r.sl.set i (slotOf t p) }
  | .loan k => { r with ln := r.ln.set k (t, p) }
def callL (F : Fn) (j : Nat) (rs : List RV) : M RV := fun r => match rs[j]?, valsOf (rs.take j), valsOf (rs.drop (j + 1)) with
  | some z, some ps, some qs => (match loanOf r z with
    | some (t, p, h) => (match F (ps.map .val ++ .loan t p :: qs.map .val) r.st with
      | .ok y [(t', p')] st => .ok y (putB { r with st := st } t' p' h)
      | .exc c [(t', p')] st => .exc c (putB { r with st := st } t' p' h)
      | _ => .no)
    | none => .no)
  | _, _, _ => .no
def mCallL (F : Fn) (j : Nat) (ms : M (List RV)) : M RV := ms.bind fun rs => callL F j rs
section
variable {B : BC} {W : WX} {L : List Addr} {s0 s : BS} {a : Addr} {p : PV} {t : Stt}
theorem argSl_vals (k : Nat) : ∀ ps : List PV, argSl k (ps.map .val) = ps.map .val
  | [] => rfl
  | p :: ps => by
    show Slot.val p :: argSl k (ps.map .val) = _
    rw [argSl_vals k ps]
    rfl
theorem argSl_mid (ps qs : List PV) (t : Stt) (p : PV) : argSl 0 (ps.map .val ++ Arg.loan t p :: qs.map .val) = ps.map .val ++ .loan 0 :: qs.map .val := by
  induction ps with
  | nil =>
    show Slot.loan 0 :: argSl 1 (qs.map .val) = _
    rw [argSl_vals 1 qs]
    rfl
  | cons q ps ih =>
    exact congrArg (Slot.val q :: ·) ih
theorem argLn_vals : ∀ ps : List PV, argLn (ps.map .val) = []
  | [] => rfl
  | p :: ps => argLn_vals ps
theorem argLn_mid (ps qs : List PV) (t : Stt) (p : PV) : argLn (ps.map .val ++ Arg.loan t p :: qs.map .val) = [(t, p)] := by
  induction ps with
  | nil =>
    show (t, p) :: argLn (qs.map .val) = _
    rw [argLn_vals]
  | cons q ps ih => exact ih
theorem val_slots {w : Wd} {ps : List PV} {vs : List V} {i : Nat} {x : Slot} {L : List Addr} (h : Reps B.K w ps vs) (e : (ps.map Slot.val)[i]? = some x) : SlotOk B L w ((vs.map some)[i]?) x := by
  rw [List.getElem?_map] at e
  cases q : ps[i]? with
  | none => rw [q] at e; cases e
  | some p =>
    rw [q] at e
    cases e
    obtain ⟨v, hv, hr⟩ := h.get q
    refine ⟨v, ?_, hr⟩
    rw [List.getElem?_map, hv]
    rfl
/-- what a lender holds -/
structure Lend (B : BC) (L : List Addr) (s : BS) (h : Hold) (t : Stt) (p : PV) (a : Addr) : Prop where
  ad : adr L s h = some a
  o : ORep B.K s.w p a
  nf : t ≠ .froz
  live : t = Stt.live → isLive s h
  at_ : match h with
    | .slot i => (∃ l q, s.r.sl[i]? = some (.own l q)) ∧ s.s[i]? = some (some (.ref a))
    | .loan k => (∃ u q, s.r.ln[k]? = some (u, q) ∧ u ≠ .froz) ∧ L[k]? = some a
theorem loanLn_ok (R : Rel B L s) {k : Nat} {h : Hold} (hL : L[k]? = some a) (e : loanLn s.r k = some (t, p, h)) : Lend B L s h t p a := by
  unfold loanLn at e
  split at e
  · rename_i q e1
    cases e
    exact ⟨adr_loan e1 (fun z => nomatch z) hL, R.ln k _ a e1 hL, (fun z => nomatch z), (fun _ => ⟨_, e1⟩), ⟨_, _, e1, (fun z => nomatch z)⟩, hL⟩
  · rename_i q e1
    cases e
    exact ⟨adr_loan e1 (fun z => nomatch z) hL, R.ln k _ a e1 hL, (fun z => nomatch z), (fun z => nomatch z), ⟨_, _, e1, (fun z => nomatch z)⟩, hL⟩
  · cases e
theorem loanOf_ok (R : Rel B L s) {z : RV} {v : V} {h : Hold} (hz : RRel B L s0 s z v) (e : loanOf s.r z = some (t, p, h)) : ∃ a, v = .ref a ∧ Lend B L s h t p a := by
  cases z with
  | val p => cases e
  | fresh p => cases e
  | slot i =>
    have hz : s.s[i]? = some (some v) := hz
    unfold loanOf at e
    dsimp only at e
    split at e
    · rename_i q e1
      cases e
      obtain ⟨a, e2, o⟩ := R.sl i _ e1
      rw [hz] at e2
      cases e2
      exact ⟨a, rfl, adr_slot e1 hz, o, (fun z => nomatch z), fun _ => ⟨_, e1⟩, ⟨_, _, e1⟩, hz⟩
    · rename_i q e1
      cases e
      obtain ⟨a, e2, o⟩ := R.sl i _ e1
      rw [hz] at e2
      cases e2
      exact ⟨a, rfl, adr_slot e1 hz, o, (fun z => nomatch z), (fun z => nomatch z), ⟨_, _, e1⟩, hz⟩
    · rename_i k e1
      obtain ⟨a, hL, e2⟩ := R.sl i _ e1
      rw [hz] at e2
      cases e2
      exact ⟨a, rfl, loanLn_ok R hL e⟩
    · cases e
  | loan k =>
    obtain ⟨a, hL, rfl⟩ := hz
    exact ⟨a, rfl, loanLn_ok R hL e⟩
theorem entry_lend {ps qs : List PV} {vs us : List V} {h : Hold} (R : Rel B L s) (hp : Reps B.K s.w ps vs) (hq : Reps B.K s.w qs us) (l : Lend B L s h t p a) :
    Rel B [a] (entry (ps.map .val ++ Arg.loan t p :: qs.map .val) s.r.st (vs ++ .ref a :: us) s.w) := by
  have hs : (entry (ps.map .val ++ Arg.loan t p :: qs.map .val) s.r.st (vs ++ .ref a :: us) s.w).r.sl = ps.map .val ++ .loan 0 :: qs.map .val := argSl_mid ps qs t p
  have hl : (entry (ps.map .val ++ Arg.loan t p :: qs.map .val) s.r.st (vs ++ .ref a :: us) s.w).r.ln = [(t, p)] := argLn_mid ps qs t p
  have hpl := hp.length
  refine ⟨?_, ?_, fun i x e => ?_, fun k u b e e2 => ?_, fun x y b e e2 => ?_, R.fd, fun b hb => ?_, fun i l q b e _ => ?_, R.od, R.nd, R.nf, R.st⟩
  · rw [hs]
    show ((vs ++ V.ref a :: us).map some).length = _
    simp [hpl, hq.length]
  · rw [hl]
    rfl
  · rw [hs] at e
    show SlotOk B [a] s.w (((vs ++ V.ref a :: us).map some)[i]?) x
    rw [List.map_append]
    rcases app_get e with e | ⟨hi, e⟩
    · have := val_slots (L := [a]) hp e
      have hi : i < (vs.map some).length := by
        have := (List.getElem?_eq_some_iff.mp e).1
        rw [List.length_map] at this ⊢
        omega
      rw [List.getElem?_append_left hi]
      exact this
    · rw [List.length_map] at hi e
      rw [List.getElem?_append_right (by rw [List.length_map]; omega), List.length_map, ← hpl, List.map_cons]
      cases hj : i - ps.length with
      | zero =>
        rw [hj] at e
        cases e
        exact ⟨a, rfl, rfl⟩
      | succ j =>
        rw [hj] at e
        exact val_slots (L := [a]) hq e
  · rw [hl] at e
    cases k with
    | zero =>
      cases e
      cases e2
      cases t with
      | froz => exact absurd rfl l.nf
      | live => exact l.o
      | lock => exact l.o
    | succ k => cases e
  · cases x with
    | slot i =>
      obtain ⟨_, _, e1, _⟩ := adr_slot_inv e
      exact (argSl_own e1).elim
    | loan k =>
      cases y with
      | slot i =>
        obtain ⟨_, _, e1, _⟩ := adr_slot_inv e2
        exact (argSl_own e1).elim
      | loan j =>
        obtain ⟨_, _, _, _, e1⟩ := adr_loan_inv e
        obtain ⟨_, _, _, _, e3⟩ := adr_loan_inv e2
        cases k with
        | zero => cases j with
          | zero => rfl
          | succ j => cases e3
        | succ k => cases e1
  · cases hb with
    | head => exact l.o.there
    | tail _ h => cases h
  · exact (argSl_own e).elim
theorem entry_lend_opn {ps qs : List PV} {st : List Inst} {vs : List V} {w : Wd} {b : Addr} (h : Opn [a] (entry (ps.map .val ++ Arg.loan t p :: qs.map .val) st vs w) b) : (b = a ∧ t = .live) ∨ b ∈ w.O := by
  rcases h with ⟨h, l, e⟩ | h
  · have hm := entry_held ⟨h, e⟩
    cases h with
    | slot i =>
      obtain ⟨_, _, e1, _⟩ := adr_slot_inv e
      exact (argSl_own e1).elim
    | loan k =>
      obtain ⟨q, l⟩ := l
      have l : (argLn (ps.map .val ++ Arg.loan t p :: qs.map .val))[k]? = some (.live, q) := l
      rw [argLn_mid] at l
      cases k with
      | zero =>
        cases l
        cases hm with
        | head => exact .inl ⟨rfl, rfl⟩
        | tail _ h => cases h
      | succ k => cases l
  · exact .inr h
theorem lend_back {ps qs : List PV} {vs : List V} {st : List Inst} {w' : Wd} {h : Hold} {t' : Stt} {p' : PV} (A : At B L s0 s) (l : Lend B L s h t p a)
    (x : Ex B [a] (entry (ps.map .val ++ Arg.loan t p :: qs.map .val) s.r.st vs s.w) ⟨⟨[], [(t', p')], st⟩, [], w'⟩) : At B L s0 ⟨putB { s.r with st := st } t' p' h, s.s, w'⟩ ∧ ∀ b, Held L ⟨putB { s.r with st := st } t' p' h, s.s, w'⟩ b → Held L s b := by
  have R := A.rel
  have R' := x.rel
  have opE : ∀ b, Opn [a] (entry (ps.map .val ++ Arg.loan t p :: qs.map .val) s.r.st vs s.w) b → Opn L s b := fun b h' => by
    rcases entry_lend_opn h' with ⟨rfl, e⟩ | h'
    · exact .inl ⟨h, l.live e, l.ad⟩
    · exact .inr h'
  have M : Step (fun b => (b = a ∧ t = .live) ∨ b ∈ s.w.O) s.w w' := x.st.mono fun b h => entry_lend_opn h
  have g : GoodM (fun b => (b = a ∧ t = .live) ∨ b ∈ s.w.O) s.w := fun b h => by
    rcases h with ⟨rfl, _⟩ | h
    · exact ⟨l.o.1, l.o.mut⟩
    · exact R.good b (.inr h)
  have new : LoanOk B w' a (t', p') := R'.ln 0 _ a rfl rfl
  have newS : SlotOk B L w' (some (some (.ref a))) (slotOf t' p') := by
    cases t' with
    | froz => exact ⟨.ref a, rfl, new⟩
    | live => exact ⟨a, rfl, new⟩
    | lock => exact ⟨a, rfl, new⟩
  -- the others' objects
  have oth : ∀ {q : PV} {b : Addr} {y : Hold}, ORep B.K s.w q b → adr L s y = some b → y ≠ h → ORep B.K w' q b := fun {q b y} o e ne => ORep.step M g o fun z => by
    rcases z with ⟨z, _⟩ | z
    · exact ne (R.inj y h a (by rw [← z]; exact e) l.ad)
    · exact o.2.1 z
  have ad : ∀ y b, adr L ⟨putB { s.r with st := st } t' p' h, s.s, w'⟩ y = some b → adr L s y = some b := fun y b e => by
    cases h with
    | slot i =>
      obtain ⟨⟨l1, q1, h1⟩, h2⟩ := l.at_
      cases y with
      | slot j =>
        obtain ⟨l', q', e1, e2⟩ := adr_slot_inv e
        rcases setv e1 with ⟨rfl, _, _⟩ | ⟨hj, e1⟩
        · exact adr_slot h1 e2
        · exact adr_slot e1 e2
      | loan k => exact e
    | loan k =>
      obtain ⟨⟨u, q, h1, hu⟩, h2⟩ := l.at_
      cases y with
      | slot j => exact e
      | loan j =>
        obtain ⟨t2, q2, e1, ht, e2⟩ := adr_loan_inv e
        rcases setv e1 with ⟨rfl, _, _⟩ | ⟨hj, e1⟩
        · exact adr_loan h1 hu e2
        · exact adr_loan e1 ht e2
  have sl : ∀ (i : Nat) y, (putB { s.r with st := st } t' p' h).sl[i]? = some y → SlotOk B L w' (s.s[i]?) y := fun i y e => by
    have old : s.r.sl[i]? = some y → (∀ z : i = i, h ≠ .slot i) → SlotOk B L w' (s.s[i]?) y := fun e ne => by
      have := R.sl i y e
      cases y with
      | no => trivial
      | val p =>
        obtain ⟨v, e1, h⟩ := this
        exact ⟨v, e1, Rep.step M g h⟩
      | own l p =>
        obtain ⟨v, e1, h⟩ := this
        exact ⟨v, e1, oth h (adr_slot e e1) fun z => ne rfl z.symm⟩
      | loan k => exact this
    cases h with
    | slot j =>
      rcases setv e with ⟨rfl, e, _⟩ | ⟨hj, e⟩
      · subst e
        rw [l.at_.2]
        exact newS
      · exact old e fun _ z => hj (by cases z; rfl)
    | loan k => exact old e fun _ z => nomatch z
  have ln : ∀ (k : Nat) y b, (putB { s.r with st := st } t' p' h).ln[k]? = some y → L[k]? = some b → LoanOk B w' b y := fun k y b e e2 => by
    have old : s.r.ln[k]? = some y → h ≠ .loan k → LoanOk B w' b y := fun e ne => by
      have := R.ln k y b e e2
      obtain ⟨u, q⟩ := y
      cases u with
      | froz => exact Rep.step M g this
      | live => exact oth this (adr_loan e (fun z => nomatch z) e2) fun z => ne z.symm
      | lock => exact oth this (adr_loan e (fun z => nomatch z) e2) fun z => ne z.symm
    cases h with
    | slot j => exact old e fun z => nomatch z
    | loan j =>
      rcases setv e with ⟨rfl, e, _⟩ | ⟨hj, e⟩
      · subst e
        have := l.at_.2
        rw [e2] at this
        cases this
        exact new
      · exact old e fun z => hj (by cases z; rfl)
  have lens : (putB { s.r with st := st } t' p' h).sl.length = s.r.sl.length ∧ (putB { s.r with st := st } t' p' h).ln.length = s.r.ln.length ∧ (putB { s.r with st := st } t' p' h).st = st := by
    cases h with
    | slot j => exact ⟨List.length_set .., rfl, rfl⟩
    | loan j => exact ⟨rfl, List.length_set .., rfl⟩
  have opn : ∀ y b, isLive ⟨putB { s.r with st := st } t' p' h, s.s, w'⟩ y → adr L ⟨putB { s.r with st := st } t' p' h, s.s, w'⟩ y = some b → isLive s y := fun y b lv e => by
    have e' := ad y b e
    by_cases hy : y = h
    · subst hy
      have eb : b = a := by
        have := l.ad
        rw [e'] at this
        cases this
        rfl
      subst eb
      have ht : t' = .live := by
        cases y with
        | slot j =>
          obtain ⟨q, lv⟩ := lv
          rcases setv lv with ⟨_, lv, _⟩ | ⟨hj, _⟩
          · cases t' <;> cases lv
            rfl
          · exact absurd rfl hj
        | loan j =>
          obtain ⟨q, lv⟩ := lv
          rcases setv lv with ⟨_, lv, _⟩ | ⟨hj, _⟩
          · cases lv
            rfl
          · exact absurd rfl hj
      subst ht
      obtain ⟨o, eo⟩ := l.o.there
      rcases x.opened (.inl ⟨.loan 0, ⟨p', rfl⟩, rfl⟩) with z | z
      · rcases entry_lend_opn z with ⟨_, ht⟩ | z
        · exact l.live ht
        · exact absurd z l.o.2.1
      · have z : s.w.H b = none := z
        rw [z] at eo
        cases eo
    · cases h with
      | slot j =>
        cases y with
        | slot i =>
          obtain ⟨q, lv⟩ := lv
          rcases setv lv with ⟨rfl, _, _⟩ | ⟨hj, lv⟩
          · exact absurd rfl hy
          · exact ⟨q, lv⟩
        | loan k => exact lv
      | loan j =>
        cases y with
        | slot i => exact lv
        | loan k =>
          obtain ⟨q, lv⟩ := lv
          rcases setv lv with ⟨rfl, _, _⟩ | ⟨hj, lv⟩
          · exact absurd rfl hy
          · exact ⟨q, lv⟩
  refine ⟨⟨⟨A.x.st.trans M fun b hb => ?_, ⟨by rw [lens.1]; exact R.len, by rw [lens.2.1]; exact R.lnL, sl, ln, fun y z b e e2 => R.inj y z b (ad y b e) (ad z b e2), R'.fd, fun b hb => ?_, fun i l' q b e e2 => ?_, by rw [lens.2.2]; exact R'.od, R'.nd, R'.nf, fun n b I e e2 => ?_⟩, fun y b e => A.x.own y b (ad y b e), fun y b lv e => A.x.opn y b (opn y b lv e) (ad y b e)⟩, A.e⟩, fun b hb => Held.mono_sl ad hb⟩
  · refine A.x.opened ?_
    rcases hb with ⟨rfl, e⟩ | hb
    · exact .inl ⟨h, l.live e, l.ad⟩
    · exact .inr hb
  · obtain ⟨o, e⟩ := R.lx b hb
    exact M.dom b o e
  · have hs : adr L s (.slot i) = some b := ad _ _ (adr_slot (s := ⟨putB { s.r with st := st } t' p' h, s.s, w'⟩) e e2)
    obtain ⟨l2, q2, e3, e4⟩ := adr_slot_inv hs
    exact R.sL i l2 q2 b e3 e4
  · rw [lens.2.2] at e2
    exact R'.st n b I e e2
theorem split_at {α : Type} {xs : List α} {j : Nat} {z : α} (h : xs[j]? = some z) : xs = xs.take j ++ z :: xs.drop (j + 1) := by
  obtain ⟨hj, e⟩ := List.getElem?_eq_some_iff.mp h
  rw [← e, List.getElem_cons_drop, List.take_append_drop]
theorem Paired.takeP {α β : Type} {R : α → β → Prop} : ∀ {xs : List α} {ys : List β} (n : Nat), Paired R xs ys → Paired R (xs.take n) (ys.take n)
  | _, _, 0, _ => .nil
  | _, _, _ + 1, .nil => .nil
  | _, _, n + 1, .cons h t => .cons h (Paired.takeP n t)
theorem Paired.dropP {α β : Type} {R : α → β → Prop} : ∀ {xs : List α} {ys : List β} (n : Nat), Paired R xs ys → Paired R (xs.drop n) (ys.drop n)
  | _, _, 0, h => h
  | _, _, _ + 1, .nil => .nil
  | _, _, n + 1, .cons h t => Paired.dropP n t
theorem Paired.atP {α β : Type} {R : α → β → Prop} : ∀ {xs : List α} {ys : List β} {j : Nat} {x : α}, Paired R xs ys → xs[j]? = some x → ∃ y, ys[j]? = some y ∧ R x y
  | _, _, _, _, .nil, e => by cases e
  | _, _, 0, _, .cons h t, e => by
    cases e
    exact ⟨_, rfl, h⟩
  | _, _, j + 1, _, .cons h t, e => Paired.atP (j := j) t e
theorem callL_ok {F : Fn} {n j : Nat} {rs : List RV} {vs : List V} {Q : VK} (hF : Plain F) (hn : rs.length = n) (A : At B L s0 s) (h : RRels B L s0 s rs vs) (P : Post RRel B L W s0 Q (callL F j rs s.r)) : spF B n F vs s.w.H Q (WE W s.s) := by
  unfold callL at P
  split at P
  · rename_i z ps qs e1 e2 e3
    split at P
    · rename_i t p hd e4
      obtain ⟨v, ev, hz⟩ := Paired.atP h.1 e1
      obtain ⟨a, rfl, l⟩ := loanOf_ok A.rel hz e4
      have h1 := valsOf_reps (Paired.takeP j h.1) e2
      have h2 := valsOf_reps (Paired.dropP (j + 1) h.1) e3
      have evs := split_at ev
      have hl : vs.length = n := by rw [← hn]; exact (Paired.length h.1).symm
      refine ⟨hl, [a], _, s.r.st, s.w, rfl, by rw [evs]; exact entry_lend A.rel h1 h2 l, ?_⟩
      split at P
      · rename_i y t' p' st q
        rw [q]
        intro w' v x hv
        obtain ⟨A', hh⟩ := lend_back A l x
        exact P.fin (s := ⟨putB { s.r with st := st } t' p' hd, s.s, w'⟩) A' (ret_back A A' (hF _ _ _ _ _ q) rfl hh hv)
      · rename_i c t' p' st q
        rw [q]
        intro w' x C hC
        obtain ⟨A', hh⟩ := lend_back A l x
        have P := P w' (by rw [← A.e]; exact A'.x) C hC
        rw [← A.e] at P
        exact P
      · exact P.elim
    · exact P.elim
  · exact P.elim
end
section
variable {X : Cx} {B : BC} {W : WX} {x : Str} {p pos : Pos} {e : Expr} {es : List Expr} {ms : M (List RV)} {F : Fn} {j k n : Nat} {f : Addr} {fd : FuncData} {ps : List Str}
theorem be_callL (G : FnOk X.prog X.w X.K X.mg X.base (L2.CX X.prog X.w) k f fd ps (spF B n F)) (hF : Plain F) (hr : Room k X.A) (hg : Gl X x) (hm : X.mg x = some (.ref f)) (hk : PySem.W.keepIn X.K (.ref f) = true) (hb : Binds X.K fd ps []) (tk : Takes X W)
    (ha : PA X (e :: es) (tA B W ms)) (hlen : ∀ r rs e', ms r = .ok rs e' → rs.length = n) (hdb : (x == ("__debug__" : Str)) = false := by decide) (he : starEach (e :: es) X.env = (false, eval e X.env) :: starEach es X.env := by rfl)
    (hpl : (backTo pos (starEach es X.env)).any (·.1) = false := by rfl) : PE X (.Call (.Name x p) (e :: es) [] pos) (tB B W (mCallL F j ms)) := by
  refine (pe_callS G hr hg hm hk hb (fun σ => passAt tk σ) ha hdb he hpl).imp fun σ H Q h => ?_
  obtain ⟨L, s, rfl, rfl, R, P⟩ := h
  refine ⟨L, s, rfl, rfl, R, ?_⟩
  unfold mCallL M.bind at P
  cases q : ms s.r with
  | ok rs e' =>
    rw [q] at P
    intro w' vs xx hv
    exact callL_ok (s := ⟨e', s.s, w'⟩) hF (hlen _ _ _ q) ⟨xx, rfl⟩ hv P
  | exc c e' =>
    rw [q] at P
    exact P
  | no =>
    rw [q] at P
    exact P.elim
end
end
end BL
/-! B, loops: what is walked, locks, for, while. -/
namespace BL
noncomputable section
open PySem PySem.Spec PyProof.Rows L2
/-! ### locks -/
def lockS : Slot → Slot
  | .own _ p => .own true p
  | x => x
def unlS : Slot → Slot
  | .own _ p => .own false p
  | x => x
def lockT : Stt × PV → Stt × PV
  | (.live, p) => (.lock, p)
  | x => x
def unlT : Stt × PV → Stt × PV
  | (.lock, p) => (.live, p)
  | x => x
def lock1 (r : Env) : Hold → Env
  | .slot i => { r with sl := r.sl.modify i lockS }
  | .loan k => { r with ln := r.ln.modify k lockT }
def unl1 (r : Env) : Hold → Env
  | .slot i => { r with sl := r.sl.modify i unlS }
  | .loan k => { r with ln := r.ln.modify k unlT }
def lockE (lk : List Hold) (r : Env) : Env := lk.foldl lock1 r
def unlE (lk : List Hold) (r : Env) : Env := lk.foldl unl1 r
/-- the same but for the locks -/
structure Same (r r' : Env) : Prop where
  sl : r.sl.map lockS = r'.sl.map lockS
  ln : r.ln.map lockT = r'.ln.map lockT
  st : r.st = r'.st
theorem Same.refl {r : Env} : Same r r := ⟨rfl, rfl, rfl⟩
theorem Same.symm {r r' : Env} (h : Same r r') : Same r' r := ⟨h.sl.symm, h.ln.symm, h.st.symm⟩
theorem Same.trans {r r' r2 : Env} (h : Same r r') (h' : Same r' r2) : Same r r2 := ⟨h.sl.trans h'.sl, h.ln.trans h'.ln, h.st.trans h'.st⟩
theorem map_modify {α β : Type} (f : α → β) (g : α → α) (h : ∀ x, f (g x) = f x) (xs : List α) (i : Nat) : (xs.modify i g).map f = xs.map f := by
  apply List.ext_getElem?
  intro j
  rw [List.getElem?_map, List.getElem?_map, List.getElem?_modify]
  cases e : xs[j]? with
  | none => rfl
  | some x =>
    by_cases hj : i = j
    · simp [hj, h]
    · simp [hj]
theorem lockS_un (x : Slot) : lockS (unlS x) = lockS x := by cases x <;> rfl
theorem lockS_lk (x : Slot) : lockS (lockS x) = lockS x := by cases x <;> rfl
theorem lockT_un (x : Stt × PV) : lockT (unlT x) = lockT x := by
  obtain ⟨t, p⟩ := x
  cases t <;> rfl
theorem lockT_lk (x : Stt × PV) : lockT (lockT x) = lockT x := by
  obtain ⟨t, p⟩ := x
  cases t <;> rfl
theorem same_lock1 (r : Env) (h : Hold) : Same (lock1 r h) r := by
  cases h with
  | slot i => exact ⟨map_modify lockS lockS lockS_lk _ _, rfl, rfl⟩
  | loan k => exact ⟨rfl, map_modify lockT lockT lockT_lk _ _, rfl⟩
theorem same_unl1 (r : Env) (h : Hold) : Same (unl1 r h) r := by
  cases h with
  | slot i => exact ⟨map_modify lockS unlS lockS_un _ _, rfl, rfl⟩
  | loan k => exact ⟨rfl, map_modify lockT unlT lockT_un _ _, rfl⟩
theorem same_lock : ∀ (lk : List Hold) (r : Env), Same (lockE lk r) r
  | [], _ => .refl
  | h :: lk, r => (same_lock lk (lock1 r h)).trans (same_lock1 r h)
theorem same_unl : ∀ (lk : List Hold) (r : Env), Same (unlE lk r) r
  | [], _ => .refl
  | h :: lk, r => (same_unl lk (unl1 r h)).trans (same_unl1 r h)
section
variable {B : BC} {W : WX} {L : List Addr} {s0 s s1 s2 : BS} {r r' : Env} {σ : L2.St} {w : Wd}
theorem Same.slot (h : Same r r') {i : Nat} {x : Slot} (e : r.sl[i]? = some x) : ∃ y, r'.sl[i]? = some y ∧ lockS y = lockS x := by
  have e2 : (r.sl.map lockS)[i]? = some (lockS x) := by rw [List.getElem?_map, e]; rfl
  rw [h.sl, List.getElem?_map] at e2
  cases e3 : r'.sl[i]? with
  | none => rw [e3] at e2; cases e2
  | some y =>
    rw [e3] at e2
    exact ⟨y, rfl, Option.some.inj e2⟩
theorem Same.loan (h : Same r r') {i : Nat} {x : Stt × PV} (e : r.ln[i]? = some x) : ∃ y, r'.ln[i]? = some y ∧ lockT y = lockT x := by
  have e2 : (r.ln.map lockT)[i]? = some (lockT x) := by rw [List.getElem?_map, e]; rfl
  rw [h.ln, List.getElem?_map] at e2
  cases e3 : r'.ln[i]? with
  | none => rw [e3] at e2; cases e2
  | some y =>
    rw [e3] at e2
    exact ⟨y, rfl, Option.some.inj e2⟩
theorem Same.adr (h : Same r r') {y : Hold} {a : Addr} (e : adr L ⟨r, σ, w⟩ y = some a) : adr L ⟨r', σ, w⟩ y = some a := by
  cases y with
  | slot i =>
    obtain ⟨l, p, e1, e2⟩ := adr_slot_inv e
    obtain ⟨x, e3, e4⟩ := h.slot e1
    cases x with
    | own l' p' => exact adr_slot (s := ⟨r', σ, w⟩) e3 e2
    | no => cases e4
    | val p => cases e4
    | loan k => cases e4
  | loan k =>
    obtain ⟨t, p, e1, ht, e2⟩ := adr_loan_inv e
    obtain ⟨⟨t', p'⟩, e3, e4⟩ := h.loan e1
    refine adr_loan (s := ⟨r', σ, w⟩) e3 (fun z => ?_) e2
    subst z
    cases t with
    | froz => exact ht rfl
    | live => cases e4
    | lock => cases e4
theorem Same.rel (h : Same r r') (R : Rel B L ⟨r, σ, w⟩) : Rel B L ⟨r', σ, w⟩ := by
  have hl : r.sl.length = r'.sl.length := by simpa using congrArg List.length h.sl
  have hn : r.ln.length = r'.ln.length := by simpa using congrArg List.length h.ln
  refine ⟨R.len.trans hl, R.lnL.trans hn, fun i x e => ?_, fun k t a e e2 => ?_, fun y z a e1 e2 => R.inj y z a (h.symm.adr e1) (h.symm.adr e2), R.fd, R.lx, fun i l p a e1 e2 => ?_, R.od.trans (by show r.st.length = r'.st.length; rw [h.st]), R.nd, R.nf, fun n a I e e2 => R.st n a I e (by show r.st[n]? = some I; rw [h.st]; exact e2)⟩
  · obtain ⟨y, e1, e2⟩ := h.symm.slot e
    have := R.sl i y e1
    cases x with
    | no => trivial
    | val p =>
      cases y with
      | val q => cases e2; exact this
      | no => cases e2
      | own l q => cases e2
      | loan k => cases e2
    | own l p =>
      cases y with
      | own l' q => cases e2; exact this
      | no => cases e2
      | val q => cases e2
      | loan k => cases e2
    | loan k =>
      cases y with
      | loan k => cases e2; exact this
      | no => cases e2
      | val q => cases e2
      | own l q => cases e2
  · obtain ⟨⟨t', q⟩, e1, e3⟩ := h.symm.loan e
    have := R.ln k _ a e1 e2
    obtain ⟨t, p⟩ := t
    cases t <;> cases t' <;> cases e3 <;> exact this
  · obtain ⟨y, e3, e4⟩ := h.symm.slot e1
    cases y with
    | own l' q => exact R.sL i l' q a e3 e2
    | no => cases e4
    | val q => cases e4
    | loan k => cases e4
theorem live_lock1 {h y : Hold} (l : isLive ⟨lock1 r h, σ, w⟩ y) : isLive ⟨r, σ, w⟩ y ∧ y ≠ h := by
  cases h with
  | slot i =>
    cases y with
    | slot j =>
      obtain ⟨p, e⟩ := l
      have e : (r.sl.modify i lockS)[j]? = some (.own false p) := e
      rw [List.getElem?_modify] at e
      by_cases hj : i = j
      · subst hj
        cases e2 : r.sl[i]? with
        | none => rw [e2] at e; simp at e
        | some x =>
          rw [e2] at e
          simp at e
          cases x <;> simp [lockS] at e
      · simp [hj] at e
        exact ⟨⟨p, e⟩, fun z => hj (by cases z; rfl)⟩
    | loan k => exact ⟨l, fun z => nomatch z⟩
  | loan i =>
    cases y with
    | slot j => exact ⟨l, fun z => nomatch z⟩
    | loan j =>
      obtain ⟨p, e⟩ := l
      have e : (r.ln.modify i lockT)[j]? = some (.live, p) := e
      rw [List.getElem?_modify] at e
      by_cases hj : i = j
      · subst hj
        cases e2 : r.ln[i]? with
        | none => rw [e2] at e; simp at e
        | some x =>
          rw [e2] at e
          obtain ⟨t, q⟩ := x
          cases t <;> simp [lockT] at e
      · simp [hj] at e
        exact ⟨⟨p, e⟩, fun z => hj (by cases z; rfl)⟩
theorem live_lock : ∀ {lk : List Hold} {r : Env} {y : Hold}, isLive ⟨lockE lk r, σ, w⟩ y → isLive ⟨r, σ, w⟩ y ∧ y ∉ lk
  | [], _, _, l => ⟨l, by simp⟩
  | h :: lk, r, y, l => by
    obtain ⟨l1, n1⟩ := live_lock (lk := lk) (r := lock1 r h) l
    obtain ⟨l2, n2⟩ := live_lock1 l1
    exact ⟨l2, by simp [n1, n2]⟩
theorem live_unl1 {h y : Hold} (l : isLive ⟨unl1 r h, σ, w⟩ y) : isLive ⟨r, σ, w⟩ y ∨ y = h := by
  cases h with
  | slot i =>
    cases y with
    | slot j =>
      by_cases hj : i = j
      · exact .inr (by rw [hj])
      · obtain ⟨p, e⟩ := l
        have e : (r.sl.modify i unlS)[j]? = some (.own false p) := e
        rw [List.getElem?_modify] at e
        simp [hj] at e
        exact .inl ⟨p, e⟩
    | loan k => exact .inl l
  | loan i =>
    cases y with
    | slot j => exact .inl l
    | loan j =>
      by_cases hj : i = j
      · exact .inr (by rw [hj])
      · obtain ⟨p, e⟩ := l
        have e : (r.ln.modify i unlT)[j]? = some (.live, p) := e
        rw [List.getElem?_modify] at e
        simp [hj] at e
        exact .inl ⟨p, e⟩
theorem live_unl : ∀ {lk : List Hold} {r : Env} {y : Hold}, isLive ⟨unlE lk r, σ, w⟩ y → isLive ⟨r, σ, w⟩ y ∨ y ∈ lk
  | [], _, _, l => .inl l
  | h :: lk, r, y, l => by
    rcases live_unl (lk := lk) (r := unl1 r h) l with l | l
    · rcases live_unl1 l with l | l
      · exact .inl l
      · exact .inr (by simp [l])
    · exact .inr (by simp [l])
/-- into the locks -/
theorem lock_rel {lk : List Hold} (R : Rel B L s) : Rel B L ⟨lockE lk s.r, s.s, s.w⟩ := (same_lock lk s.r).symm.rel R
/-- out of the locks -/
theorem unl_ex {lk : List Hold} (hl : ∀ h ∈ lk, isLive s h) (x0 : Ex B L s0 s) (x : Ex B L ⟨lockE lk s.r, s.s, s.w⟩ s2) : Ex B L s0 ⟨unlE lk s2.r, s2.s, s2.w⟩ := by
  have sm := same_unl lk s2.r
  refine ⟨x0.st.trans x.st fun a h => ?_, sm.symm.rel x.rel, fun h a e => ?_, fun h a l e => ?_⟩
  · rcases h with ⟨h, l, e⟩ | h
    · obtain ⟨l1, _⟩ := live_lock l
      exact x0.opened (.inl ⟨h, l1, (same_lock lk s.r).adr e⟩)
    · exact x0.opened (.inr h)
  · rcases x.own h a (sm.adr e) with z | z
    · exact x0.own h a ((same_lock lk s.r).adr z)
    · exact .inr (x0.none z)
  · have e2 := sm.adr e
    rcases x.own h a e2 with z | z
    · have z := (same_lock lk s.r).adr z
      rcases live_unl l with l | l
      · rcases x.opn h a l e2 with y | y
        · exact x0.opn h a (live_lock y).1 z
        · exact .inr (x0.none y)
      · exact x0.opn h a (hl h l) z
    · exact .inr (x0.none z)
theorem unl_rr {lk : List Hold} {q : RV} {v : V} (h : RRel B L s0 s2 q v) : RRel B L s0 ⟨unlE lk s2.r, s2.s, s2.w⟩ q v := by
  cases q with
  | fresh p =>
    obtain ⟨a, e, o, n, z⟩ := h
    exact ⟨a, e, o, fun ⟨y, hy⟩ => n ⟨y, (same_unl lk s2.r).adr hy⟩, z⟩
  | _ => exact h
end
/-! ### what is walked -/
structure ItD where
  items : List PV
  lk : List Hold
/-- what an iterator gives at turn i is the i-th item -/
def Yok (B : BC) (s : BS) (Y : Nat → Hp → V → Hp → Prop) (items : List PV) : Prop :=
  ∀ (L : List Addr) (s' : BS) (i : Nat) (p : PV) (x : V) (H' : Hp), Rel B L s' → (∀ q v, Rep B.K s.w q v → Rep B.K s'.w q v) → items[i]? = some p → Y i s'.w.H x H' → ∃ w', w'.H = H' ∧ At B L s' ⟨s'.r, s'.s, w'⟩ ∧ Rep B.K w' p x
def RIt : RTy ItD It := fun B L s0 s d J => ∃ (G : Hp → Prop) (Y : Nat → Hp → V → Hp → Prop) (as : List Addr), Walk J d.items.length G Y ∧ (∀ H', (∀ a ∈ as, H' a = s.w.H a) → G H') ∧
  (∀ a ∈ as, (∃ o, s.w.H a = some o) ∧ (¬ Opn L s a ∨ ∃ h ∈ d.lk, adr L s h = some a)) ∧ (∀ h ∈ d.lk, isLive s h) ∧ Yok B s Y d.items
theorem yok_at {B : BC} {s : BS} {xs : List PV} {vs : List V} (h : Reps B.K s.w xs vs) : Yok B s (YAt vs) xs := by
  intro L s' i p x H' R k e y
  obtain ⟨rfl, ev⟩ := y
  obtain ⟨v, hv, hr⟩ := h.get e
  rw [ev] at hv
  cases hv
  exact ⟨s'.w, rfl, .refl R, k _ _ hr⟩
theorem yok_pair {B : BC} {s : BS} {n : Nat} {f g : Nat → Option V} {items : List PV} (hi : ∀ i p, items[i]? = some p → ∃ q1 q2, p = .tup [q1, q2] ∧ (∀ v, f i = some v → Rep B.K s.w q1 v) ∧ ∀ v, g i = some v → Rep B.K s.w q2 v) : Yok B s (YPair f g) items := by
  intro L s' i p x H' R k e y
  obtain ⟨T, u, v, rfl, hn, rfl, e1, e2⟩ := y
  obtain ⟨q1, q2, rfl, h1, h2⟩ := hi i p e
  exact ⟨_, rfl, R.alloc hn, R.newTup hn (vs := [u, v]) ⟨u, _, rfl, k _ _ (h1 u e1), v, _, rfl, k _ _ (h2 v e2), rfl⟩⟩
/-! ### targets -/
def PostU (B : BC) (L : List Addr) (s0 : BS) (Q : L2.St → Hp → Prop) : Res Unit → Prop
  | .ok _ e => ∀ σ w, Ex B L s0 ⟨e, σ, w⟩ → Q σ w.H
  | _ => False
def OkG (B : BC) (g : TG) (t : PV → M Unit) : Prop := ∀ (L : List Addr) (s0 s : BS) (p : PV) (v : V) (Q : L2.St → Hp → Prop), Rel B L s0 → Ex B L s0 s → Rep B.K s.w p v → PostU B L s0 Q (t p s.r) → g v s.s s.w.H Q
def tgN (i : Nat) : PV → M Unit := fun p => setSl i (.val p)
def tgT : List Nat → PV → M Unit
  | is, .tup ps => if is.length = ps.length then fun r => .ok () { r with sl := (is.zip ps).foldl (fun sl x => sl.set x.1 (.val x.2)) r.sl } else M.no
  | _, _ => M.no
section
variable {B : BC} {L : List Addr} {s0 s : BS}
theorem setVal (R0 : Rel B L s0) (x : Ex B L s0 s) {i : Nat} {p : PV} {v : V} (h : Rep B.K s.w p v) : Ex B L s0 ⟨{ s.r with sl := s.r.sl.set i (.val p) }, s.s.set i (some v), s.w⟩ :=
  setSlotEx R0 x (x := .val p) ⟨v, rfl, h⟩ fun l p e => by cases e
theorem okg_name {i : Nat} : OkG B (gName i) (tgN i) := fun L s0 s p v Q R0 x h P => P _ _ (setVal R0 x h)
def gNames : List Nat → TGs
  | [] => gNil
  | i :: is => gCons (gName i) (gNames is)
theorem okg_names : ∀ (is : List Nat) (L : List Addr) (s0 s : BS) (ps : List PV) (vs : List V) (Q : L2.St → Hp → Prop), Rel B L s0 → Ex B L s0 s → is.length = ps.length → Reps B.K s.w ps vs →
    (∀ σ w, Ex B L s0 ⟨{ s.r with sl := (is.zip ps).foldl (fun sl x => sl.set x.1 (.val x.2)) s.r.sl }, σ, w⟩ → Q σ w.H) → gNames is vs s.s s.w.H Q
  | [], L, s0, s, ps, vs, Q, R0, x, hl, h, P => by
    cases ps with
    | nil =>
      cases (show vs = [] from h)
      exact ⟨rfl, P _ _ x⟩
    | cons p ps => cases hl
  | i :: is, L, s0, s, ps, vs, Q, R0, x, hl, h, P => by
    cases ps with
    | nil => cases hl
    | cons p ps =>
      obtain ⟨v, r, rfl, h1, h2⟩ := h
      refine ⟨v, r, rfl, ?_⟩
      have x2 := setVal (i := i) R0 x h1
      exact okg_names is L s0 ⟨{ s.r with sl := s.r.sl.set i (.val p) }, s.s.set i (some v), s.w⟩ ps r Q R0 x2 (by simpa using hl) h2 P
theorem okg_tup {is : List Nat} : OkG B (gTup B.K is.length (gNames is)) (tgT is) := fun L s0 s p v Q R0 x h P => by
  cases p with
  | tup ps =>
    unfold tgT at P
    dsimp only at P
    by_cases hl : is.length = ps.length
    · rw [if_pos hl] at P
      obtain ⟨a, vs, rfl, h1, r⟩ := h
      exact ⟨a, vs, rfl, .inl (.inl h1), by rw [hl]; exact r.length.symm, okg_names is L s0 s ps vs Q R0 x hl r P⟩
    · rw [if_neg hl] at P
      exact P.elim
  | _ => exact P.elim
end
/-! ### for -/
def forM (tg : PV → M Unit) (body : M Fl) : List PV → M Fl
  | [] => M.pure .next
  | p :: ps => fun r => match tg p r with
    | .ok _ r => (body.bind fun f => match f with
      | .next => forM tg body ps
      | .cont => forM tg body ps
      | .brk => M.pure .next
      | .ret r => M.pure (.ret r)) r
    | _ => .no
def unlR {α : Type} (lk : List Hold) : Res α → Res α
  | .ok a r => .ok a (unlE lk r)
  | .exc c r => .exc c (unlE lk r)
  | .no => .no
def loopM (tg : PV → M Unit) (body : M Fl) (d : ItD) : M Fl := fun r => unlR d.lk (forM tg body d.items (lockE d.lk r))
def mFor (it : M ItD) (tg : PV → M Unit) (body : M Fl) : M Fl := it.bind fun d => loopM tg body d
section
variable {X : Cx} {B : BC} {W : WX} {tg iter : Expr} {body : List Stmt} {mi : M ItD} {mt : PV → M Unit} {mb : M Fl} {g : TG} {pos : Pos}
theorem bs_for (hp : PassesOwn (model X.prog X.w) X.A X.env X.xe) (hc : X.calm = true) (hi : PI X tg iter (tG RIt B W mi)) (hg : PG X tg g) (ok : OkG B g mt) (hb : PSs X body (tS B W mb))
    (hs : ∀ x, foldedSetIterable iter X.env x = pure x := by intro _; rfl) : PS X (.For tg iter body [] pos) (tS B W (mFor mi mt mb)) := by
  refine (ps_for hp hc hi hg hb hs).imp fun D σ H h => ?_
  refine (tS.bind (T := RIt) h).mono fun J H1 q => ?_
  obtain ⟨L, s0, s, d, rfl, rfl, R0, A, ⟨G, Y, as, wk, hG, hsafe, hlive, yok⟩, P⟩ := q
  have R1 : Rel B L ⟨lockE d.lk s.r, s.s, s.w⟩ := lock_rel A.rel
  have out : ∀ {s2 : BS}, Ex B L ⟨lockE d.lk s.r, s.s, s.w⟩ s2 → Ex B L s0 ⟨unlE d.lk s2.r, s2.s, s2.w⟩ := fun x => unl_ex hlive A.x x
  refine for_it wk (fun i σ H => ∃ s2, s2.s = σ ∧ s2.w.H = H ∧ Ex B L ⟨lockE d.lk s.r, s.s, s.w⟩ s2 ∧ PostS B L W s0 D (unlR d.lk (forM mt mb (d.items.drop i) s2.r))) ⟨⟨lockE d.lk s.r, s.s, s.w⟩, rfl, rfl, Ex.refl R1, P⟩ ?_ ?_ ?_
  · rintro i σ H _ ⟨s2, rfl, rfl, x, _⟩
    refine hG _ fun a ha => ?_
    obtain ⟨⟨o, e⟩, safe⟩ := hsafe a ha
    rw [e]
    refine x.st.keep a o e fun z => ?_
    have nO : ¬ Opn L s a → False := fun n => by
      rcases z with ⟨h, l, e⟩ | z
      · exact n (.inl ⟨h, (live_lock l).1, (same_lock d.lk s.r).adr e⟩)
      · exact n (.inr z)
    rcases safe with n | ⟨h, hm, eh⟩
    · exact nO n
    · rcases z with ⟨y, l, ey⟩ | z
      · obtain ⟨l1, n1⟩ := live_lock l
        have := A.rel.inj h y a eh ((same_lock d.lk s.r).adr ey)
        subst this
        exact n1 hm
      · obtain ⟨q, o'⟩ := held_orep A.rel eh
        exact o'.2.1 z
  · rintro i v σ H H' hi ⟨s2, rfl, rfl, x, P⟩ hy
    have ei : d.items[i]? = some d.items[i] := List.getElem?_eq_getElem hi
    rw [List.drop_eq_getElem_cons hi] at P
    obtain ⟨w', rfl, A2, hr⟩ := yok L s2 i _ v H' x.rel (fun q u h => (x.rep R1 h)) ei hy
    refine ok L ⟨lockE d.lk s.r, s.s, s.w⟩ ⟨s2.r, s2.s, w'⟩ _ v _ R1 (x.trans A2.x) hr ?_
    unfold forM M.bind at P
    dsimp only
    cases e1 : mt d.items[i] s2.r with
    | ok u e' =>
      rw [e1] at P
      dsimp only at P
      intro σ3 w3 x3
      refine ⟨L, ⟨e', σ3, w3⟩, rfl, rfl, x3.rel, ?_⟩
      dsimp only
      cases e2 : mb e' with
      | ok f e2' =>
        rw [e2] at P
        cases f with
        | next => exact fun σ4 w4 x4 => ⟨⟨e2', σ4, w4⟩, rfl, rfl, x3.trans x4, P⟩
        | cont => exact fun σ4 w4 x4 => ⟨⟨e2', σ4, w4⟩, rfl, rfl, x3.trans x4, P⟩
        | brk => exact fun σ4 w4 x4 => P σ4 w4 (out (s2 := ⟨e2', σ4, w4⟩) (x3.trans x4))
        | ret r => exact fun σ4 w4 v4 x4 h4 => P σ4 w4 v4 (out (s2 := ⟨e2', σ4, w4⟩) (x3.trans x4)) (unl_rr (s2 := ⟨e2', σ4, w4⟩) (RRel.weak (s := ⟨lockE d.lk s.r, s.s, s.w⟩) ⟨A.x.st, R1, fun h a e => A.x.own h a ((same_lock d.lk s.r).adr e), fun h a l e => A.x.opn h a (live_lock l).1 ((same_lock d.lk s.r).adr e)⟩ (h4.weak x3)))
      | exc c e2' =>
        rw [e2] at P
        exact fun σ4 w4 x4 => P σ4 w4 (out (s2 := ⟨e2', σ4, w4⟩) (x3.trans x4))
      | no =>
        rw [e2] at P
        exact P.elim
    | exc c e' =>
      rw [e1] at P
      exact P.elim
    | no =>
      rw [e1] at P
      exact P.elim
  · rintro σ H ⟨s2, rfl, rfl, x, P⟩
    rw [List.drop_of_length_le (Nat.le_refl _)] at P
    exact P _ _ (out x)
end
end
end BL
/-! B, sequences: items, slices, built-in functions over contents, methods that change a list, stores of an item. -/
namespace BL
noncomputable section
open PySem PySem.Spec PyProof.Rows L2
/-! ### contents of an argument list -/
def peeks (r : Env) : List RV → Option (List PV)
  | [] => some []
  | x :: xs => match peek r x, peeks r xs with
    | some p, some ps => some (p :: ps)
    | _, _ => none
def lookN (f : List PV → Option RV) (rs : List RV) : M RV := fun r => match peeks r rs with
  | some ps => (match f ps with | some z => .ok z r | none => .no)
  | none => .no
/-- a built-in function -/
def mBlt (f : List PV → Option RV) (ms : M (List RV)) : M RV := ms.bind (lookN f)
def Cons (K : PySem.W.Frag) (w : Wd) : List PV → List V → Prop := Paired (Con K w)
def OkRs (B : BC) (rr : List V → Hp → VK → Prop) (f : List PV → Option RV) : Prop := ∀ (L : List Addr) (s : BS) (ps : List PV) (xs : List V) (z : RV) (Q : VK), Rel B L s → Cons B.K s.w ps xs → f ps = some z →
  (∀ w' v, At B L s ⟨s.r, s.s, w'⟩ → RRel B L s ⟨s.r, s.s, w'⟩ z v → Q v w'.H) → rr xs s.w.H Q
section
variable {B : BC} {W : WX} {L : List Addr} {s0 s : BS}
theorem peeks_con (R : Rel B L s) : ∀ {rs : List RV} {vs : List V} {ps : List PV}, Paired (RRel B L s0 s) rs vs → peeks s.r rs = some ps → Cons B.K s.w ps vs
  | _, _, _, .nil, e => by cases e; exact .nil
  | r :: rs, v :: vs, ps, .cons h t, e => by
    unfold peeks at e
    cases e1 : peek s.r r with
    | none => rw [e1] at e; cases e
    | some p =>
      cases e2 : peeks s.r rs with
      | none => rw [e1, e2] at e; cases e
      | some qs =>
        rw [e1, e2] at e
        cases e
        exact .cons (peek_con R h e1) (peeks_con R t e2)
theorem Post.lookN {f : List PV → Option RV} {rs : List RV} {vs : List V} {Q : VK} {rr : List V → Hp → VK → Prop} (ok : OkRs B rr f) (A : At B L s0 s) (h : RRels B L s0 s rs vs) (P : Post RRel B L W s0 Q (lookN f rs s.r)) : rr vs s.w.H Q := by
  unfold BL.lookN at P
  split at P
  · rename_i ps e1
    split at P
    · rename_i z e3
      exact ok L s ps vs z Q A.rel (peeks_con A.rel h.1 e1) e3 fun w' v A' h => P.fin (A.trans A') (h.weak A.x)
    · exact P.elim
  · exact P.elim
theorem OkRs.or {r r' : List V → Hp → VK → Prop} {f : List PV → Option RV} (h : ∀ (L : List Addr) (s : BS) (ps : List PV) (xs : List V) (z : RV) (Q : VK), Rel B L s → Cons B.K s.w ps xs → f ps = some z →
  (∀ w' v, At B L s ⟨s.r, s.s, w'⟩ → RRel B L s ⟨s.r, s.s, w'⟩ z v → Q v w'.H) → r xs s.w.H Q ∨ r' xs s.w.H Q) : OkRs B (fun xs H Q => r xs H Q ∨ r' xs H Q) f := h
theorem Cons.one {K : PySem.W.Frag} {w : Wd} {p : PV} {xs : List V} (h : Cons K w [p] xs) : ∃ x, xs = [x] ∧ Con K w p x := by
  cases h with
  | cons a b => cases b; exact ⟨_, rfl, a⟩
theorem Cons.two {K : PySem.W.Frag} {w : Wd} {p q : PV} {xs : List V} (h : Cons K w [p, q] xs) : ∃ x y, xs = [x, y] ∧ Con K w p x ∧ Con K w q y := by
  cases h with
  | cons a b =>
    obtain ⟨y, rfl, h⟩ := Cons.one b
    exact ⟨_, _, rfl, a, h⟩
theorem Cons.three {K : PySem.W.Frag} {w : Wd} {p q r : PV} {xs : List V} (h : Cons K w [p, q, r] xs) : ∃ x y z, xs = [x, y, z] ∧ Con K w p x ∧ Con K w q y ∧ Con K w r z := by
  cases h with
  | cons a b =>
    obtain ⟨y, z, rfl, h⟩ := Cons.two b
    exact ⟨_, _, _, rfl, a, h⟩
end
section
variable {X : Cx} {B : BC} {W : WX} {x : Str} {p pos : Pos} {e : Expr} {es : List Expr} {ms : M (List RV)} {id T : String} {rr : List V → Hp → VK → Prop} {f : List PV → Option RV}
theorem blt_of {σ : L2.St} {H : Hp} {Q : VK} (ok : OkRs B rr f) (h : tB B W (mBlt f ms) σ H Q) : tCB rr (tA B W ms) σ H Q := by
  refine (tG.bind (T := RRels) h).mono fun x H1 q => ?_
  obtain ⟨L, s0, s, r1, e1, rfl, R0, A, h1, P⟩ := q
  exact P.lookN ok A h1
theorem be_blt (hc : CallR X (.builtin id) rr) (ok : OkRs B rr f) (hg : Gl X x) (hm : X.mg x = none) (hv : bootBuiltins x = some (.builtin id)) (ha : PA X (e :: es) (tA B W ms)) (hn : x ≠ "__name__" := by decide) (hdb : (x == ("__debug__" : Str)) = false := by decide)
    (he : starEach (e :: es) X.env = (false, eval e X.env) :: starEach es X.env := by rfl) (hpl : (backTo pos (starEach es X.env)).any (·.1) = false := by rfl) : PE X (.Call (.Name x p) (e :: es) [] pos) (tB B W (mBlt f ms)) :=
  (pe_callB hc hg hm hv ha hn hdb he hpl).imp fun σ H Q h => blt_of ok h
theorem be_blty (hc : CallR X (.type T) rr) (ok : OkRs B rr f) (hg : Gl X x) (hm : X.mg x = none) (hv : bootBuiltins x = some (.type T)) (ha : PA X (e :: es) (tA B W ms)) (hn : x ≠ "__name__" := by decide) (hdb : (x == ("__debug__" : Str)) = false := by decide)
    (he : starEach (e :: es) X.env = (false, eval e X.env) :: starEach es X.env := by rfl) (hpl : (backTo pos (starEach es X.env)).any (·.1) = false := by rfl) : PE X (.Call (.Name x p) (e :: es) [] pos) (tB B W (mBlt f ms)) :=
  (pe_callTy hc hg hm hv ha hn hdb he hpl).imp fun σ H Q h => blt_of ok h
end
/-! ### reading lists and tuples -/
section
variable {K : PySem.W.Frag} {w : Wd} {p : PV} {v : V}
/-- the items of a list, a script -/
def lstOf : PV → Option (List PV)
  | .lst xs => some xs
  | .scr ns => some (ns.map .int)
  | _ => none
theorem reps_ints : ∀ ns : List Int, Reps K w (ns.map .int) (ns.map V.int)
  | [] => rfl
  | _ :: ns => ⟨_, _, rfl, rfl, reps_ints ns⟩
theorem con_lst {xs : List PV} (h : Con K w p v) (e : lstOf p = some xs) : ∃ a vs, v = .ref a ∧ SqL K w.H a vs ∧ Reps K w xs vs := by
  cases p with
  | lst ys =>
    cases e
    obtain ⟨a, vs, rfl, h, r⟩ := h
    exact ⟨a, vs, rfl, .inl (.inl h), r⟩
  | scr ns =>
    cases e
    obtain ⟨a, rfl, h⟩ := h
    exact ⟨a, _, rfl, h.sq, reps_ints ns⟩
  | _ => cases e
theorem con_tup {xs : List PV} (h : Con K w (.tup xs) v) : ∃ a vs, v = .ref a ∧ SqT K w.H a vs ∧ Reps K w xs vs := by
  obtain ⟨a, vs, e, h, r⟩ := h
  exact ⟨a, vs, e, .inl (.inl h), r⟩
def seqOf : PV → Option (List PV)
  | .tup xs => some xs
  | p => lstOf p
theorem con_seq {xs : List PV} (h : Con K w p v) (e : seqOf p = some xs) : ∃ a vs, v = .ref a ∧ (SqL K w.H a vs ∨ SqT K w.H a vs) ∧ Reps K w xs vs := by
  cases p with
  | tup ys =>
    cases e
    obtain ⟨a, vs, rfl, h, r⟩ := con_tup h
    exact ⟨a, vs, rfl, .inr h, r⟩
  | lst ys =>
    obtain ⟨a, vs, rfl, h, r⟩ := con_lst h e
    exact ⟨a, vs, rfl, .inl h, r⟩
  | scr ys =>
    obtain ⟨a, vs, rfl, h, r⟩ := con_lst h e
    exact ⟨a, vs, rfl, .inl h, r⟩
  | _ => cases e
end
/-! ### items -/
def ixF : PV → PV → Option RV
  | .str s, .int i => @ite _ (s.length ≤ lim) (Classical.propDecidable _) ((atI s.cps.toList i).map fun c => .val (.str ⟨#[c]⟩)) none
  | p, .int i => (seqOf p).bind fun xs => (atI xs i).map .val
  | _, _ => none
theorem atI_reps {K : PySem.W.Frag} {w : Wd} {xs : List PV} {vs : List V} {i : Int} {p : PV} (r : Reps K w xs vs) (h : atI xs i = some p) : ∃ v, atI vs i = some v ∧ Rep K w p v := by
  unfold atI at h ⊢
  rw [← r.length]
  cases e : ixN xs.length i with
  | none => rw [e] at h; cases h
  | some j =>
    rw [e] at h
    exact r.get h
theorem ok_ix {B : BC} : OkR2 B (rIx B.K) ixF := by
  intro L s p q x y z Q R cp cq e k
  have gen : ∀ {i : Int} {xs : List PV}, q = .int i → seqOf p = some xs → (atI xs i).map RV.val = some z → rIx B.K x y s.w.H Q := by
    intro i xs eq e1 e2
    subst eq
    obtain ⟨a, vs, rfl, h, r⟩ := con_seq cp e1
    cases (show y = .int i from cq)
    cases e3 : atI xs i with
    | none => rw [e3] at e2; cases e2
    | some u =>
      rw [e3] at e2
      cases e2
      obtain ⟨v, h1, h2⟩ := atI_reps r e3
      rcases h with h | h
      · exact .inl ⟨a, vs, i, v, rfl, rfl, h, h1, k s.w v (.refl R) h2⟩
      · exact .inr (.inl ⟨a, vs, i, v, rfl, rfl, h, h1, k s.w v (.refl R) h2⟩)
  cases q with
  | int i =>
    cases p with
    | str t =>
      have e : (@ite _ (t.length ≤ lim) (Classical.propDecidable _) ((atI t.cps.toList i).map fun c => RV.val (.str ⟨#[c]⟩)) none) = some z := e
      cases (show x = .str t from cp)
      cases (show y = .int i from cq)
      split at e
      · rename_i hz
        cases e3 : atI t.cps.toList i with
        | none => rw [e3] at e; cases e
        | some u =>
          rw [e3] at e
          cases e
          exact .inr (.inr ⟨t, i, u, rfl, rfl, by rw [← lim_eq]; exact hz, e3, k s.w _ (.refl R) rfl⟩)
      · cases e
    | lst xs => exact gen rfl rfl e
    | tup xs => exact gen rfl rfl e
    | scr xs => exact gen rfl rfl e
    | _ => cases e
  | _ => cases p <;> cases e
section
variable {X : Cx} {B : BC} {W : WX} {a b : Expr} {ma mb : M RV} {pos : Pos}
theorem be_ix {rr : R2} {f : PV → PV → Option RV} (hr : IxR X rr) (ok : OkR2 B rr f) (ha : PE X a (tB B W ma)) (hb : PE X b (tB B W mb)) (hs : PlainIx b := by exact fun _ _ => rfl) : PE X (.Subscript a b pos) (tB B W (mBin f ma mb)) := by
  refine (pe_ix hr ha hb hs).imp fun σ H Q h => ?_
  exact two h fun L s0 s x y vx vy _ _ A h1 h2 P => P.look2 ok A h1 h2
end
/-! ### slices -/
def ROpt : RTy (Option Int) (Option Int) := fun _ _ _ _ a b => a = b
abbrev tO (B : BC) (W : WX) (m : M (Option Int)) : TO := tG ROpt B W m
def mNoPart : M (Option Int) := M.pure none
def mPart (m : M RV) : M (Option Int) := m.bind fun x => fun r => match peek r x with
  | some (.int i) => .ok (some i) r
  | _ => .no
def mSl (f : PV → Option Int → Option Int → Option RV) (m : M RV) (lo hi : M (Option Int)) : M RV := m.bind fun x => lo.bind fun l => hi.bind fun u => fun r => match peek r x with
  | some p => (match f p l u with | some z => .ok z r | none => .no)
  | none => .no
def cutP {α : Type} (xs : List α) (lo hi : Option Int) : List α := (xs.drop (HT.sIx xs.length 0 lo)).take (HT.sIx xs.length xs.length hi - HT.sIx xs.length 0 lo)
def slF : PV → Option Int → Option Int → Option RV
  | .tup xs, lo, hi => some (.val (.tup (cutP xs lo hi)))
  | .str z, lo, hi => @ite _ (z.length ≤ lim) (Classical.propDecidable _) (some (.val (.str (cutS z lo hi)))) none
  | p, lo, hi => (lstOf p).map fun xs => .fresh (.lst (cutP xs lo hi))
def OkSl (B : BC) (r : V → Option Int → Option Int → Hp → VK → Prop) (f : PV → Option Int → Option Int → Option RV) : Prop := ∀ (L : List Addr) (s : BS) (p : PV) (x : V) (lo hi : Option Int) (z : RV) (Q : VK), Rel B L s → Con B.K s.w p x → f p lo hi = some z →
  (∀ w' v, At B L s ⟨s.r, s.s, w'⟩ → RRel B L s ⟨s.r, s.s, w'⟩ z v → Q v w'.H) → r x lo hi s.w.H Q
theorem reps_cut {K : PySem.W.Frag} {w : Wd} {xs : List PV} {vs : List V} (r : Reps K w xs vs) (lo hi : Option Int) : Reps K w (cutP xs lo hi) (cutV vs lo hi) := by
  unfold cutP cutV
  rw [r.length]
  exact (r.drop _).take _
abbrev rSlB (K : PySem.W.Frag) : V → Option Int → Option Int → Hp → VK → Prop := fun x lo hi H Q => rSlL K x lo hi H Q ∨ (fun x lo hi H Q => rSlA K x lo hi H Q ∨ rSlS x lo hi H Q) x lo hi H Q
theorem sl_B {X : Cx} : SlR X (rSlB X.K) := sl_list.or (sl_tupA.or sl_str)
theorem ok_sl {B : BC} : OkSl B (rSlB B.K) slF := by
  intro L s p x lo hi z Q R cp e k
  have gen : ∀ {xs : List PV}, lstOf p = some xs → z = .fresh (.lst (cutP xs lo hi)) → rSlB B.K x lo hi s.w.H Q := by
    intro xs e1 e2
    subst e2
    obtain ⟨a, vs, rfl, h, r⟩ := con_lst cp e1
    exact .inl ⟨a, vs, rfl, h, fun p hn => k _ _ (R.alloc hn) (R.newList hn (reps_cut r lo hi))⟩
  cases p with
  | lst xs => cases e; exact gen rfl rfl
  | scr xs => cases e; exact gen rfl rfl
  | str t =>
    have e : (@ite _ (t.length ≤ lim) (Classical.propDecidable _) (some (RV.val (.str (cutS t lo hi)))) none) = some z := e
    cases (show x = .str t from cp)
    split at e
    · rename_i hz
      cases e
      exact .inr (.inr ⟨t, rfl, by rw [← lim_eq]; exact hz, k s.w _ (.refl R) rfl⟩)
    · cases e
  | tup xs =>
    cases e
    obtain ⟨a, vs, rfl, h, r⟩ := cp
    refine .inr (.inl ⟨a, vs, rfl, .inl (.inl h), fun hw => ?_, fun _ p hn => k _ _ (R.alloc hn) (R.newTup hn (reps_cut r lo hi))⟩)
    refine k s.w _ (.refl R) ⟨a, vs, rfl, h, ?_⟩
    have e : cutP xs lo hi = xs := by
      unfold cutP
      rw [r.length, hw.1, hw.2, List.drop_zero, Nat.sub_zero, ← r.length, List.take_length]
    rw [e]
    exact r
  | _ => cases e
section
variable {X : Cx} {B : BC} {W : WX} {a : Expr} {lo hi : Option Expr} {ma : M RV} {ml mh : M (Option Int)} {pos p2 : Pos}
theorem bo_none : PO X none (tO B W mNoPart) := ⟨fun pins s σ H Q I h => po_none.run pins s σ H Q I (by
  obtain ⟨L, s, rfl, rfl, R, P⟩ := h
  exact P.fin (.refl R) rfl)⟩
theorem bo_some (h : PE X a (tB B W ma)) : PO X (some a) (tO B W (mPart ma)) := ⟨fun pins s σ H Q I q => (po_some h).run pins s σ H Q I (by
  refine (tG.bind (T := RRel) q).mono fun x H1 q => ?_
  obtain ⟨L, s0, s, r1, e1, rfl, R0, A, h1, P⟩ := q
  split at P
  · rename_i i e2
    have hc : x = .int i := peek_con A.rel h1 e2
    exact ⟨i, hc, P.fin A rfl⟩
  · exact P.elim)⟩
theorem be_sl {r : V → Option Int → Option Int → Hp → VK → Prop} {f : PV → Option Int → Option Int → Option RV} (hr : SlR X r) (ok : OkSl B r f) (ha : PE X a (tB B W ma)) (hl : PO X lo (tO B W ml)) (hu : PO X hi (tO B W mh)) :
    PE X (.Subscript a (.Slice lo hi none p2) pos) (tB B W (mSl f ma ml mh)) := by
  refine (pe_slice hr ha hl hu).imp fun σ H Q h => ?_
  refine (tG.bind (T := RRel) h).mono fun x H1 q => ?_
  obtain ⟨L, s0, s, r1, rfl, rfl, R0, A, h1, P⟩ := q
  refine (Post.bind (T := ROpt) R0 A P).mono fun l H2 q => ?_
  obtain ⟨s2, l', rfl, A2, h2, P2⟩ := q
  cases h2
  rw [← A2.e]
  refine (Post.bind (T := ROpt) R0 (A.trans A2) P2).mono fun u H3 q => ?_
  obtain ⟨s3, u', rfl, A3, h3, P3⟩ := q
  cases h3
  split at P3
  · rename_i p e4
    split at P3
    · rename_i z e5
      have A4 := (A.trans A2).trans A3
      exact ok L s3 p x _ _ z Q A4.rel (peek_con A4.rel ((h1.at A2 A.rel).at A3 A2.rel) e4) e5 fun w' v A' h => P3.fin (A4.trans A') (h.weak A4.x)
    · exact P3.elim
  · exact P3.elim
end
end
end BL
/-! B, promises where no printing is under way (so that repr of a container may be asked): defs, calls, the law's end. -/
namespace BL
noncomputable section
open PySem PySem.Spec PyProof.Rows L2
def Gd (A : Around) : Prop := A.guards = some []
/-- a def's promise, asked where no printing is under way -/
structure FnG (P : Program) (w : World) (K : PySem.W.Frag) (mg : Str → Option Value) (base : Heap) (CX : CXT) (k : Nat) (f : Addr) (fd : FuncData) (ps : List Str) (sp : Sp) : Prop where
  len : ∀ vs H Q E, sp vs H Q E → vs.length = ps.length
  run : ∀ (A : Around) (outer : List PySem.Env) (s : Shared) (H : Hp) (args : Args) (us : List Value) (vs : List V) (Q : VK) (E : XK), Room k A → Gd A → Env0 P w K mg base A outer s H → BindsTo s fd args (ps.zip us) → Vals vs us → sp vs H Q E →
    codeAny (model P w) A (.call (.ref f) args) (CR CX outer P w H s Q E) s
section
variable {P : Program} {w : World} {K : PySem.W.Frag} {mg : Str → Option Value} {base : Heap} {CX : CXT} {k : Nat} {f : Addr} {fd : FuncData} {ps : List Str} {sp : Sp}
theorem FnG.of (F : FnOk P w K mg base CX k f fd ps sp) : FnG P w K mg base CX k f fd ps sp := ⟨F.len, fun A outer s H args us vs Q E hr _ he hb hv hs => F.run A outer s H args us vs Q E hr he hb hv hs⟩
theorem FnG.mono {j : Nat} (F : FnG P w K mg base CX j f fd ps sp) (h : j ≤ k) : FnG P w K mg base CX k f fd ps sp := ⟨F.len, fun A outer s H args us vs Q E hr => F.run A outer s H args us vs Q E (hr.mono h)⟩
/-- a def, by its body's reading at each entry -/
theorem fnG_of {x qual : Str} {params : Arguments} {body : List Stmt} {scope : Scope} {dvs : List V} {kws : List (Str × V)} {N : List Str} (F : FunD K x qual params body scope dvs kws f fd) (S : FnScope N ps scope) (len : ∀ vs H Q E, sp vs H Q E → vs.length = ps.length)
    (hbody : ∀ (cdv : Value) (A : Around) (outer : List PySem.Env) (s : Shared) (H : Hp) (vs : List V) (Q : VK) (E : XK), Room k (A.deeper (envOfC qual scope s.heap.objs.size f cdv)) → Gd (A.deeper (envOfC qual scope s.heap.objs.size f cdv)) → sp vs H Q E →
      ∃ t, PSs (cxOf CX P w K mg base N qual scope f cdv A outer s H E) body t ∧ t { nx := fun _ H' => Q .non H', rt := Q } (start N vs) H) : FnG P w K mg base CX (k + 1) f fd ps sp := by
  obtain ⟨oc, od, dV, kV, doc, pm, an, cdv, ct, osl, rfl, lk, hcd, _, _⟩ := F.ex
  refine ⟨len, fun A outer s H args us vs Q E hr hG e0 hb r hsp => ?_⟩
  have hl := len _ _ _ _ hsp
  have KX : K.In s.heap := e0.mod.kin.keeps fun b o e => (e0.bs b o e).1
  have lim : s.heap.NoLimit := e0.mod.nolimit.keeps fun b o e => (e0.bs b o e).1
  have hkind : ∀ y ∈ ps.zip us, scope.names.lookup y.1 = some .local ∨ (scope.names.lookup y.1 = some .cell ∧ ((cellsFrom (s.heap.objs.size + 1) scope.names []).lookup y.1).isSome = true) := fun ⟨n, v⟩ hy => by
    rcases S.par n (List.of_mem_zip hy).1 with q | q
    · exact .inl q
    · exact .inr ⟨q, PySem.W.cellsFrom_some _ _ _ (.inl q)⟩
  refine codeAny_call_function hr.depth (KX _ _ lk) rfl S.co S.gen rfl (PySem.W.codeRec_of KX hcd) (hb _ _ _ _ ?_)
  refine wpAny_newFunctionEnv_cells S.kind hkind fun env he s1 x => ?_
  subst he
  refine ⟨lim.keeps x.toInCall.keep, codeAny_func ?_⟩
  obtain ⟨t, ht, hq⟩ := hbody cdv A outer s H vs Q E (hr.deeper _) hG hsp
  have I := inv_start (CX := CX) (E := E) S hr.hd e0 hl r x
  refine wpAny_mono (ht.run [] s1 (start N vs) H _ I hq) (fun fl s' hs => ?_) fun e s' hs => hs
  have fin : ∀ {σ' : L2.St} {H' : Hp} {v : V} {u : Value}, Inv (cxOf CX P w K mg base N qual scope f cdv A outer s H E) [] σ' H' s' → RelV v u → Q v H' → CE outer P w H s Q u s' :=
    fun {σ' H' v u} J rv q => ⟨v, H', J.os, J.bare, J.base, J.hok, rv, q⟩
  cases fl with
  | ret u =>
    obtain ⟨v, σ', H', J, rv, q⟩ := hs
    exact fin J rv q
  | next =>
    obtain ⟨σ', H', J, q⟩ := hs
    exact fin (v := V.non) (u := Value.none) J rfl q
  | brk =>
    obtain ⟨_, _, _, q⟩ := hs
    exact False.elim q
  | cont =>
    obtain ⟨_, _, _, q⟩ := hs
    exact False.elim q
end
section
variable {X : Cx} {CX : CXT} {k : Nat} {f C : Addr} {fd : FuncData} {ps : List Str} {sp : Sp} {E : L2.St → XK} {x m : Str} {p pos apos : Pos} {e o : Expr} {es : List Expr} {ta : TE} {t : TA}
theorem run_fnG {σ : L2.St} {H : Hp} {pins : List (Addr × Obj)} {s : Shared} {Q : VK} {us : List Value} {vs : List V} (F : FnG X.prog X.w X.K X.mg X.base CX k f fd ps sp) (hr : Room k X.A) (hG : Gd X.A) (hb : Binds X.K fd ps []) (hx : PassesAt CX X σ (E σ))
    (I : Inv X pins σ H s) (r : Vals vs us) (h : sp vs H Q (E σ)) : wpAny (model X.prog X.w) X.A (call (.ref f) us) (EP X pins σ Q) X.xe s := by
  have b := hb s us I.kIn (by rw [List.append_nil, ← r.length]; exact F.len _ _ _ _ h)
  rw [List.append_nil] at b
  refine wpAny_call (codeAny_mono (F.run X.A X.stack s H ⟨us, []⟩ us vs Q (E σ) hr hG I.env0 b r h) fun r s' hq => ?_)
  rcases r with e | fl
  · exact hx pins H s e s' I hq
  · cases fl with
    | ret u => exact I.after hq
    | next => exact False.elim hq
    | brk => exact False.elim hq
    | cont => exact False.elim hq
theorem pe_callG (F : FnG X.prog X.w X.K X.mg X.base CX k f fd ps sp) (hr : Room k X.A) (hG : Gd X.A) (hg : Gl X x) (hm : X.mg x = some (.ref f)) (hk : PySem.W.keepIn X.K (.ref f) = true) (hb : Binds X.K fd ps []) (hx : ∀ σ, PassesAt CX X σ (E σ))
    (ha : PA X (e :: es) t) (hdb : (x == ("__debug__" : Str)) = false := by decide) (he : starEach (e :: es) X.env = (false, eval e X.env) :: starEach es X.env := by rfl) (hpl : (backTo pos (starEach es X.env)).any (·.1) = false := by rfl) :
    PE X (.Call (.Name x p) (e :: es) [] pos) (tCallS sp E t) := by
  refine ⟨fun pins s σ H Q I h => ?_⟩
  refine wpAny_Call_Name_kw (ld_glob I hg hm ?_ hdb)
  exact PySem.W.callWith_K (h₀ := X.base) I.ok.mod.kin hk (thn (ha.run pos pins s σ H _ I h) fun us s1 ⟨vs, H1, I1, r, q⟩ => ⟨I1.kIn, run_fnG F hr hG hb (hx σ) I1 r q⟩) he hpl
theorem pe_callG0 (F : FnG X.prog X.w X.K X.mg X.base CX k f fd ps sp) (hr : Room k X.A) (hG : Gd X.A) (hg : Gl X x) (hm : X.mg x = some (.ref f)) (hk : PySem.W.keepIn X.K (.ref f) = true) (hb : Binds X.K fd ps []) (hx : ∀ σ, PassesAt CX X σ (E σ))
    (hdb : (x == ("__debug__" : Str)) = false := by decide) : PE X (.Call (.Name x p) [] [] pos) (tCallS sp E tNil) := by
  refine ⟨fun pins s σ H Q I h => ?_⟩
  refine wpAny_Call_Name_kw (ld_glob I hg hm ?_ hdb)
  exact PySem.W.callWith_K0 I.kIn hk (run_fnG (us := []) F hr hG hb (hx σ) I .nil h)
end
/-- THE RULE for a def by its mirror -/
theorem fn_okG {P : Program} {w : World} {K : PySem.W.Frag} {mg : Str → Option Value} {base : Heap} {x qual : Str} {params : Arguments} {body : List Stmt} {scope : Scope} {dvs : List V} {kws : List (Str × V)} {f : Addr} {fd : FuncData} {N ps : List Str} {k n : Nat} {cl : List Addr} {m : M Fl}
    (F : FunD K x qual params body scope dvs kws f fd) (S : FnScope N ps scope) (hn : n = ps.length)
    (hb : ∀ (X : Cx) (W : WX), X.prog = P → X.w = w → X.K = K → X.mg = mg → X.base = base → X.N = N → X.env.scope = scope → X.calm = true → X.stack = X.env :: X.outer → X.env.frame = some X.env.locals → X.fn = (fun _ => true) → Room k X.A → Gd X.A → Takes X W →
      PassesOwn (model X.prog X.w) X.A X.env X.xe → PSs X body (tS ⟨K, cl⟩ W m)) :
    FnG P w K mg base (L2.CX P w) (k + 1) f fd ps (spF ⟨K, cl⟩ n (mkFn n N.length m)) := by
  subst hn
  refine fnG_of F S (fun vs H Q E h => h.1) fun cdv A outer s H vs Q E hr hG h => ⟨_, ?_, body_of h⟩
  exact hb (cxOf (L2.CX P w) P w K mg base N qual scope f cdv A outer s H E) _ rfl rfl rfl rfl rfl rfl rfl rfl rfl rfl rfl hr hG (takes_of rfl rfl rfl rfl) (passes_of rfl)
section
variable {X : Cx} {B : BC} {W : WX} {x : Str} {p pos : Pos} {e : Expr} {es : List Expr} {ms : M (List RV)} {F : Fn} {j k n : Nat} {f : Addr} {fd : FuncData} {ps : List Str}
theorem call_of {σ : L2.St} {H : Hp} {Q : VK} (hF : Plain F) (hlen : ∀ r rs e', ms r = .ok rs e' → rs.length = n) (h : tB B W (mCall F ms) σ H Q) : tCallS (spF B n F) (WE W) (tA B W ms) σ H Q := by
  obtain ⟨L, s, rfl, rfl, R, P⟩ := h
  refine ⟨L, s, rfl, rfl, R, ?_⟩
  unfold mCall M.bind at P
  cases q : ms s.r with
  | ok rs e' =>
    rw [q] at P
    intro w' vs xx hv
    exact callV_ok (s := ⟨e', s.s, w'⟩) hF (hlen _ _ _ q) ⟨xx, rfl⟩ hv P
  | exc c e' =>
    rw [q] at P
    exact P
  | no =>
    rw [q] at P
    exact P.elim
theorem be_callG (G : FnG X.prog X.w X.K X.mg X.base (L2.CX X.prog X.w) k f fd ps (spF B n F)) (hF : Plain F) (hr : Room k X.A) (hG : Gd X.A) (hg : Gl X x) (hm : X.mg x = some (.ref f)) (hk : PySem.W.keepIn X.K (.ref f) = true) (hb : Binds X.K fd ps []) (tk : Takes X W)
    (ha : PA X (e :: es) (tA B W ms)) (hlen : ∀ r rs e', ms r = .ok rs e' → rs.length = n) (hdb : (x == ("__debug__" : Str)) = false := by decide) (he : starEach (e :: es) X.env = (false, eval e X.env) :: starEach es X.env := by rfl)
    (hpl : (backTo pos (starEach es X.env)).any (·.1) = false := by rfl) : PE X (.Call (.Name x p) (e :: es) [] pos) (tB B W (mCall F ms)) :=
  (pe_callG G hr hG hg hm hk hb (fun σ => passAt tk σ) ha hdb he hpl).imp fun σ H Q h => call_of hF hlen h
theorem be_callG0 (G : FnG X.prog X.w X.K X.mg X.base (L2.CX X.prog X.w) k f fd ps (spF B 0 F)) (hF : Plain F) (hr : Room k X.A) (hG : Gd X.A) (hg : Gl X x) (hm : X.mg x = some (.ref f)) (hk : PySem.W.keepIn X.K (.ref f) = true) (hb : Binds X.K fd ps []) (tk : Takes X W)
    (hdb : (x == ("__debug__" : Str)) = false := by decide) : PE X (.Call (.Name x p) [] [] pos) (tB B W (mCall F mNilA)) := by
  refine (pe_callG0 G hr hG hg hm hk hb (fun σ => passAt tk σ) hdb).imp fun σ H Q h => ?_
  have h2 := call_of hF len_nil h
  obtain ⟨L, s, rfl, rfl, R, P⟩ := h2
  exact P s.w [] (Ex.refl R) ⟨.nil, List.nodup_nil⟩
theorem callL_of {σ : L2.St} {H : Hp} {Q : VK} (hF : Plain F) (hlen : ∀ r rs e', ms r = .ok rs e' → rs.length = n) (h : tB B W (mCallL F j ms) σ H Q) : tCallS (spF B n F) (WE W) (tA B W ms) σ H Q := by
  obtain ⟨L, s, rfl, rfl, R, P⟩ := h
  refine ⟨L, s, rfl, rfl, R, ?_⟩
  unfold mCallL M.bind at P
  cases q : ms s.r with
  | ok rs e' =>
    rw [q] at P
    intro w' vs xx hv
    exact callL_ok (s := ⟨e', s.s, w'⟩) hF (hlen _ _ _ q) ⟨xx, rfl⟩ hv P
  | exc c e' =>
    rw [q] at P
    exact P
  | no =>
    rw [q] at P
    exact P.elim
theorem be_callGL (G : FnG X.prog X.w X.K X.mg X.base (L2.CX X.prog X.w) k f fd ps (spF B n F)) (hF : Plain F) (hr : Room k X.A) (hG : Gd X.A) (hg : Gl X x) (hm : X.mg x = some (.ref f)) (hk : PySem.W.keepIn X.K (.ref f) = true) (hb : Binds X.K fd ps []) (tk : Takes X W)
    (ha : PA X (e :: es) (tA B W ms)) (hlen : ∀ r rs e', ms r = .ok rs e' → rs.length = n) (hdb : (x == ("__debug__" : Str)) = false := by decide) (he : starEach (e :: es) X.env = (false, eval e X.env) :: starEach es X.env := by rfl)
    (hpl : (backTo pos (starEach es X.env)).any (·.1) = false := by rfl) : PE X (.Call (.Name x p) (e :: es) [] pos) (tB B W (mCallL F j ms)) :=
  (pe_callG G hr hG hg hm hk hb (fun σ => passAt tk σ) ha hdb he hpl).imp fun σ H Q h => callL_of hF hlen h
end
/-! ### the law's end -/
/-- the law's def, called by the judge: from its promise over every base -/
theorem end_call {P : Program} {w : World} {K : PySem.W.Frag} {mg mb : Str → Option Value} {CX : CXT} {k : Nat} {fa a : Addr} {fd : FuncData} {x : Str} {sp : Sp} {s₁ : Shared} {vs : List Value} {ns : List Int}
    (KX : K.In s₁.heap) (hns : s₁.heap.Ns mainGlobals mg) (hb : s₁.heap.Ns builtinsNs mb) (hbb : ∀ x : Str, x ≠ "__name__" → mb x = bootBuiltins x) (hlim : s₁.heap.NoLimit) (hg : s₁.gens = #[])
    (ha : s₁.heap.get? a = some { cls := .type "list", data := .seq vs.toArray }) (hi : IntsAre vs ns) (hl : ns.length ≤ sizeLine) (hr : Room k callerA)
    (F : ∀ base : Heap, K.In base → base.Ns mainGlobals mg → FnG P w K mg base CX k fa fd [x] sp) (hbind : ∀ (s : Shared) (u : Value), BindsTo s fd ⟨[u], []⟩ [(x, u)])
    (hsp : ∀ H : Hp, Only H → SqL K H a (ns.map V.int) → sp [.ref a] H (fun v _ => v = .bl true) fun _ _ _ => False)
    (hCX : ∀ H e s', CX [] H s₁ (fun _ _ _ => False) e s' → False) :
    codeAny (model P w) callerA (.call (.ref fa) ⟨[.ref a], []⟩) (fun r s' => r = .ok (.ret (.bool true)) ∧ OldK s₁.heap s'.heap ∧ s'.os = s₁.os ∧ AllBare s'.gens) s₁ := by
  have rv := vals_ints hi
  have lenV := hi.length
  have core : ∀ H : Hp, Only H → SqL K H a (ns.map V.int) → HOk P w H s₁.heap → (∀ b, H b ≠ none → b = a) → (H a ≠ none → K.lookup a = none) →
      codeAny (model P w) callerA (.call (.ref fa) ⟨[.ref a], []⟩) (fun r s' => r = .ok (.ret (.bool true)) ∧ OldK s₁.heap s'.heap ∧ s'.os = s₁.os ∧ AllBare s'.gens) s₁ := by
    intro H hO hS hok hA hK
    have other : ∀ {b : Addr}, b ≠ a → H b = none := fun {b} n => by
      cases q : H b with
      | none => rfl
      | some u => exact absurd (hA b (by rw [q]; exact fun z => by cases z)) n
    have noA : ∀ {b : Addr} {o : Obj} {es : Array DictEntry} {ep : Nat}, s₁.heap.get? b = some o → o.data = .dict es ep → H b = none := fun {b o es ep} e d => by
      refine other fun z => ?_
      subst z
      rw [ha] at e
      cases e
      cases (show Data.seq vs.toArray _ = Data.dict es ep from d)
    have nsK : ∀ {b : Addr} {m : Str → Option Value}, s₁.heap.Ns b m → (hidT s₁.heap H).Ns b m := fun {b m} ⟨o, es, ep, e, d, r⟩ => ⟨o, es, ep, hidT_get e (noA e d), d, r⟩
    have hKb : K.In (hidT s₁.heap H) := fun b o e => hidT_get (KX b o e) (by
      by_cases z : b = a
      · subst z
        cases q : H b with
        | none => rfl
        | some u =>
          rw [hK (by rw [q]; exact fun z => by cases z)] at e
          cases e
      · exact other z)
    have hM : Mod K mg (hidT s₁.heap H) := ⟨hKb, nsK hns, ⟨mb, nsK hb, hbb⟩, let ⟨mc, h1, h2⟩ := hlim; ⟨mc, nsK h1, h2⟩⟩
    have e0 : Env0 P w K mg (hidT s₁.heap H) callerA [] s₁ H := ⟨rfl, hM, fun b o e => of_hidT e, Nat.le_of_eq (hidT_size _ _), trivial, fun b hb => absurd hb List.not_mem_nil, hok, .of_eq hg⟩
    refine codeAny_mono ((F _ hKb (nsK hns)).run callerA [] s₁ H ⟨[.ref a], []⟩ [.ref a] [.ref a] _ _ hr rfl e0 (hbind s₁ (.ref a)) (.cons rfl .nil) (hsp H hO hS)) fun r s' h => ?_
    rcases r with e | fl
    · exact (hCX H e s' h).elim
    · cases fl with
      | next => exact False.elim h
      | brk => exact False.elim h
      | cont => exact False.elim h
      | ret u =>
        obtain ⟨v, H', os, bare, un, hok', r', q⟩ := h
        have q' : v = .bl true := q
        subst q'
        obtain rfl : u = Value.bool true := r'
        refine ⟨rfl, OldK.of_keep fun b o e => ?_, os, bare⟩
        cases q : H b with
        | none => exact un.keep b o e q List.not_mem_nil List.not_mem_nil
        | some u =>
          rcases hO b with z | ⟨ob, xs, z⟩
          · rw [q] at z
            cases z
          · obtain ⟨e1, _⟩ := hok b _ z
            obtain ⟨e2, _⟩ := hok' b _ (un.frzs b ob _ z)
            rw [e] at e1
            cases e1
            exact e2
  cases hk : K.lookup a with
  | some o =>
    have e := KX a o hk
    rw [ha] at e
    cases e
    exact core (fun _ => none) (fun _ => .inl rfl) (.inr ⟨_, vs.toArray, _, hk, rfl, rfl, rfl, by rw [List.size_toArray, lenV]; exact hl, by simpa using rv⟩) (fun b u z => by cases (show (none : Option HO) = some u from z)) (fun b z => absurd rfl z) fun z => absurd rfl z
  | none =>
    have at_ : ∀ b, b ≠ a → (if b = a then some (HO.frz { cls := .type "list", data := .seq vs.toArray } (.lst (ns.map V.int))) else none) = none := fun b h => if_neg h
    refine core (fun b => if b = a then some (.frz { cls := .type "list", data := .seq vs.toArray } (.lst (ns.map V.int))) else none) (fun b => ?_) (.inl (.inr ⟨{ cls := .type "list", data := .seq vs.toArray }, if_pos rfl⟩)) (fun b u z => ?_) (fun b z => ?_) fun _ => hk
    · by_cases h : b = a
      · exact .inr ⟨_, _, if_pos h⟩
      · exact .inl (at_ b h)
    · by_cases h : b = a
      · cases (if_pos h).symm.trans z
        subst h
        exact ⟨ha, by rw [List.length_map]; exact hl, vs, _, rv, ha⟩
      · cases (at_ b h).symm.trans z
    · by_cases h : b = a
      · exact h
      · exact absurd (at_ b h) z
theorem walk_ofG {l : PySem.W.OpenLaw} {n k : Nat} {q : Program} {loose : List Str} {XP : (Str → Option Value) → Heap → Prop} {YP : World → Heap → Prop} {d : DefRec} {CX : World → CXT} {x : Str}
    (hn : l.most = some n) (hn2 : n ≤ sizeLine) (hdf : d.params.defaults = []) (hr : Room k callerA)
    (F : ∀ (w : World) (mg : Str → Option Value) (fa : Addr) (h : Heap), YP w h → h.Ns mainGlobals mg → mg d.name = some (.ref fa) →
      ∃ (K : PySem.W.Frag) (fd : FuncData) (sp : Sp), K.In h ∧ (∀ (s : Shared) (u : Value), BindsTo s fd ⟨[u], []⟩ [(x, u)]) ∧
        (∀ (H : Hp) (a : Addr) (ns : List Int), ns.length ≤ n → (∀ z ∈ ns, Builtin.Int.intBits z ≤ 1048576) → Only H → SqL K H a (ns.map V.int) → sp [.ref a] H (fun v _ => v = .bl true) fun _ _ _ => False) ∧
        ∀ base : Heap, K.In base → base.Ns mainGlobals mg → FnG l.prog w K mg base (CX w) k fa fd [x] sp)
    (hCX : ∀ (w : World) (H : Hp) (s : Shared) (e : Value) (s' : Shared), CX w [] H s (fun _ _ _ => False) e s' → False) :
    PySem.W.WalkO q loose XP YP l.row.toRowW d [] (fun f vs => PySem.call f vs) := by
  refine Att.attach_callB hn hdf fun w s₀ s₁ mg mb fa o pm cd doc a vs ns G Y ho hd hcd hmg hobj hints hlen hbits hg => ?_
  obtain ⟨K, fd, sp, KX, hb, hsp, hF⟩ := F w mg fa _ Y G.T.g hmg
  exact end_call KX G.T.g G.T.b G.T.builtins G.T.nolimit hg hobj hints (Nat.le_trans hlen hn2) hr hF hb (fun H hO hS => hsp H a ns hlen hbits hO hS) fun H e s' => hCX w H s₁ e s'
end
end BL
/-! B: max, min, sum, sorted of a tuple of ints. -/
namespace BL
noncomputable section
open PySem PySem.Spec PyProof.Rows L2
section
variable {prog : Program} {w : World} {A : Around} {E : Value → Shared → Prop} {s : Shared} {t : Addr} {Q : Value → Shared → Prop}
theorem old_tup {h' : Heap} {o : Obj} (hk : ∀ b o', b ∉ [s.heap.objs.size] → (s.heap.push o).get? b = some o' → h'.get? b = some o') : ∀ b o', s.heap.get? b = some o' → h'.get? b = some o' := fun b o' e => by
  refine hk b o' (fun hm => ?_) (Heap.get?_push_of_some _ e)
  have := List.mem_singleton.mp hm
  subst this
  exact absurd (Heap.lt_size e) (Nat.lt_irrefl _)
theorem max_tupR {its : List Value} {ns : List Int} (hh : A.handled = none) (ht : s.heap.IsTuple t its.toArray) (hi : IntsAre its ns) (hne : 0 < ns.length)
    (q : ∀ h' tk m u, (∀ b o, s.heap.get? b = some o → h'.get? b = some o) → m ∈ ns → (∀ a, a ∈ ns → a ≤ m) → Q (.int m u) { s with heap := h', toks := tk }) : wpAny (model prog w) A (call (.builtin "max") [.ref t]) Q E s := by
  obtain ⟨xs, e⟩ := hi.allInts.items
  have hn : numsOf (intItems xs).toList = ns := by rw [← e]; exact hi.numsOf
  rw [nums_intItems] at hn
  subst hn
  rw [e] at ht
  have hsz : 0 < xs.size := by simpa using hne
  obtain ⟨o, ho, hc, n, hd⟩ := id ht
  have hne2 : t ≠ s.heap.objs.size := Nat.ne_of_lt (Heap.lt_size ho)
  refine call_max_walk (wpAny_pyIter_tuple ht ?_)
  refine ⟨_, _, _, _, _, _, _, rfl, Walks.tuple (A := A.in1) hh _ t hne2 (intItems xs), ⟨⟨_, Heap.get?_push_size _ rfl, rfl, rfl⟩, ht.at fun o e => Heap.get?_push_of_some _ e⟩, fun b hb => ?_, by simpa [intItems] using hsz, CmpOf.ints_gt (numAt xs) (fun _ _ => intItems_at), fun v h' tk hP hk => ?_⟩
  · rcases List.mem_cons.mp hb with rfl | hb
    · exact Heap.lt_size (Heap.get?_push_size _ rfl)
    · obtain rfl := List.mem_singleton.mp hb
      exact Heap.lt_size (Heap.get?_push_of_some _ ho)
  · have hP : (intItems xs)[argBest (fun i j => decide (numAt xs i > numAt xs j)) (xs.size - 1)]? = some v := by simpa [intItems] using hP
    obtain ⟨u, rfl⟩ := intItems_at hP
    obtain ⟨b1, b2⟩ := argBest_gt (numAt xs) (xs.size - 1)
    refine q h' tk _ u (old_tup hk) ?_ fun a ha => ?_
    · rw [numAt_eq]; exact PySem.getD_mem (by rw [List.length_map, Array.length_toList]; omega)
    · obtain ⟨j, hj, rfl⟩ := mem_getD ha
      rw [List.length_map, Array.length_toList] at hj
      rw [← numAt_eq]
      exact b2 j (by omega)
theorem min_tupR {its : List Value} {ns : List Int} (hh : A.handled = none) (ht : s.heap.IsTuple t its.toArray) (hi : IntsAre its ns) (hne : 0 < ns.length)
    (q : ∀ h' tk m u, (∀ b o, s.heap.get? b = some o → h'.get? b = some o) → m ∈ ns → (∀ a, a ∈ ns → m ≤ a) → Q (.int m u) { s with heap := h', toks := tk }) : wpAny (model prog w) A (call (.builtin "min") [.ref t]) Q E s := by
  obtain ⟨xs, e⟩ := hi.allInts.items
  have hn : numsOf (intItems xs).toList = ns := by rw [← e]; exact hi.numsOf
  rw [nums_intItems] at hn
  subst hn
  rw [e] at ht
  have hsz : 0 < xs.size := by simpa using hne
  obtain ⟨o, ho, hc, n, hd⟩ := id ht
  have hne2 : t ≠ s.heap.objs.size := Nat.ne_of_lt (Heap.lt_size ho)
  refine call_min_walk (wpAny_pyIter_tuple ht ?_)
  refine ⟨_, _, _, _, _, _, _, rfl, Walks.tuple (A := A.in1) hh _ t hne2 (intItems xs), ⟨⟨_, Heap.get?_push_size _ rfl, rfl, rfl⟩, ht.at fun o e => Heap.get?_push_of_some _ e⟩, fun b hb => ?_, by simpa [intItems] using hsz, CmpOf.ints_lt (numAt xs) (fun _ _ => intItems_at), fun v h' tk hP hk => ?_⟩
  · rcases List.mem_cons.mp hb with rfl | hb
    · exact Heap.lt_size (Heap.get?_push_size _ rfl)
    · obtain rfl := List.mem_singleton.mp hb
      exact Heap.lt_size (Heap.get?_push_of_some _ ho)
  · have hP : (intItems xs)[argBest (fun i j => decide (numAt xs i < numAt xs j)) (xs.size - 1)]? = some v := by simpa [intItems] using hP
    obtain ⟨u, rfl⟩ := intItems_at hP
    obtain ⟨b1, b2⟩ := argBest_lt (numAt xs) (xs.size - 1)
    refine q h' tk _ u (old_tup hk) ?_ fun a ha => ?_
    · rw [numAt_eq]; exact PySem.getD_mem (by rw [List.length_map, Array.length_toList]; omega)
    · obtain ⟨j, hj, rfl⟩ := mem_getD ha
      rw [List.length_map, Array.length_toList] at hj
      rw [← numAt_eq]
      exact b2 j (by omega)
/-- what sorted gathers from a tuple -/
theorem gather_tup {ws : List Value} {K : List Value → Shared → Prop} (ht : s.heap.IsTuple t ws.toArray) (q : K ws { s with heap := (s.heap.push (seqObj "list" #[] 0)).update s.heap.objs.size (Obj.mapSeq (· ++ ws.toArray)) }) (hz : ws.length ≤ sizeLine) : wpAny (model prog w) A (collect (.ref t)) K E s := by
  obtain ⟨ob, h1, h2, k, h3⟩ := id ht
  unfold collect
  refine wpAny_bind (wpAny_runValue (codeAny_builtin entry_proto_collect' ?_)); show wpAny _ _ (do again (.builtin "list.__iadd__" ⟨[← newList [], .ref t], []⟩)) _ _ s
  refine wpAny_bind (wpAny_newList (wpAny_pure ⟨Code.quiet_builtin _ (by decide +kernel), codeAny_builtin entry_list_iadd' ?_⟩)); show wpAny _ _ (Builtin.List.listExtendWith (.ref s.heap.objs.size) (.ref t) (.ref s.heap.objs.size)) _ _ { s with heap := s.heap.push (seqObj "list" #[] 0) }
  unfold Builtin.List.listExtendWith
  have g : (s.heap.push (seqObj "list" #[] 0)).get? t = some ob := Heap.get?_push_of_some _ h1
  have ty : (Value.type "tuple" == Value.type "tuple") = true := by rfl
  refine wpAny_bind (wpAny_typeOf (T := "tuple") ⟨ob, g, h2⟩ ?_); rw [if_pos (by rw [ty]; simp)]
  refine wpAny_bind (listItems_at g h3 (wpAny_bind (listItems_at (xs := #[]) (n := 0) (Heap.get?_push_size _ rfl) rfl ?_))); rw [if_neg (by simp)]
  refine wpAny_bind (listUpdate_at (xs := #[]) (n := 0) (Heap.get?_push_size _ rfl) rfl (wpAny_pure ?_) (Nat.zero_le _) (by show (#[] ++ ws.toArray).size ≤ sizeLine + 1; simp only [Array.size_append, List.size_toArray, List.length_nil]; omega))
  show wpAny (model prog w) A (do let o ← load s.heap.objs.size; match o.data with | .seq xs _ => pure xs.toList | _ => unsupported "internal:collect") K E { s with heap := (s.heap.push (seqObj "list" #[] 0)).update s.heap.objs.size (Obj.mapSeq (· ++ ws.toArray)) }
  refine wpAny_bind (wpAny_load (get?_update_seq (Heap.get?_push_size _ rfl) _) ?_); show wpAny _ _ (pure ((#[] : Array Value) ++ ws.toArray).toList) K E _
  rw [show ((#[] : Array Value) ++ ws.toArray).toList = ws by simp]; exact wpAny_pure q
theorem sorted_tupR {ws : List Value} {lt : Value → Value → Bool} (O : SrtO.Swo lt) (ht : s.heap.IsTuple t ws.toArray) (hz : ws.length ≤ sizeLine)
    (hS : 2 ≤ ws.length → ∀ (h₁ : Heap) (a : Addr), h₁.get? a = some (seqObj "list" ws.toArray 0) → (∀ b o, s.heap.get? b = some o → b ≠ a ∧ h₁.get? b = some o) → SrtO.SortableO prog w A.in1.in1 { s with heap := h₁ } a ws lt)
    (q : ∀ out : List Value, SrtO.Srtd lt out → SrtO.Stb lt out ws → Q (.ref (s.heap.objs.size + 1)) { s with heap := sortedAll s.heap ws out.toArray }) : wpAny (model prog w) A (call (.builtin "sorted") [.ref t]) Q E s := by
  refine Calls.call_function_entry kind_sorted plain_sorted entry_sorted (args_sorted1 _) ?_; unfold Builtin.«sorted»
  refine wpAny_bind (m := PySem.checkCount "sorted" 1 1 _) (wpAny_pure (wpAny_bind (gather_tup ht (wpAny_bind (wpAny_newList ?_ hz)) hz)))
  have sz : ((s.heap.push (seqObj "list" #[] 0)).update s.heap.objs.size (Obj.mapSeq (· ++ ws.toArray))).objs.size = s.heap.objs.size + 1 := by rw [Heap.size_update, size_push']
  have at1 : (((s.heap.push (seqObj "list" #[] 0)).update s.heap.objs.size (Obj.mapSeq (· ++ ws.toArray))).push (seqObj "list" ws.toArray 0)).get? (s.heap.objs.size + 1) = some (seqObj "list" ws.toArray 0) := by rw [← sz]; exact Heap.get?_push_size _ rfl
  have kp : ∀ b o, s.heap.get? b = some o → b ≠ s.heap.objs.size + 1 ∧ (((s.heap.push (seqObj "list" #[] 0)).update s.heap.objs.size (Obj.mapSeq (· ++ ws.toArray))).push (seqObj "list" ws.toArray 0)).get? b = some o := fun b o e => by
    have lt := Heap.lt_size e
    exact ⟨Nat.ne_of_lt (Nat.lt_succ_of_lt lt), Heap.get?_push_of_some _ (by rw [Heap.get?_update_ne _ _ _ _ (Nat.ne_of_lt lt)]; exact Heap.get?_push_of_some _ e)⟩
  show wpAny _ _ _ _ _ { s with heap := ((s.heap.push (seqObj "list" #[] 0)).update s.heap.objs.size (Obj.mapSeq (· ++ ws.toArray))).push (seqObj "list" ws.toArray 0) }; rw [sz]
  exact wpAny_bind (wpAny_holding (wpAny_call_entry slot_list_sort ⟨_, at1, rfl⟩ entry_list_sort (SrtO.list_sort_ord O at1 hz (fun h2 => hS h2 _ _ at1 kp) fun out e1 e2 => ⟨_, rfl, wpAny_pure ⟨_, rfl, q out e1 e2⟩⟩) (args_list_sort _)))
end
section
variable {X : Cx}
def rMaxT (K : PySem.W.Frag) : List V → Hp → VK → Prop := fun vs H Q => ∃ (a : Addr) (ns : List Int), vs = [V.ref a] ∧ SqT K H a (ns.map V.int) ∧ 0 < ns.length ∧ ∀ m, m ∈ ns → (∀ y, y ∈ ns → y ≤ m) → Q (.int m) H
def rMinT (K : PySem.W.Frag) : List V → Hp → VK → Prop := fun vs H Q => ∃ (a : Addr) (ns : List Int), vs = [V.ref a] ∧ SqT K H a (ns.map V.int) ∧ 0 < ns.length ∧ ∀ m, m ∈ ns → (∀ y, y ∈ ns → m ≤ y) → Q (.int m) H
def rSumT (K : PySem.W.Frag) : List V → Hp → VK → Prop := fun vs H Q => ∃ (a : Addr) (ns : List Int), vs = [V.ref a] ∧ SqT K H a (ns.map V.int) ∧ Q (.int ns.sum) H
theorem cr_maxT (hc : X.calm = true) : CallR X (.builtin "max") (rMaxT X.K) := by
  intro pins s σ H vs us Q I r ⟨a, ns, e, hs, hne, q⟩
  subst e
  obtain ⟨its, rv, hl, _⟩ := I.tuple hs
  rw [Vals.ref1 r]
  exact max_tupR (I.ok.hd hc) hl rv.ints hne fun h' tk m u hk h1 h2 => ⟨.int m, H, I.kept hk, ⟨_, rfl⟩, q m h1 h2⟩
theorem cr_minT (hc : X.calm = true) : CallR X (.builtin "min") (rMinT X.K) := by
  intro pins s σ H vs us Q I r ⟨a, ns, e, hs, hne, q⟩
  subst e
  obtain ⟨its, rv, hl, _⟩ := I.tuple hs
  rw [Vals.ref1 r]
  exact min_tupR (I.ok.hd hc) hl rv.ints hne fun h' tk m u hk h1 h2 => ⟨.int m, H, I.kept hk, ⟨_, rfl⟩, q m h1 h2⟩
theorem cr_sumT (hc : X.calm = true) : CallR X (.builtin "sum") (rSumT X.K) := by
  intro pins s σ H vs us Q I r ⟨a, ns, e, hs, q⟩
  subst e
  obtain ⟨its, rv, hl, _⟩ := I.tuple hs
  rw [Vals.ref1 r]
  have hi := rv.ints
  obtain ⟨xs, ex⟩ := hi.allInts.items
  have hn : numsOf (intItems xs).toList = ns := by rw [← ex]; exact hi.numsOf
  rw [nums_intItems] at hn
  have hl2 : s.heap.IsTuple a (intItems xs) := by rw [← ex]; exact hl
  refine PySem.W.ktm_sumG (I.ok.hd hc) hl2 fun h' tk u hk => ⟨.int ns.sum, H, I.kept hk, ⟨u, ?_⟩, q⟩
  rw [preSum_eq, List.take_of_length_le (by simp), hn]
def rSortedT (K : PySem.W.Frag) : List V → Hp → VK → Prop := fun vs H Q => ∃ (a : Addr) (ns : List Int), vs = [V.ref a] ∧ SqT K H a (ns.map V.int) ∧
  ∀ (ms : List Int) (p : Addr), ms.Perm ns → ms.Pairwise (· ≤ ·) → H p = none → Q (.ref p) (upd H p (.lst (ms.map V.int)))
theorem cr_sortedT : CallR X (.builtin "sorted") (rSortedT X.K) := by
  intro pins s σ H vs us Q I r ⟨a, ns, e, hs, q⟩
  subst e
  obtain ⟨its, rv, hl, hz⟩ := I.tuple hs
  rw [Vals.ref1 r]
  have hi := rv.ints
  refine sorted_tupR SrtO.swo_int hl (by rw [← rv.length]; exact hz) (fun h2 h₁ b _ _ => SrtO.ints_sortable hi h2) fun out e1 e2 => ?_
  obtain ⟨k1, k2, k3⟩ := SrtO.ints_out hi e1 e2
  obtain ⟨ep, he⟩ := PyProof.Rows.sortedAll_at s.heap its out.toArray
  have hn : ((out.map SrtO.iv).map V.int).length ≤ sizeLine := by rw [List.length_map, k2.length_eq]; rw [List.length_map] at hz; exact hz
  exact ⟨.ref _, upd H (s.heap.objs.size + 1) (.lst ((out.map SrtO.iv).map V.int)), I.laid (t' := s.toks) (fun _ _ => PyProof.Rows.sortedAll_old) (Nat.le_succ _) ⟨hn, out, ep, vals_of_ints k1, he⟩, rfl, q _ _ k2 k3 (I.hok.fresh (Nat.le_succ _))⟩
end
end
end BL
/-! B, built-in functions over contents. -/
namespace BL
noncomputable section
open PySem PySem.Spec PyProof.Rows L2
theorem OkRs.l {B : BC} {L : List Addr} {s : BS} {Q : VK} {z : RV} {v : V} (R : Rel B L s) (k : ∀ w' v, At B L s ⟨s.r, s.s, w'⟩ → RRel B L s ⟨s.r, s.s, w'⟩ z v → Q v w'.H) (h : RRel B L s s z v) : Q v s.w.H := k s.w v (.refl R) h
/-! ### ints, bools of a list -/
def toInts : List PV → Option (List Int)
  | [] => some []
  | .int i :: r => (toInts r).map (i :: ·)
  | _ => none
def toBls : List PV → Option (List Bool)
  | [] => some []
  | .bl i :: r => (toBls r).map (i :: ·)
  | _ => none
def toStrs : List PV → Option (List Str)
  | [] => some []
  | .str i :: r => (toStrs r).map (i :: ·)
  | _ => none
section
variable {K : PySem.W.Frag} {w : Wd}
theorem toInts_reps : ∀ {ps : List PV} {vs : List V} {ns : List Int}, Reps K w ps vs → toInts ps = some ns → vs = ns.map V.int
  | [], _, _, h, e => by
    cases e
    exact h
  | p :: ps, _, _, h, e => by
    obtain ⟨v, r, rfl, h1, h2⟩ := h
    cases p with
    | int i =>
      unfold toInts at e
      cases e2 : toInts ps with
      | none => rw [e2] at e; cases e
      | some ms =>
        rw [e2] at e
        cases e
        rw [toInts_reps h2 e2, show v = .int i from h1]
        rfl
    | _ => unfold toInts at e; cases e
theorem toBls_reps : ∀ {ps : List PV} {vs : List V} {ns : List Bool}, Reps K w ps vs → toBls ps = some ns → vs = ns.map V.bl
  | [], _, _, h, e => by
    cases e
    exact h
  | p :: ps, _, _, h, e => by
    obtain ⟨v, r, rfl, h1, h2⟩ := h
    cases p with
    | bl i =>
      unfold toBls at e
      cases e2 : toBls ps with
      | none => rw [e2] at e; cases e
      | some ms =>
        rw [e2] at e
        cases e
        rw [toBls_reps h2 e2, show v = .bl i from h1]
        rfl
    | _ => unfold toBls at e; cases e
theorem toStrs_reps : ∀ {ps : List PV} {vs : List V} {ns : List Str}, Reps K w ps vs → toStrs ps = some ns → vs = ns.map V.str
  | [], _, _, h, e => by
    cases e
    exact h
  | p :: ps, _, _, h, e => by
    obtain ⟨v, r, rfl, h1, h2⟩ := h
    cases p with
    | str i =>
      unfold toStrs at e
      cases e2 : toStrs ps with
      | none => rw [e2] at e; cases e
      | some ms =>
        rw [e2] at e
        cases e
        rw [toStrs_reps h2 e2, show v = .str i from h1]
        rfl
    | _ => unfold toStrs at e; cases e
end
theorem toInts_map (ns : List Int) : toInts (ns.map .int) = some ns := by
  induction ns with
  | nil => rfl
  | cons n ns ih => show (toInts (ns.map .int)).map _ = _; rw [ih]; rfl
theorem toBls_map (ns : List Bool) : toBls (ns.map .bl) = some ns := by
  induction ns with
  | nil => rfl
  | cons n ns ih => show (toBls (ns.map .bl)).map _ = _; rw [ih]; rfl
theorem toStrs_map (ns : List Str) : toStrs (ns.map .str) = some ns := by
  induction ns with
  | nil => rfl
  | cons n ns ih => show (toStrs (ns.map .str)).map _ = _; rw [ih]; rfl
/-! ### len -/
def lenP : PV → Option RV
  | .str s => @ite _ (s.length ≤ lim) (Classical.propDecidable _) (some (.val (.int s.length))) none
  | .dic ks _ => some (.val (.int ks.length))
  | p => (seqOf p).map fun xs => .val (.int xs.length)
def lenF : List PV → Option RV
  | [p] => lenP p
  | _ => none
abbrev rLenB (K : PySem.W.Frag) : List V → Hp → VK → Prop := fun xs H Q => (fun xs H Q => ∃ x n, xs = [x] ∧ LenV K x H n ∧ Q (.int n) H) xs H Q ∨ (fun xs H Q => (fun xs H Q => ∃ a kvs, xs = [V.ref a] ∧ H a = some (.dK kvs) ∧ Q (.int kvs.length) H) xs H Q ∨ rLenT xs H Q) xs H Q
theorem call_lenB {X : Cx} : CallR X (.builtin "len") (rLenB X.K) := CallR.or call_len (CallR.or call_lenD call_len_dT)
theorem ok_len {B : BC} : OkRs B (rLenB B.K) lenF := by
  intro L s ps xs z Q R cp e k
  match ps, cp, e with
  | [p], cp, e =>
    obtain ⟨x, rfl, c1⟩ := cp.one
    have gen : ∀ {ys : List PV}, seqOf p = some ys → z = .val (.int ys.length) → rLenB B.K [x] s.w.H Q := by
      intro ys e1 e2
      subst e2
      obtain ⟨a, vs, rfl, h, r⟩ := con_seq c1 e1
      refine .inl ⟨_, ys.length, rfl, ?_, OkRs.l R k rfl⟩
      rcases h with h | h
      · exact .inl ⟨vs, h, r.length⟩
      · exact .inr ⟨vs, h, r.length⟩
    cases p with
    | lst ys => cases e; exact gen rfl rfl
    | tup ys => cases e; exact gen rfl rfl
    | scr ys => cases e; exact gen rfl rfl
    | str t =>
      have e : (@ite _ (t.length ≤ lim) (Classical.propDecidable _) (some (RV.val (.int t.length))) none) = some z := e
      cases (show x = .str t from c1)
      split at e
      · rename_i hz
        cases e
        exact .inl ⟨_, t.length, rfl, ⟨by rw [← lim_eq]; exact hz, rfl⟩, OkRs.l R k rfl⟩
      · cases e
    | dic ks ys =>
      cases e
      obtain ⟨a, vs, rfl, h, r⟩ := c1
      rcases h with ⟨kk, e1, e2, h⟩ | ⟨kk, e1, e2, h⟩
      · have hl : (kk.zip vs).length = ks.length := by
          have := congrArg List.length e1
          rw [List.length_map, List.length_map] at this
          rw [List.length_zip, ← e2, Nat.min_self, this]
        exact .inr (.inl ⟨a, _, rfl, h, by rw [hl]; exact OkRs.l R k rfl⟩)
      · have hl : (kk.zip vs).length = ks.length := by
          have := congrArg List.length e1.1
          rw [List.length_map, List.length_map] at this
          rw [List.length_zip, ← e2, Nat.min_self, this]
        exact .inr (.inr ⟨a, _, rfl, h, by rw [hl]; exact OkRs.l R k rfl⟩)
    | non => cases e
    | bl b => cases e
    | int i => cases e
    | obj n => cases e
    | exc c => cases e
  | [], _, e => cases e
  | _ :: _ :: _, _, e => cases e
/-! ### tuple(x), list(x) -/
def tupF : List PV → Option RV
  | [p] => (seqOf p).map fun xs => .val (.tup xs)
  | _ => none
def listF : List PV → Option RV
  | [p] => (seqOf p).map fun xs => .fresh (.lst xs)
  | _ => none
theorem ok_tup {B : BC} : OkRs B (fun xs H Q => ∃ p ys, xs = [.ref p] ∧ ((SqL B.K H p ys ∧ ∀ l, H l = none → Q (.ref l) (upd H l (.tup ys))) ∨ (SqT B.K H p ys ∧ Q (.ref p) H))) tupF := by
  intro L s ps xs z Q R cp e k
  match ps, cp, e with
  | [p], cp, e =>
    obtain ⟨x, rfl, c1⟩ := cp.one
    have e : (seqOf p).map (fun xs => RV.val (.tup xs)) = some z := e
    cases e1 : seqOf p with
    | none => rw [e1] at e; cases e
    | some ys =>
      rw [e1] at e
      cases e
      cases p with
      | tup zs =>
        cases e1
        obtain ⟨a, vs, rfl, h, r⟩ := c1
        exact ⟨a, vs, rfl, .inr ⟨.inl (.inl h), OkRs.l R k ⟨a, vs, rfl, h, r⟩⟩⟩
      | lst zs =>
        obtain ⟨a, vs, rfl, h, r⟩ := con_lst c1 e1
        exact ⟨a, vs, rfl, .inl ⟨h, fun p hn => k _ _ (R.alloc hn) (R.newTup hn r)⟩⟩
      | scr zs =>
        obtain ⟨a, vs, rfl, h, r⟩ := con_lst c1 e1
        exact ⟨a, vs, rfl, .inl ⟨h, fun p hn => k _ _ (R.alloc hn) (R.newTup hn r)⟩⟩
      | _ => cases e1
  | [], _, e => cases e
  | _ :: _ :: _, _, e => cases e
theorem ok_list {B : BC} : OkRs B (fun xs H Q => ∃ p ys, xs = [.ref p] ∧ (SqL B.K H p ys ∨ SqT B.K H p ys) ∧ ∀ l, H l = none → Q (.ref l) (upd H l (.lst ys))) listF := by
  intro L s ps xs z Q R cp e k
  match ps, cp, e with
  | [p], cp, e =>
    obtain ⟨x, rfl, c1⟩ := cp.one
    have e : (seqOf p).map (fun xs => RV.fresh (.lst xs)) = some z := e
    cases e1 : seqOf p with
    | none => rw [e1] at e; cases e
    | some ys =>
      rw [e1] at e
      cases e
      obtain ⟨a, vs, rfl, h, r⟩ := con_seq c1 e1
      exact ⟨a, vs, rfl, h, fun p hn => k _ _ (R.alloc hn) (R.newList hn r)⟩
  | [], _, e => cases e
  | _ :: _ :: _, _, e => cases e
/-! ### max, min, sum -/
def maxL : List Int → Option Int
  | [] => none
  | i :: r => some (r.foldl (fun m j => if j > m then j else m) i)
def minL : List Int → Option Int
  | [] => none
  | i :: r => some (r.foldl (fun m j => if j < m then j else m) i)
theorem maxL_of : ∀ (r : List Int) (i : Int), (r.foldl (fun m j => if j > m then j else m) i) ∈ i :: r ∧ ∀ y ∈ i :: r, y ≤ r.foldl (fun m j => if j > m then j else m) i
  | [], i => ⟨List.mem_cons_self .., fun y h => by
    cases List.mem_singleton.mp h
    exact Int.le_refl _⟩
  | j :: r, i => by
    obtain ⟨h1, h2⟩ := maxL_of r (if j > i then j else i)
    rw [List.foldl_cons]
    refine ⟨?_, fun y hy => ?_⟩
    · rcases List.mem_cons.mp h1 with h | h
      · rw [h]
        split
        · exact List.mem_cons_of_mem _ (List.mem_cons_self ..)
        · exact List.mem_cons_self ..
      · exact List.mem_cons_of_mem _ (List.mem_cons_of_mem _ h)
    · have hm := h2 (if j > i then j else i) (List.mem_cons_self ..)
      have : i ≤ (if j > i then j else i) ∧ j ≤ (if j > i then j else i) := by split <;> omega
      rcases List.mem_cons.mp hy with h | hy
      · subst h; omega
      · rcases List.mem_cons.mp hy with h | hy
        · subst h; omega
        · exact h2 y (List.mem_cons_of_mem _ hy)
theorem minL_of : ∀ (r : List Int) (i : Int), (r.foldl (fun m j => if j < m then j else m) i) ∈ i :: r ∧ ∀ y ∈ i :: r, r.foldl (fun m j => if j < m then j else m) i ≤ y
  | [], i => ⟨List.mem_cons_self .., fun y h => by
    cases List.mem_singleton.mp h
    exact Int.le_refl _⟩
  | j :: r, i => by
    obtain ⟨h1, h2⟩ := minL_of r (if j < i then j else i)
    rw [List.foldl_cons]
    refine ⟨?_, fun y hy => ?_⟩
    · rcases List.mem_cons.mp h1 with h | h
      · rw [h]
        split
        · exact List.mem_cons_of_mem _ (List.mem_cons_self ..)
        · exact List.mem_cons_self ..
      · exact List.mem_cons_of_mem _ (List.mem_cons_of_mem _ h)
    · have hm := h2 (if j < i then j else i) (List.mem_cons_self ..)
      have : (if j < i then j else i) ≤ i ∧ (if j < i then j else i) ≤ j := by split <;> omega
      rcases List.mem_cons.mp hy with h | hy
      · subst h; omega
      · rcases List.mem_cons.mp hy with h | hy
        · subst h; omega
        · exact h2 y (List.mem_cons_of_mem _ hy)
def maxF : List PV → Option RV
  | [.int i, .int j] => some (.val (.int (if j > i then j else i)))
  | [p] => (seqOf p).bind fun xs => (toInts xs).bind fun ns => (maxL ns).map fun m => .val (.int m)
  | _ => none
def minF : List PV → Option RV
  | [.int i, .int j] => some (.val (.int (if j < i then j else i)))
  | [p] => (seqOf p).bind fun xs => (toInts xs).bind fun ns => (minL ns).map fun m => .val (.int m)
  | _ => none
abbrev rMax2 : List V → Hp → VK → Prop := fun xs H Q => ∃ i j, xs = [.int i, .int j] ∧ Q (.int (if j > i then j else i)) H
abbrev rMin2 : List V → Hp → VK → Prop := fun xs H Q => ∃ i j, xs = [.int i, .int j] ∧ Q (.int (if j < i then j else i)) H
theorem call_maxB {X : Cx} (hc : X.calm = true) : CallR X (.builtin "max") (fun xs H Q => rMax2 xs H Q ∨ (fun xs H Q => rMax X.K xs H Q ∨ rMaxT X.K xs H Q) xs H Q) := (call_max2 hc).or ((cr_max hc).or (cr_maxT hc))
theorem call_minB {X : Cx} (hc : X.calm = true) : CallR X (.builtin "min") (fun xs H Q => rMin2 xs H Q ∨ (fun xs H Q => rMin X.K xs H Q ∨ rMinT X.K xs H Q) xs H Q) := (call_min2 hc).or ((cr_min hc).or (cr_minT hc))
theorem ok_max {B : BC} : OkRs B (fun xs H Q => rMax2 xs H Q ∨ (fun xs H Q => rMax B.K xs H Q ∨ rMaxT B.K xs H Q) xs H Q) maxF := by
  intro L s ps xs z Q R cp e k
  match ps, cp, e with
  | [p], cp, e =>
    obtain ⟨x, rfl, c1⟩ := cp.one
    have e : (seqOf p).bind (fun xs => (toInts xs).bind fun ns => (maxL ns).map fun m => RV.val (.int m)) = some z := by
      cases p <;> exact e
    obtain ⟨ys, e1, e⟩ := Option.bind_eq_some_iff.mp e
    obtain ⟨ns, e2, e⟩ := Option.bind_eq_some_iff.mp e
    obtain ⟨a, vs, rfl, h, r⟩ := con_seq c1 e1
    rw [toInts_reps r e2] at h
    cases ns with
    | nil => cases e
    | cons i ns =>
      cases e
      obtain ⟨h3, h4⟩ := maxL_of ns i
      rcases h with h | h
      · refine .inr (.inl ⟨a, i :: ns, rfl, h, Nat.succ_pos _, fun m h1 h2 => ?_⟩)
        have : m = ns.foldl (fun m j => if j > m then j else m) i := Int.le_antisymm (h4 m h1) (h2 _ h3)
        rw [this]
        exact OkRs.l R k rfl
      · refine .inr (.inr ⟨a, i :: ns, rfl, h, Nat.succ_pos _, fun m h1 h2 => ?_⟩)
        have : m = ns.foldl (fun m j => if j > m then j else m) i := Int.le_antisymm (h4 m h1) (h2 _ h3)
        rw [this]
        exact OkRs.l R k rfl
  | [p, q], cp, e =>
    obtain ⟨x, y, rfl, c1, c2⟩ := cp.two
    cases p with
    | int i =>
      cases q with
      | int j =>
        cases e
        cases (show x = .int i from c1)
        cases (show y = .int j from c2)
        exact .inl ⟨i, j, rfl, OkRs.l R k rfl⟩
      | _ => cases e
    | _ => cases e
  | [], _, e => cases e
  | p :: q :: _ :: _, _, e => cases p <;> cases q <;> cases e
theorem ok_min {B : BC} : OkRs B (fun xs H Q => rMin2 xs H Q ∨ (fun xs H Q => rMin B.K xs H Q ∨ rMinT B.K xs H Q) xs H Q) minF := by
  intro L s ps xs z Q R cp e k
  match ps, cp, e with
  | [p], cp, e =>
    obtain ⟨x, rfl, c1⟩ := cp.one
    have e : (seqOf p).bind (fun xs => (toInts xs).bind fun ns => (minL ns).map fun m => RV.val (.int m)) = some z := by
      cases p <;> exact e
    obtain ⟨ys, e1, e⟩ := Option.bind_eq_some_iff.mp e
    obtain ⟨ns, e2, e⟩ := Option.bind_eq_some_iff.mp e
    obtain ⟨a, vs, rfl, h, r⟩ := con_seq c1 e1
    rw [toInts_reps r e2] at h
    cases ns with
    | nil => cases e
    | cons i ns =>
      cases e
      obtain ⟨h3, h4⟩ := minL_of ns i
      rcases h with h | h
      · refine .inr (.inl ⟨a, i :: ns, rfl, h, Nat.succ_pos _, fun m h1 h2 => ?_⟩)
        have : m = ns.foldl (fun m j => if j < m then j else m) i := Int.le_antisymm (h2 _ h3) (h4 m h1)
        rw [this]
        exact OkRs.l R k rfl
      · refine .inr (.inr ⟨a, i :: ns, rfl, h, Nat.succ_pos _, fun m h1 h2 => ?_⟩)
        have : m = ns.foldl (fun m j => if j < m then j else m) i := Int.le_antisymm (h2 _ h3) (h4 m h1)
        rw [this]
        exact OkRs.l R k rfl
  | [p, q], cp, e =>
    obtain ⟨x, y, rfl, c1, c2⟩ := cp.two
    cases p with
    | int i =>
      cases q with
      | int j =>
        cases e
        cases (show x = .int i from c1)
        cases (show y = .int j from c2)
        exact .inl ⟨i, j, rfl, OkRs.l R k rfl⟩
      | _ => cases e
    | _ => cases e
  | [], _, e => cases e
  | p :: q :: _ :: _, _, e => cases p <;> cases q <;> cases e
def sumF : List PV → Option RV
  | [p] => (seqOf p).bind fun xs => (toInts xs).map fun ns => .val (.int ns.sum)
  | _ => none
theorem call_sumB {X : Cx} (hc : X.calm = true) : CallR X (.builtin "sum") (fun xs H Q => rSum X.K xs H Q ∨ rSumT X.K xs H Q) := (cr_sum hc).or (cr_sumT hc)
theorem ok_sum {B : BC} : OkRs B (fun xs H Q => rSum B.K xs H Q ∨ rSumT B.K xs H Q) sumF := by
  intro L s ps xs z Q R cp e k
  match ps, cp, e with
  | [p], cp, e =>
    obtain ⟨x, rfl, c1⟩ := cp.one
    have e : (seqOf p).bind (fun xs => (toInts xs).map fun ns => RV.val (.int ns.sum)) = some z := e
    obtain ⟨ys, e1, e⟩ := Option.bind_eq_some_iff.mp e
    obtain ⟨ns, e2, e⟩ := Option.map_eq_some_iff.mp e
    subst e
    obtain ⟨a, vs, rfl, h, r⟩ := con_seq c1 e1
    rw [toInts_reps r e2] at h
    rcases h with h | h
    · exact .inl ⟨a, ns, rfl, h, OkRs.l R k rfl⟩
    · exact .inr ⟨a, ns, rfl, h, OkRs.l R k rfl⟩
  | [], _, e => cases e
  | _ :: _ :: _, _, e => cases e
/-! ### all, any -/
def allF : List PV → Option RV
  | [p] => (lstOf p).bind fun xs => (toBls xs).map fun ns => .val (.bl (ns.all id))
  | _ => none
def anyF : List PV → Option RV
  | [p] => (lstOf p).bind fun xs => (toBls xs).map fun ns => .val (.bl (ns.any id))
  | _ => none
theorem ok_all {B : BC} : OkRs B (rAll B.K) allF := by
  intro L s ps xs z Q R cp e k
  match ps, cp, e with
  | [p], cp, e =>
    obtain ⟨x, rfl, c1⟩ := cp.one
    have e : (lstOf p).bind (fun xs => (toBls xs).map fun ns => RV.val (.bl (ns.all id))) = some z := e
    obtain ⟨ys, e1, e⟩ := Option.bind_eq_some_iff.mp e
    obtain ⟨ns, e2, e⟩ := Option.map_eq_some_iff.mp e
    subst e
    obtain ⟨a, vs, rfl, h, r⟩ := con_lst c1 e1
    rw [toBls_reps r e2] at h
    exact ⟨a, ns, rfl, h, OkRs.l R k rfl⟩
  | [], _, e => cases e
  | _ :: _ :: _, _, e => cases e
theorem ok_any {B : BC} : OkRs B (rAny B.K) anyF := by
  intro L s ps xs z Q R cp e k
  match ps, cp, e with
  | [p], cp, e =>
    obtain ⟨x, rfl, c1⟩ := cp.one
    have e : (lstOf p).bind (fun xs => (toBls xs).map fun ns => RV.val (.bl (ns.any id))) = some z := e
    obtain ⟨ys, e1, e⟩ := Option.bind_eq_some_iff.mp e
    obtain ⟨ns, e2, e⟩ := Option.map_eq_some_iff.mp e
    subst e
    obtain ⟨a, vs, rfl, h, r⟩ := con_lst c1 e1
    rw [toBls_reps r e2] at h
    exact ⟨a, ns, rfl, h, OkRs.l R k rfl⟩
  | [], _, e => cases e
  | _ :: _ :: _, _, e => cases e
/-! ### abs, int, str -/
def absF : List PV → Option RV
  | [.int i] => some (.val (.int (if i < 0 then -i else i)))
  | _ => none
theorem ok_abs {B : BC} : OkRs B (fun xs H Q => ∃ i, xs = [.int i] ∧ Q (.int (if i < 0 then -i else i)) H) absF := by
  intro L s ps xs z Q R cp e k
  match ps, cp, e with
  | [.int i], cp, e =>
    obtain ⟨x, rfl, c1⟩ := cp.one
    cases e
    cases (show x = .int i from c1)
    exact ⟨i, rfl, OkRs.l R k rfl⟩
def strF : List PV → Option RV
  | [.int i] => @ite _ (i.natAbs.log2 < 1920) (Classical.propDecidable _) (some (.val (.str (toString i : String)))) none
  | [.str a] => some (.val (.str a))
  | _ => none
theorem ok_str {B : BC} : OkRs B (fun xs H Q => (fun xs H Q => ∃ i : Int, xs = [.int i] ∧ i.natAbs.log2 < 1920 ∧ Q (.str (toString i : String)) H) xs H Q ∨ (fun xs H Q => ∃ a, xs = [.str a] ∧ Q (.str a) H) xs H Q) strF := by
  intro L s ps xs z Q R cp e k
  match ps, cp, e with
  | [.int i], cp, e =>
    obtain ⟨x, rfl, c1⟩ := cp.one
    have e : (@ite _ (i.natAbs.log2 < 1920) (Classical.propDecidable _) (some (RV.val (.str (toString i : String)))) none) = some z := e
    split at e
    · rename_i hz
      cases e
      cases (show x = .int i from c1)
      exact .inl ⟨i, rfl, hz, OkRs.l R k rfl⟩
    · cases e
  | [.str a], cp, e =>
    obtain ⟨x, rfl, c1⟩ := cp.one
    cases e
    cases (show x = .str a from c1)
    exact .inr ⟨a, rfl, OkRs.l R k rfl⟩
theorem call_strB {X : Cx} : CallR X (.type "str") (fun xs H Q => (fun xs H Q => ∃ i : Int, xs = [.int i] ∧ i.natAbs.log2 < 1920 ∧ Q (.str (toString i : String)) H) xs H Q ∨ (fun xs H Q => ∃ a, xs = [.str a] ∧ Q (.str a) H) xs H Q) := call_str_int.or SkE.call_str_str
/-! ### repr of data -/
def shwP (p : PV) : Option PyData := match toD p with
  | some d => @ite _ (d.showable = true ∧ d.hasDict = false ∧ d.depth ≤ 64 ∧ d.shown.length ≤ lim) (Classical.propDecidable _) (some d) none
  | none => none
def reprF : List PV → Option RV
  | [p] => (shwP p).map fun d => .val (.str d.shown)
  | _ => none
abbrev rRepr (K : PySem.W.Frag) : List V → Hp → VK → Prop := fun xs H Q => ∃ x d, xs = [x] ∧ Dp K H x d ∧ d.showable = true ∧ d.hasDict = false ∧ d.depth ≤ 64 ∧ d.shown.length ≤ sizeLine ∧ Q (.str d.shown) H
theorem call_reprB {X : Cx} {k : Nat} (hr : Room k X.A) (hG : Gd X.A) : CallR X (.builtin "repr") (rRepr X.K) := by
  intro pins s σ H xs us Q I r h
  obtain ⟨x, d, rfl, hd, h1, h2, h3, h4, q⟩ := h
  obtain ⟨u, rfl, ru⟩ := vals1 r
  obtain ⟨as, rd⟩ := Dp.reads I d x u hd ru
  have un : X.A.units + (d.depth + 1) < cLine := by have := hr.un; omega
  cases rd with
  | none => exact PySem.P.repr_of_none ⟨.str "None", H, I.tok _, ⟨_, rfl⟩, q⟩
  | bool b => exact PySem.P.repr_of_bool ⟨.str _, H, I.tok _, ⟨_, rfl⟩, q⟩
  | int i t => exact PySem.P.repr_of_int (by simpa [PyData.showable] using h1) ⟨.str _, H, I.tok _, ⟨_, rfl⟩, q⟩
  | str z t => exact PySem.P.repr_of_str ⟨.str _, H, I.tok _, ⟨_, rfl⟩, q⟩ (by simpa [PyData.shown] using h4)
  | list a1 a2 a3 a4 => exact repr_of_reads' (.list a1 a2 a3 a4) h1 (fun z => by rw [h2] at z; cases z) hG un (fun b o e => e) (fun h' u tk hk => ⟨.str _, H, I.kept hk, ⟨_, rfl⟩, q⟩) h4
  | tuple a1 a2 a3 a4 => exact repr_of_reads' (.tuple a1 a2 a3 a4) h1 (fun z => by rw [h2] at z; cases z) hG un (fun b o e => e) (fun h' u tk hk => ⟨.str _, H, I.kept hk, ⟨_, rfl⟩, q⟩) h4
  | dict a1 a2 a3 a4 a5 => exact absurd h2 (by simp [PyData.hasDict])
theorem ok_repr {B : BC} : OkRs B (rRepr B.K) reprF := by
  intro L s ps xs z Q R cp e k
  match ps, cp, e with
  | [p], cp, e =>
    obtain ⟨x, rfl, c1⟩ := cp.one
    have e : (shwP p).map (fun d => RV.val (.str d.shown)) = some z := e
    obtain ⟨d, e1, e⟩ := Option.map_eq_some_iff.mp e
    subst e
    unfold shwP at e1
    split at e1
    · rename_i d' e2
      split at e1
      · rename_i hz
        cases e1
        exact ⟨x, d, rfl, toD_con c1 e2, hz.1, hz.2.1, hz.2.2.1, by rw [← lim_eq]; exact hz.2.2.2, OkRs.l R k rfl⟩
      · cases e1
    · cases e1
  | [], _, e => cases e
  | _ :: _ :: _, _, e => cases e
/-! ### sorted, ints -/
def insI (x : Int) : List Int → List Int
  | [] => [x]
  | y :: r => if x ≤ y then x :: y :: r else y :: insI x r
def sortI : List Int → List Int
  | [] => []
  | x :: r => insI x (sortI r)
theorem insI_perm (x : Int) : ∀ l : List Int, (insI x l).Perm (x :: l)
  | [] => .refl _
  | y :: r => by
    unfold insI
    split
    · exact .refl _
    · exact ((insI_perm x r).cons y).trans (.swap ..)
theorem sortI_perm : ∀ l : List Int, (sortI l).Perm l
  | [] => .refl _
  | x :: r => (insI_perm x _).trans ((sortI_perm r).cons x)
theorem insI_sorted (x : Int) : ∀ {l : List Int}, l.Pairwise (· ≤ ·) → (insI x l).Pairwise (· ≤ ·)
  | [], _ => List.pairwise_singleton ..
  | y :: r, h => by
    unfold insI
    split
    · rename_i hx
      refine List.pairwise_cons.mpr ⟨fun z hz => ?_, h⟩
      rcases List.mem_cons.mp hz with e | hz
      · subst e; exact hx
      · exact Int.le_trans hx ((List.pairwise_cons.mp h).1 z hz)
    · rename_i hx
      refine List.pairwise_cons.mpr ⟨fun z hz => ?_, insI_sorted x (List.pairwise_cons.mp h).2⟩
      rcases List.mem_cons.mp ((insI_perm x r).mem_iff.mp hz) with e | hz
      · subst e; omega
      · exact (List.pairwise_cons.mp h).1 z hz
theorem sortI_sorted : ∀ l : List Int, (sortI l).Pairwise (· ≤ ·)
  | [] => .nil
  | x :: r => insI_sorted x (sortI_sorted r)
theorem sortI_uniq {l m : List Int} (p : m.Perm l) (h : m.Pairwise (· ≤ ·)) : m = sortI l :=
  (p.trans (sortI_perm l).symm).eq_of_pairwise (le := (· ≤ ·)) (fun a b _ _ h1 h2 => Int.le_antisymm h1 h2) h (sortI_sorted l)
def sortedF : List PV → Option RV
  | [p] => (seqOf p).bind fun xs => (toInts xs).map fun ns => .fresh (.lst ((sortI ns).map .int))
  | _ => none
theorem call_sortedB {X : Cx} : CallR X (.builtin "sorted") (fun xs H Q => rSortedI X.K xs H Q ∨ rSortedT X.K xs H Q) := cr_sortedI.or cr_sortedT
theorem ok_sorted {B : BC} : OkRs B (fun xs H Q => rSortedI B.K xs H Q ∨ rSortedT B.K xs H Q) sortedF := by
  intro L s ps xs z Q R cp e k
  match ps, cp, e with
  | [p], cp, e =>
    obtain ⟨x, rfl, c1⟩ := cp.one
    have e : (seqOf p).bind (fun xs => (toInts xs).map fun ns => RV.fresh (.lst ((sortI ns).map .int))) = some z := e
    obtain ⟨ys, e1, e⟩ := Option.bind_eq_some_iff.mp e
    obtain ⟨ns, e2, e⟩ := Option.map_eq_some_iff.mp e
    subst e
    obtain ⟨a, vs, rfl, h, r⟩ := con_seq c1 e1
    rw [toInts_reps r e2] at h
    rcases h with h | h
    · refine .inl ⟨a, ns, rfl, h, fun ns' p h1 h2 hn => ?_⟩
      rw [sortI_uniq h1 h2]
      exact k _ _ (R.alloc hn) (R.newList hn (reps_ints _))
    · refine .inr ⟨a, ns, rfl, h, fun ns' p h1 h2 hn => ?_⟩
      rw [sortI_uniq h1 h2]
      exact k _ _ (R.alloc hn) (R.newList hn (reps_ints _))
  | [], _, e => cases e
  | _ :: _ :: _, _, e => cases e
/-! ### list(range(..)), tuple(range(..)) -/
/-! ### isinstance(x, T), T a built-in type -/
def tyP : PV → Option String
  | .non => some "NoneType"
  | .bl _ => some "bool"
  | .int _ => some "int"
  | .str _ => some "str"
  | .tup _ => some "tuple"
  | .lst _ => some "list"
  | .scr _ => some "list"
  | .dic _ _ => some "dict"
  | _ => none
def isB (T : String) (p : PV) : Option Bool := (tyP p).bind fun t => kitB t T
end
end BL
/-! B, isinstance, ranges as lists, methods of lists, stores of an item. -/
namespace BL
noncomputable section
open PySem PySem.Spec PyProof.Rows L2
/-! ### isinstance(x, T) -/
section
variable {K : PySem.W.Frag} {w : Wd}
theorem tyx_con {p : PV} {v : V} {t : String} (h : Con K w p v) (e : tyP p = some t) : TyX K w.H v (.type t) := by
  cases p with
  | non => cases e; cases (show v = .non from h); exact .base .non
  | bl b => cases e; cases (show v = .bl b from h); exact .base (.bl b)
  | int b => cases e; cases (show v = .int b from h); exact .base (.int b)
  | str b => cases e; cases (show v = .str b from h); exact .base (.str b)
  | tup xs =>
    cases e
    obtain ⟨a, vs, rfl, h, _⟩ := con_tup h
    rcases h with (h | ⟨o, h⟩) | ⟨o, its, n, h, c, _⟩
    · exact .base (.tup h)
    · exact .fTuple h
    · exact .kTuple h c
  | lst xs =>
    cases e
    obtain ⟨a, vs, rfl, h, _⟩ := h
    exact .base (.lst h)
  | scr xs =>
    cases e
    obtain ⟨a, rfl, h⟩ := h
    rcases h with ⟨o, h⟩ | ⟨o, its, n, h, c, _⟩
    · exact .base (.frz h)
    · exact .kList h c
  | dic ks xs =>
    cases e
    obtain ⟨a, vs, rfl, h, _⟩ := h
    rcases h with ⟨_, _, _, h⟩ | ⟨_, _, _, h⟩
    · exact .base (.dK h)
    · exact .base (.dT h)
  | obj n => cases e
  | exc c => cases e
end
def mIsT (T : String) (m : M RV) : M RV := mUn (fun p => (isB T p).map fun b => .val (.bl b)) m
section
variable {X : Cx} {B : BC} {W : WX} {e : Expr} {m : M RV} {p p2 pos : Pos} {T : String} {tn : Str}
theorem be_isT (hK : X.K = B.K) (hg : Gl X "isinstance") (hm : X.mg "isinstance" = none) (hgT : Gl X tn) (hmT : X.mg tn = none) (hv : bootBuiltins tn = some (.type T)) (ha : PE X e (tB B W m)) (hn : tn ≠ "__name__" := by decide) (hd : (tn == ("__debug__" : Str)) = false := by decide)
    (s1 : starEach [e, .Name tn p2] X.env = (false, eval e X.env) :: starEach [.Name tn p2] X.env := by rfl) (s2 : starEach [.Name tn p2] X.env = (false, eval (.Name tn p2) X.env) :: starEach [] X.env := by rfl) (hpl : (backTo pos (starEach [.Name tn p2] X.env)).any (·.1) = false := by rfl) :
    PE X (.Call (.Name "isinstance" p) [e, .Name tn p2] [] pos) (tB B W (mIsT T m)) := by
  refine (pe_callB (r := rIsi X.K) (id := "isinstance") call_isi hg hm (by rfl) (pa_cons ha (pa_cons (pe_bltn (v := .ty T) hgT hmT hv rfl hn hd) pa_nil s2) s1) (by decide) (by decide) s1 hpl).imp fun σ H Q h => ?_
  refine (tG.bind (T := RRel) h).mono fun x H1 q => ?_
  obtain ⟨L, s0, s, r1, rfl, rfl, R0, A, h1, P⟩ := q
  unfold look1 at P
  split at P
  · rename_i q e1
    have c := peek_con A.rel h1 e1
    dsimp only at P
    cases e3 : isB T q with
    | none =>
      rw [e3] at P
      exact P.elim
    | some b =>
      rw [e3] at P
      obtain ⟨t, e2, e3⟩ := Option.bind_eq_some_iff.mp e3
      exact ⟨x, .ty T, .type t, .type T, b, rfl, .ty T, by rw [hK]; exact tyx_con c e2, kit_ty e3, P.fin A rfl⟩
  · exact P.elim
/-! ### list(range(..)), tuple(range(..)) -/
def rgP (a b : Int) : List PV := (List.range (b - a).toNat).map fun i => .int (a + (i : Nat))
theorem reps_rg {K : PySem.W.Frag} {w : Wd} (a b : Int) : Reps K w (rgP a b) (rgV a b) := by
  have : rgP a b = ((List.range (b - a).toNat).map fun i => a + ((i : Nat) : Int)).map PV.int := by unfold rgP; rw [List.map_map]; rfl
  rw [this]
  have e : rgV a b = ((List.range (b - a).toNat).map fun i => a + ((i : Nat) : Int)).map V.int := by unfold rgV; rw [List.map_map]; rfl
  rw [e]
  exact reps_ints _
def rgC (a b : Int) : Bool := @decide (-(2 ^ 62) ≤ a ∧ a < 2 ^ 62 ∧ -(2 ^ 62) ≤ b ∧ b < 2 ^ 62 ∧ (b - a).toNat ≤ 2 ^ 24) (Classical.propDecidable _)
theorem rgC_ok {a b : Int} (h : rgC a b = true) : RgOk a b := by
  have h2 := @of_decide_eq_true _ (Classical.propDecidable _) h
  exact h2
def rgF1 (k : List PV → RV) : PV → Option RV
  | .int n => @ite _ (rgC 0 n = true) (Classical.propDecidable _) (some (k (rgP 0 n))) none
  | _ => none
def rgF2 (k : List PV → RV) : PV → PV → Option RV
  | .int i, .int n => @ite _ (rgC i n = true) (Classical.propDecidable _) (some (k (rgP i n))) none
  | _, _ => none
abbrev kL : List PV → RV := fun xs => .fresh (.lst xs)
abbrev kT : List PV → RV := fun xs => .val (.tup xs)
variable {a b : Expr} {ma mb : M RV} {p3 : Pos}
theorem rg1 {σ : L2.St} {H : Hp} {Q : VK} {mk : List V → HO} {kk : List PV → RV} (hk : ∀ (L : List Addr) (s : BS) (p : Addr) (xs : List PV) (vs : List V), Rel B L s → s.w.H p = none → Reps B.K s.w xs vs → RRel B L s ⟨s.r, s.s, ⟨upd s.w.H p (mk vs), s.w.F, s.w.O⟩⟩ (kk xs) (.ref p))
    (h : tB B W (mUn (rgF1 kk) ma) σ H Q) : tRg1 (tB B W ma) σ H fun a b H1 => RgOk a b ∧ ∀ q, H1 q = none → Q (.ref q) (upd H1 q (mk (rgV a b))) := by
  refine (tG.bind (T := RRel) h).mono fun x H1 q => ?_
  obtain ⟨L, s0, s, r1, rfl, rfl, R0, A, h1, P⟩ := q
  unfold look1 at P
  split at P
  · rename_i q e1
    have c := peek_con A.rel h1 e1
    cases q with
    | int n =>
      cases (show x = .int n from c)
      refine ⟨n, rfl, ?_⟩
      have P : Post RRel B L W s0 Q (match (@ite (Option RV) (rgC 0 n = true) (Classical.propDecidable _) (some (kk (rgP 0 n))) none) with | some z => .ok z s.r | none => .no) := P
      by_cases hz : rgC 0 n = true
      · rw [if_pos hz] at P
        exact ⟨rgC_ok hz, fun p hn => P.fin (A.trans (A.rel.alloc hn)) (RRel.weak A.x (hk L s p _ _ A.rel hn (reps_rg 0 n)))⟩
      · rw [if_neg hz] at P
        exact P.elim
    | _ => exact P.elim
  · exact P.elim
theorem rg2 {σ : L2.St} {H : Hp} {Q : VK} {mk : List V → HO} {kk : List PV → RV} (hk : ∀ (L : List Addr) (s : BS) (p : Addr) (xs : List PV) (vs : List V), Rel B L s → s.w.H p = none → Reps B.K s.w xs vs → RRel B L s ⟨s.r, s.s, ⟨upd s.w.H p (mk vs), s.w.F, s.w.O⟩⟩ (kk xs) (.ref p))
    (h : tB B W (mBin (rgF2 kk) ma mb) σ H Q) : tRg2 (tB B W ma) (tB B W mb) σ H fun a b H1 => RgOk a b ∧ ∀ q, H1 q = none → Q (.ref q) (upd H1 q (mk (rgV a b))) := by
  refine two h fun L s0 s x y vx vy _ _ A h1 h2 P => ?_
  unfold look2 at P
  split at P
  · rename_i q1 q2 e1 e2
    have c1 := peek_con A.rel h1 e1
    have c2 := peek_con A.rel h2 e2
    cases q1 with
    | int i =>
      cases q2 with
      | int n =>
        cases (show vx = .int i from c1)
        cases (show vy = .int n from c2)
        refine ⟨i, n, rfl, rfl, ?_⟩
        have P : Post RRel B L W s0 Q (match (@ite (Option RV) (rgC i n = true) (Classical.propDecidable _) (some (kk (rgP i n))) none) with | some z => .ok z s.r | none => .no) := P
        by_cases hz : rgC i n = true
        · rw [if_pos hz] at P
          exact ⟨rgC_ok hz, fun p hn => P.fin (A.trans (A.rel.alloc hn)) (RRel.weak A.x (hk L s p _ _ A.rel hn (reps_rg i n)))⟩
        · rw [if_neg hz] at P
          exact P.elim
      | _ => exact P.elim
    | _ => exact P.elim
  · exact P.elim
theorem be_listRg1 (hc : X.calm = true) (hg : Gl X "list") (hm : X.mg "list" = none) (hg2 : Gl X "range") (hm2 : X.mg "range" = none) (ha : PE X a (tB B W ma)) (na : starEach [a] X.env = (false, eval a X.env) :: starEach [] X.env := by rfl)
    (nb : starEach [.Call (.Name "range" p2) [a] [] p3] X.env = (false, eval (.Call (.Name "range" p2) [a] [] p3) X.env) :: starEach [] X.env := by rfl) : PE X (.Call (.Name "list" p) [.Call (.Name "range" p2) [a] [] p3] [] pos) (tB B W (mUn (rgF1 kL) ma)) :=
  (pe_listRg hc hg hm (prg_1 hg2 hm2 ha na) nb).imp fun σ H Q h => rg1 (fun L s p xs vs R hn r => R.newList hn r) h
theorem be_listRg2 (hc : X.calm = true) (hg : Gl X "list") (hm : X.mg "list" = none) (hg2 : Gl X "range") (hm2 : X.mg "range" = none) (ha : PE X a (tB B W ma)) (hb : PE X b (tB B W mb)) (na : starEach [a, b] X.env = (false, eval a X.env) :: starEach [b] X.env := by rfl) (nb : starEach [b] X.env = (false, eval b X.env) :: starEach [] X.env := by rfl)
    (nr : starEach [.Call (.Name "range" p2) [a, b] [] p3] X.env = (false, eval (.Call (.Name "range" p2) [a, b] [] p3) X.env) :: starEach [] X.env := by rfl) (hp : (backTo p3 (starEach [b] X.env)).any (·.1) = false := by rfl) : PE X (.Call (.Name "list" p) [.Call (.Name "range" p2) [a, b] [] p3] [] pos) (tB B W (mBin (rgF2 kL) ma mb)) :=
  (pe_listRg hc hg hm (prg_2 hg2 hm2 ha hb na nb hp) nr).imp fun σ H Q h => rg2 (fun L s p xs vs R hn r => R.newList hn r) h
theorem be_tupRg1 (hc : X.calm = true) (hg : Gl X "tuple") (hm : X.mg "tuple" = none) (hg2 : Gl X "range") (hm2 : X.mg "range" = none) (ha : PE X a (tB B W ma)) (na : starEach [a] X.env = (false, eval a X.env) :: starEach [] X.env := by rfl)
    (nb : starEach [.Call (.Name "range" p2) [a] [] p3] X.env = (false, eval (.Call (.Name "range" p2) [a] [] p3) X.env) :: starEach [] X.env := by rfl) : PE X (.Call (.Name "tuple" p) [.Call (.Name "range" p2) [a] [] p3] [] pos) (tB B W (mUn (rgF1 kT) ma)) :=
  (pe_tupRg hc hg hm (prg_1 hg2 hm2 ha na) nb).imp fun σ H Q h => rg1 (fun L s p xs vs R hn r => R.newTup hn r) h
theorem be_tupRg2 (hc : X.calm = true) (hg : Gl X "tuple") (hm : X.mg "tuple" = none) (hg2 : Gl X "range") (hm2 : X.mg "range" = none) (ha : PE X a (tB B W ma)) (hb : PE X b (tB B W mb)) (na : starEach [a, b] X.env = (false, eval a X.env) :: starEach [b] X.env := by rfl) (nb : starEach [b] X.env = (false, eval b X.env) :: starEach [] X.env := by rfl)
    (nr : starEach [.Call (.Name "range" p2) [a, b] [] p3] X.env = (false, eval (.Call (.Name "range" p2) [a, b] [] p3) X.env) :: starEach [] X.env := by rfl) (hp : (backTo p3 (starEach [b] X.env)).any (·.1) = false := by rfl) : PE X (.Call (.Name "tuple" p) [.Call (.Name "range" p2) [a, b] [] p3] [] pos) (tB B W (mBin (rgF2 kT) ma mb)) :=
  (pe_tupRg hc hg hm (prg_2 hg2 hm2 ha hb na nb hp) nr).imp fun σ H Q h => rg2 (fun L s p xs vs R hn r => R.newTup hn r) h
end
/-! ### methods that change their object -/
/-- the object's content, the arguments' contents: the new content, what it gives -/
def mutO (f : PV → List PV → Option (PV × PV)) (o : RV) (rs : List RV) : M RV := fun r => match peek r o, peeks r rs with
  | some p, some ps => (match f p ps with
    | some (q, z) => (match mutM o q r with | .ok _ r' => .ok (.val z) r' | _ => .no)
    | none => .no)
  | _, _ => .no
/-- with arguments that are kept in the object (frozen) -/
def mutV (f : PV → List PV → Option (PV × PV)) (o : RV) (rs : List RV) : M RV := fun r => match peek r o, valsOf rs with
  | some p, some ps => (match f p ps with
    | some (q, z) => (match mutM o q r with | .ok _ r' => .ok (.val z) r' | _ => .no)
    | none => .no)
  | _, _ => .no
def mMeth (g : RV → List RV → M RV) (o : M RV) (ms : M (List RV)) : M RV := o.bind fun x => ms.bind fun rs => g x rs
def OkMt (B : BC) (T : String) (r : V → List V → Hp → VK → Prop) (g : RV → List RV → M RV) : Prop := ∀ (W : WX) (L : List Addr) (s0 s : BS) (o : RV) (x : V) (rs : List RV) (vs : List V) (Q : VK), At B L s0 s → RRel B L s0 s o x → RRels B L s0 s rs vs →
  Post RRel B L W s0 Q (g o rs s.r) → r x vs s.w.H Q
section
variable {X : Cx} {B : BC} {W : WX} {L : List Addr} {s0 s : BS}
theorem mutM_ne {o : RV} {q : PV} {r e' : Env} {c : Nat} : mutM o q r ≠ .exc c e' := by
  cases o with
  | val p => exact fun h => by cases h
  | fresh p => exact fun h => by cases h
  | slot i =>
    unfold mutM
    dsimp only
    split
    · exact fun h => by cases h
    · unfold mutLn
      split <;> exact fun h => by cases h
    · exact fun h => by cases h
  | loan k =>
    show mutLn k q r ≠ _
    unfold mutLn
    split <;> exact fun h => by cases h
/-- a method's core -/
def Core (B : BC) (r : V → List V → Hp → VK → Prop) (f : PV → List PV → Option (PV × PV)) (C : PySem.W.Frag → Wd → List PV → List V → Prop) : Prop :=
  ∀ (w : Wd) (a : Addr) (p : PV) (ps : List PV) (vs : List V) (q z : PV) (Q : VK), Con B.K w p (.ref a) → C B.K w ps vs → f p ps = some (q, z) → (∀ o v, NewC B w a q o → Rep B.K w z v → Q v (upd w.H a o)) → r (.ref a) vs w.H Q
/-- who may be changed stands at an address -/
theorem mut_ref (R : Rel B L s) {o : RV} {x : V} {q : PV} {e' : Env} {u : Unit} (h : RRel B L s0 s o x) (e : mutM o q s.r = .ok u e') : ∃ a, x = .ref a := by
  cases o with
  | val p => cases e
  | fresh p =>
    obtain ⟨a, rfl, _⟩ := h
    exact ⟨a, rfl⟩
  | loan k =>
    obtain ⟨a, _, rfl⟩ := h
    exact ⟨a, rfl⟩
  | slot i =>
    have h : s.s[i]? = some (some x) := h
    unfold mutM at e
    dsimp only at e
    split at e
    · rename_i p e1
      obtain ⟨a, e2, _⟩ := R.sl i _ e1
      rw [h] at e2
      cases e2
      exact ⟨a, rfl⟩
    · rename_i k e1
      obtain ⟨a, _, e2⟩ := R.sl i _ e1
      rw [h] at e2
      cases e2
      exact ⟨a, rfl⟩
    · cases e
theorem mut_rep (R : Rel B L s) {o : RV} {a : Addr} {q z : PV} {v : V} {u : HO} {e' : BL.Env} (h : RRel B L s0 s o (.ref a)) (e : mutM o q s.r = .ok () e') (hr : Rep B.K s.w z v) : Rep B.K (mutW s.w a u) z v := by
  -- the object that is changed was owned
  have g : ∃ p, ORep B.K s.w p a := by
    cases o with
    | val p => cases e
    | fresh p =>
      obtain ⟨b, hb, o0, _⟩ := h
      cases hb
      exact ⟨p, o0⟩
    | loan k =>
      obtain ⟨b, hL, hb⟩ := h
      cases hb
      have e : mutLn k q s.r = .ok () e' := e
      unfold mutLn at e
      split at e
      · rename_i p e1
        exact ⟨p, R.ln k _ a e1 hL⟩
      · cases e
    | slot i =>
      have h : s.s[i]? = some (some (.ref a)) := h
      unfold mutM at e
      dsimp only at e
      split at e
      · rename_i p e1
        obtain ⟨b, e2, o0⟩ := R.sl i _ e1
        rw [h] at e2
        cases e2
        exact ⟨p, o0⟩
      · rename_i k e1
        obtain ⟨b, hL, e2⟩ := R.sl i _ e1
        rw [h] at e2
        cases e2
        unfold mutLn at e
        split at e
        · rename_i p e3
          exact ⟨p, R.ln k _ a e3 hL⟩
        · cases e
      · cases e
  obtain ⟨p, o0⟩ := g
  obtain ⟨u', eu⟩ := o0.there
  exact Rep.step (mutW_step eu) (one_good o0) hr
theorem mt_coreO {T : String} {r : V → List V → Hp → VK → Prop} {f : PV → List PV → Option (PV × PV)} (c : Core B r f Cons) : OkMt B T r (mutO f) := by
  intro W L s0 s o x rs vs Q A h hs P
  unfold mutO at P
  split at P
  · rename_i p ps e1 e2
    split at P
    · rename_i q z e3
      cases e4 : mutM o q s.r with
      | ok u e' =>
        rw [e4] at P
        obtain ⟨a, rfl⟩ := mut_ref A.rel h e4
        refine c s.w a p ps vs q z Q (peek_con A.rel h e1) (peeks_con A.rel hs.1 e2) e3 fun oo v n hr => ?_
        exact P.fin (s := ⟨e', s.s, mutW s.w a oo⟩) (mut_ok A h e4 n) (mut_rep A.rel h e4 hr)
      | exc c e' => exact (mutM_ne e4).elim
      | no => rw [e4] at P; exact P.elim
    · exact P.elim
  · exact P.elim
theorem mt_coreV {T : String} {r : V → List V → Hp → VK → Prop} {f : PV → List PV → Option (PV × PV)} (c : Core B r f Reps) : OkMt B T r (mutV f) := by
  intro W L s0 s o x rs vs Q A h hs P
  unfold mutV at P
  split at P
  · rename_i p ps e1 e2
    split at P
    · rename_i q z e3
      cases e4 : mutM o q s.r with
      | ok u e' =>
        rw [e4] at P
        obtain ⟨a, rfl⟩ := mut_ref A.rel h e4
        refine c s.w a p ps vs q z Q (peek_con A.rel h e1) (valsOf_reps hs.1 e2) e3 fun oo v n hr => ?_
        exact P.fin (s := ⟨e', s.s, mutW s.w a oo⟩) (mut_ok A h e4 n) (mut_rep A.rel h e4 hr)
      | exc c e' => exact (mutM_ne e4).elim
      | no => rw [e4] at P; exact P.elim
    · exact P.elim
  · exact P.elim
variable {o e : Expr} {es : List Expr} {mo : M RV} {ms : M (List RV)} {name : Str} {apos cpos : Pos} {T id : String} {r : V → List V → Hp → VK → Prop} {g : RV → List RV → M RV}
/-- the receiver's type, from its content (a list, a dict, a text) -/
def TyOk (B : BC) (T : String) (g : RV → List RV → M RV) : Prop := ∀ (L : List Addr) (s0 s : BS) (o : RV) (x : V), At B L s0 s → RRel B L s0 s o x → tyV B.K T x s.w.H ∨ ∀ (e : BL.Env), (∀ p, peek s.r o = some p → peek e o = some p) → ∀ rs, g o rs e = .no
theorem tyV_con {K : PySem.W.Frag} {w : Wd} {p : PV} {v : V} (h : Con K w p v) (e : tyP p = some T) (hT : T = "list" ∨ T = "dict" ∨ T = "str") : tyV K T v w.H := by
  cases p with
  | lst xs =>
    cases e
    obtain ⟨a, vs, rfl, h, _⟩ := h
    exact .inl ⟨rfl, vs, .inl (.inl h)⟩
  | scr xs =>
    cases e
    obtain ⟨a, rfl, h⟩ := h
    exact .inl ⟨rfl, _, h.sq⟩
  | str z =>
    cases e
    cases (show v = .str z from h)
    rfl
  | dic ks xs =>
    cases e
    obtain ⟨a, vs, rfl, h, _⟩ := h
    rcases h with ⟨_, _, _, h⟩ | ⟨_, _, _, h⟩
    · exact .inr (.inr (.inl ⟨rfl, .inl ⟨_, h⟩⟩))
    · exact .inr (.inr (.inl ⟨rfl, .inr ⟨_, h⟩⟩))
  | obj n => cases e
  | exc n => cases e
  | _ => cases e; simp at hT
/-- o.m(..): first the receiver is seen to be of the type -/
def mMethT (T : String) (g : RV → List RV → M RV) (o : M RV) (ms : M (List RV)) : M RV := o.bind fun x => fun r => match peek r x with
  | some p => if tyP p = some T then (ms.bind fun rs => g x rs) r else .no
  | none => .no
theorem be_meth (pa : PlainAttrs T) (slot : PySem.Slot T name id) (hty : typeOf (.builtin id) = pure (.type "method_descriptor")) (hK : X.K = B.K) (hm : MtR X id r) (ok : OkMt B T r g) (hT : T = "list" ∨ T = "dict" ∨ T = "str") (ho : PE X o (tB B W mo)) (ha : PA X (e :: es) (tA B W ms))
    (hbase : attributeBase o name X.env (eval o X.env) = eval o X.env := by rfl)
    (hfew : ((backTo cpos (starEach (e :: es) X.env)).all (fun x => !x.1) && (backToKw cpos (keywordEach [] X.env)).all (fun x => x.1.isSome)
      && decide ((e :: es).length + ([] : List Keyword).length + (if ([] : List Keyword).isEmpty then 0 else 1) < 30)) = true := by rfl)
    (hline : (apos.endLine == cpos.line) = true := by rfl) (hs : starEach (e :: es) X.env = (false, eval e X.env) :: starEach es X.env := by rfl) (hplain : (backTo cpos (starEach es X.env)).any (·.1) = false := by rfl) :
    PE X (.Call (.Attribute o name apos) (e :: es) [] cpos) (tB B W (mMethT T g mo ms)) := by
  refine (pe_bm pa slot hty hm ho ha hbase hfew hline hs hplain).imp fun σ H Q h => ?_
  refine (tG.bind (T := RRel) h).mono fun x H1 q => ?_
  obtain ⟨L, s0, s, r1, rfl, rfl, R0, A, h1, P⟩ := q
  split at P
  · rename_i p e1
    split at P
    · rename_i e2
      refine ⟨by rw [hK]; exact tyV_con (peek_con A.rel h1 e1) e2 hT, ?_⟩
      refine (Post.bind (T := RRels) R0 A P).mono fun xs H2 q => ?_
      obtain ⟨s2, rs, rfl, A2, h2, P2⟩ := q
      exact ok W L s0 s2 r1 x rs xs Q (A.trans A2) (h1.at A2 A.rel) (RRels.weak A.x h2) P2
    · exact P.elim
  · exact P.elim
theorem be_meth0 (pa : PlainAttrs T) (slot : PySem.Slot T name id) (hty : typeOf (.builtin id) = pure (.type "method_descriptor")) (hK : X.K = B.K) (hm : MtR X id r) (ok : OkMt B T r g) (hT : T = "list" ∨ T = "dict" ∨ T = "str") (ho : PE X o (tB B W mo))
    (hbase : attributeBase o name X.env (eval o X.env) = eval o X.env := by rfl) (hline : (apos.endLine == cpos.line) = true := by rfl) :
    PE X (.Call (.Attribute o name apos) [] [] cpos) (tB B W (mMethT T g mo mNilA)) := by
  refine (pe_bm0 pa slot hty hm ho hbase hline).imp fun σ H Q h => ?_
  refine (tG.bind (T := RRel) h).mono fun x H1 q => ?_
  obtain ⟨L, s0, s, r1, rfl, rfl, R0, A, h1, P⟩ := q
  split at P
  · rename_i p e1
    split at P
    · rename_i e2
      exact ⟨by rw [hK]; exact tyV_con (peek_con A.rel h1 e1) e2 hT, ok W L s0 s r1 x [] [] Q A h1 ⟨.nil, List.nodup_nil⟩ P⟩
    · exact P.elim
  · exact P.elim
end
/-! ### the methods of a list -/
section
variable {B : BC}
theorem mOr {T : String} {r r' : V → List V → Hp → VK → Prop} {f : PV → List PV → Option (PV × PV)} {C : PySem.W.Frag → Wd → List PV → List V → Prop} (h : Core B (fun x vs H Q => r x vs H Q ∨ r' x vs H Q) f C) : Core B (fun x vs H Q => r x vs H Q ∨ r' x vs H Q) f C := h
theorem con_lstM {K : PySem.W.Frag} {w : Wd} {xs : List PV} {a : Addr} (h : Con K w (.lst xs) (.ref a)) : ∃ vs, w.H a = some (.lst vs) ∧ Reps K w xs vs := by
  obtain ⟨b, vs, e, h, r⟩ := h
  cases e
  exact ⟨vs, h, r⟩
def appendF : PV → List PV → Option (PV × PV)
  | .lst xs, [y] => @ite _ (xs.length < lim) (Classical.propDecidable _) (some (.lst (xs ++ [y]), .non)) none
  | _, _ => none
theorem core_append : Core B rAppend appendF Reps := by
  intro w a p ps vs q z Q c cs e k
  unfold appendF at e
  split at e
  · rename_i xs y
    obtain ⟨us, h, r⟩ := con_lstM c
    obtain ⟨v, rest, rfl, hy, hn⟩ := cs
    cases (show rest = [] from hn)
    split at e
    · rename_i hz
      cases e
      exact ⟨a, us, v, rfl, rfl, h, by rw [← r.length, ← lim_eq]; exact hz, k (.lst (us ++ [v])) .non (.inl ⟨_, _, rfl, rfl, r.append ⟨v, _, rfl, hy, rfl⟩⟩) rfl⟩
    · cases e
  · cases e
def extendF : PV → List PV → Option (PV × PV)
  | .lst xs, [.lst ys] => @ite _ (xs.length + ys.length ≤ lim) (Classical.propDecidable _) (some (.lst (xs ++ ys), .non)) none
  | _, _ => none
theorem core_extend : Core B rExtend extendF Cons := by
  intro w a p ps vs q z Q c cs e k
  unfold extendF at e
  split at e
  · rename_i xs ys
    obtain ⟨us, h, r⟩ := con_lstM c
    obtain ⟨v, rfl, hy⟩ := cs.one
    obtain ⟨b, zs, rfl, hb, rb⟩ := hy
    split at e
    · rename_i hz
      cases e
      exact ⟨a, b, us, zs, rfl, rfl, h, hb, by rw [← r.length, ← rb.length, ← lim_eq]; exact hz, k (.lst (us ++ zs)) .non (.inl ⟨_, _, rfl, rfl, r.append rb⟩) rfl⟩
    · cases e
  · cases e
def popF : PV → List PV → Option (PV × PV)
  | .lst xs, [] => (xs[xs.length - 1]?).map fun y => (.lst xs.dropLast, y)
  | .lst xs, [.int i] => @ite _ (-(2 ^ 63) ≤ i ∧ i < 2 ^ 63) (Classical.propDecidable _) ((seqIndex? i xs.length).bind fun k => (xs[k]?).map fun y => (.lst (xs.eraseIdx k), y)) none
  | _, _ => none
theorem reps_dropLast {K : PySem.W.Frag} {w : Wd} : ∀ {xs : List PV} {vs : List V}, Reps K w xs vs → Reps K w xs.dropLast vs.dropLast
  | xs, vs, h => by
    rw [List.dropLast_eq_take, List.dropLast_eq_take, h.length]
    exact h.take _
theorem reps_erase {K : PySem.W.Frag} {w : Wd} {xs : List PV} {vs : List V} (h : Reps K w xs vs) (k : Nat) : Reps K w (xs.eraseIdx k) (vs.eraseIdx k) := by
  rw [List.eraseIdx_eq_take_drop_succ, List.eraseIdx_eq_take_drop_succ]
  exact (h.take _).append (h.drop _)
abbrev rPopB : V → List V → Hp → VK → Prop := fun x vs H Q => rPop x vs H Q ∨ rPopAt x vs H Q
theorem mt_popB {X : Cx} : MtR X "list.pop" rPopB := MtR.or mt_pop mt_popAt
theorem core_pop : Core B rPopB popF Cons := by
  intro w a p ps vs q z Q c cs e k
  unfold popF at e
  split at e
  · rename_i xs
    obtain ⟨us, h, r⟩ := con_lstM c
    cases cs
    obtain ⟨y, e1, e2⟩ := Option.map_eq_some_iff.mp e
    cases e2
    obtain ⟨v, hv, hr⟩ := r.get e1
    rw [r.length] at hv
    exact .inl ⟨a, us, v, rfl, rfl, h, hv, k (.lst us.dropLast) v (.inl ⟨_, _, rfl, rfl, reps_dropLast r⟩) hr⟩
  · rename_i xs i
    obtain ⟨us, h, r⟩ := con_lstM c
    obtain ⟨v, rfl, hy⟩ := cs.one
    cases (show v = .int i from hy)
    split at e
    · rename_i hz
      obtain ⟨j, e1, e⟩ := Option.bind_eq_some_iff.mp e
      obtain ⟨y, e2, e⟩ := Option.map_eq_some_iff.mp e
      cases e
      obtain ⟨v, hv, hr⟩ := r.get e2
      rw [r.length] at e1
      exact .inr ⟨a, us, i, j, v, rfl, rfl, h, hz.1, hz.2, e1, hv, k (.lst (us.eraseIdx j)) v (.inl ⟨_, _, rfl, rfl, reps_erase r j⟩) hr⟩
    · cases e
  · cases e
def insertF : PV → List PV → Option (PV × PV)
  | .lst xs, [.int i, y] => @ite _ (xs.length < lim ∧ 0 ≤ i ∧ i < 2 ^ 63) (Classical.propDecidable _) (some (.lst (xs.take i.toNat ++ [y] ++ xs.drop i.toNat), .non)) none
  | _, _ => none
theorem core_insert : Core B (fun x vs H Q => ∃ (l : Addr) (xs : List V) (i : Int) (y : V), x = .ref l ∧ vs = [.int i, y] ∧ H l = some (.lst xs) ∧ xs.length < sizeLine ∧ 0 ≤ i ∧ i < 2 ^ 63 ∧
    Q .non (upd H l (.lst (xs.take i.toNat ++ [y] ++ xs.drop i.toNat)))) insertF Reps := by
  intro w a p ps vs q z Q c cs e k
  unfold insertF at e
  split at e
  · rename_i xs i y
    obtain ⟨us, h, r⟩ := con_lstM c
    obtain ⟨v1, rest, rfl, hi, v, rest2, rfl, hy, hn⟩ := cs
    cases (show rest2 = [] from hn)
    cases (show v1 = .int i from hi)
    split at e
    · rename_i hz
      cases e
      exact ⟨a, us, i, v, rfl, rfl, h, by rw [← r.length, ← lim_eq]; exact hz.1, hz.2.1, hz.2.2, k (.lst (us.take i.toNat ++ [v] ++ us.drop i.toNat)) .non (.inl ⟨_, _, rfl, rfl, ((r.take _).append (Reps.cons hy .nil)).append (r.drop _)⟩) rfl⟩
    · cases e
  · cases e
def reverseF : PV → List PV → Option (PV × PV)
  | .lst xs, [] => some (.lst xs.reverse, .non)
  | _, _ => none
theorem core_reverse : Core B rReverse reverseF Cons := by
  intro w a p ps vs q z Q c cs e k
  unfold reverseF at e
  split at e
  · rename_i xs
    obtain ⟨us, h, r⟩ := con_lstM c
    cases cs
    cases e
    exact ⟨a, us, rfl, rfl, h, k (.lst us.reverse) .non (.inl ⟨_, _, rfl, rfl, r.reverse⟩) rfl⟩
  · cases e
def clearF : PV → List PV → Option (PV × PV)
  | .lst _, [] => some (.lst [], .non)
  | _, _ => none
theorem core_clear : Core B rClear clearF Cons := by
  intro w a p ps vs q z Q c cs e k
  unfold clearF at e
  split at e
  · rename_i xs
    obtain ⟨us, h, r⟩ := con_lstM c
    cases cs
    cases e
    exact ⟨a, us, rfl, rfl, h, k (.lst []) .non (.inl ⟨_, _, rfl, rfl, rfl⟩) rfl⟩
  · cases e
end
/-! ### methods that only look -/
def seeM (f : PV → List PV → Option RV) (o : RV) (rs : List RV) : M RV := fun r => match peek r o, peeks r rs with
  | some p, some ps => (match f p ps with | some z => .ok z r | none => .no)
  | _, _ => .no
def OkSee (B : BC) (r : V → List V → Hp → VK → Prop) (f : PV → List PV → Option RV) : Prop := ∀ (L : List Addr) (s : BS) (p : PV) (ps : List PV) (x : V) (xs : List V) (z : RV) (Q : VK), Rel B L s → Con B.K s.w p x → Cons B.K s.w ps xs → f p ps = some z →
  (∀ w' v, At B L s ⟨s.r, s.s, w'⟩ → RRel B L s ⟨s.r, s.s, w'⟩ z v → Q v w'.H) → r x xs s.w.H Q
theorem mt_see {B : BC} {T : String} {r : V → List V → Hp → VK → Prop} {f : PV → List PV → Option RV} (c : OkSee B r f) : OkMt B T r (seeM f) := by
  intro W L s0 s o x rs vs Q A h hs P
  unfold seeM at P
  split at P
  · rename_i p ps e1 e2
    split at P
    · rename_i z e3
      exact c L s p ps x vs z Q A.rel (peek_con A.rel h e1) (peeks_con A.rel hs.1 e2) e3 fun w' v A' hr => P.fin (A.trans A') (hr.weak A.x)
    · exact P.elim
  · exact P.elim
end
end BL
/-! B, what is walked: lists, tuples, ranges, enumerate, zip, reversed, texts. -/
namespace BL
noncomputable section
open PySem PySem.Spec PyProof.Rows L2
/-! ### enumerate(tuple) -/
def IteT (K : PySem.W.Frag) (a : Addr) : It :=
  ⟨fun i H => ∃ (xs : List V) (x : V), SqT K H a xs ∧ xs[i]? = some x, fun i H v H' => ∃ T x, v = .ref T ∧ H T = none ∧ H' = upd H T (.tup [.int (i : Nat), x]) ∧ ∀ xs, SqT K H a xs → xs[i]? = some x, fun i H => ∃ xs : List V, SqT K H a xs ∧ xs.length = i⟩
theorem turn_enumT {P : Program} {w : World} {K : PySem.W.Frag} {elts : List Expr} {kk : Nat} {tpos : Pos} (a e it : Addr) (hat : a ≠ it) :
    Turn P w K (.Tuple elts kk tpos) (IteT K a) [e, it] e (fun i h => (∃ old, IsEnum h e it ((i : Nat) : Int) old) ∧ h.IsTupleIter it a i ∧ e ≠ it ∧ a ≠ e) where
  mem := by simp
  obj := fun i h st b hb => by
    obtain ⟨⟨old, he⟩, ⟨o, ho, hc, hd⟩, _⟩ := st
    have e' : b = e ∨ b = it := by simpa using hb
    rcases e' with z | z
    · rw [z]; exact ⟨_, he, fun v q => nomatch q⟩
    · rw [z]; exact ⟨o, ho, fun v q => by rw [hd] at q; cases q⟩
  keep := fun i h h' st k => let ⟨⟨old, he⟩, hi, hne⟩ := st; ⟨⟨old, k e (by simp) _ he⟩, hi.at fun o q => k it (by simp) o q, hne⟩
  item := by
    intro X hP hw hK hc i pins s σ H E I hf st hg
    subst hP hw hK
    obtain ⟨⟨old, he⟩, hit, hne, hae⟩ := st
    obtain ⟨xs, x, hq, hx⟩ := hg
    obtain ⟨its, rv, p, hz⟩ := I.tuple hq
    obtain ⟨u, hu, ru⟩ := rv.get hx
    have hel : e < s.heap.objs.size := Heap.lt_size he
    have hil : it < s.heap.objs.size := by obtain ⟨_, q, _⟩ := hit; exact Heap.lt_size q
    have hp : s.heap.IsTuple a its.toArray := p
    have hin : i < its.toArray.size := by
      have := (List.getElem?_eq_some_iff.mp hu).1
      simpa using this
    refine wpAny_pyNext_enum_itemD (Draws.tuple (prog := X.prog) (w := X.w) (A := X.A.in1) (I.ok.hd hc) it a hat its.toArray) he ⟨hit, hp⟩ hin hne (fun z => ?_) fun u' h' tk hu' ho hst' hT hsz hk => ?_
    · rcases List.mem_cons.mp z with z | z
      · exact hne z
      · exact hae (List.mem_singleton.mp z).symm
    have eu : u' = u := by
      have h1 : its.toArray[i]? = some u' := hu'
      have h2 : its.toArray[i]? = some u := by simpa using hu
      rw [h1] at h2
      exact Option.some.inj h2
    subst eu
    refine ⟨_, rfl, wpAny_letOwnedTupleGo_enum (s := { s with heap := h', toks := tk + 1 }) ho fun h'' he' sb => ?_⟩
    have hT2 : h''.get? s.heap.objs.size = some { cls := .type "tuple", data := .seq #[.int i tk, u'] } := (sb.2 _ (Nat.ne_of_gt hel)).trans hT
    have new : ObjOk X.prog X.w (upd H s.heap.objs.size (.tup [.int (i : Nat), x])) h'' s.heap.objs.size (.tup [.int (i : Nat), x]) :=
      ⟨by show 2 ≤ sizeLine; decide, [.int i tk, u'], .cons ⟨_, rfl⟩ (.cons ru .nil), ⟨_, hT2, rfl, _, rfl⟩⟩
    have I1 : Inv X pins σ (upd H s.heap.objs.size (.tup [.int (i : Nat), x])) { s with heap := h'', toks := tk + 1 } :=
      I.turnedNew (ch := [e, it]) (fun b ob hb q => (sb.2 b (fun z => hb (by simp [z]))).trans (hk b ob (fun z => hb (by simp [z])) (fun z => hb (by simp [z])) q)) hf (Nat.le_refl _) new
    refine ⟨.ref s.heap.objs.size, _, I1, rfl, ⟨_, x, rfl, I.hok.fresh (Nat.le_refl _), rfl, fun ys hy => by rw [I.tuple_inj hy hq]; exact hx⟩, ⟨⟨u', ?_⟩, hst'.1.at fun o q => (sb.2 it (Ne.symm hne)).trans q, hne, hae⟩, fun b hb => ?_⟩
    · have e1 : ((i + 1 : Nat) : Int) = (i : Int) + 1 := by omega
      rw [e1]; exact he'
    · have hb' : b < s.heap.objs.size := by
        have e' : b = e ∨ b = it := by simpa using hb
        rcases e' with z | z
        · rw [z]; exact hel
        · rw [z]; exact hil
      rw [upd_ne (Nat.ne_of_lt hb')]
      exact (hf b hb).1
  done := by
    intro X hP hw hK hc i pins s σ H E I hf st hg
    subst hP hw hK
    obtain ⟨⟨old, he⟩, hit, hne, hae⟩ := st
    obtain ⟨xs, hq, hx⟩ := hg
    obtain ⟨its, rv, p, hz⟩ := I.tuple hq
    obtain ⟨f0, f1, f2, f3, f4, f5⟩ := hf it (by simp)
    have hl := rv.length
    have hp : s.heap.IsTuple a its.toArray := p
    have en : its.toArray.size = i := by
      rw [List.size_toArray, ← hl]
      exact hx
    exact wpAny_pyNext_enum_endD (Draws.tuple (prog := X.prog) (w := X.w) (A := X.A.in1) (I.ok.hd hc) it a hat its.toArray) he (by rw [en]; exact ⟨hit, hp⟩) fun h' eb => ⟨rfl, I.turned (t' := s.toks) (fun b o hb q => eb b o hb q) f0 f1 f3 f4 f5⟩
  self := fun A i s Q E st h => let ⟨⟨_, he⟩, _⟩ := st; wpAny_pyIter_enum he h
section
open AutoSeq1 (wpAny_loadPart')
theorem meets_enumT (l : Addr) (items : Array Value) (n : Nat) (dct : Option Addr) (sl : Array (Option Value)) :
    Meets (Builtin.«enumerate.__new__» ⟨[.type "enumerate", .ref l], []⟩) (fun _ R s => s.heap.get? l = some { cls := .type "tuple", dict := dct, data := .seq items n, slots := sl } ∧
      R (.ok (.ret (.ref (s.heap.push { cls := .type "tuple_iterator", data := .fields #[.ref l, .int 0 0] }).objs.size)))
        { s with heap := (s.heap.push { cls := .type "tuple_iterator", data := .fields #[.ref l, .int 0 0] }).push { cls := .type "enumerate", data := .fields #[.none, .bool false, .ref s.heap.objs.size, rawInt 0, .none, .none] } }) :=
  .of_wp fun prog w A R s h => by
    obtain ⟨hp, g, d, tk, os⟩ := s; obtain ⟨hl, h⟩ := h
    have hsub := sub_enumerate
    have hL : Heap.IsTuple (Shared.heap ⟨hp, g, d, tk, os⟩) l items := ⟨_, hl, rfl, n, rfl⟩
    wp_walk using wpAny_loadPart' hl
    refine wpAny_stack_any fun st => wpAny_pure ?_
    split
    · rename_i c _ _ _ _ _
      cases (c == Value.type "enumerate")
      · wp_walk using wpAny_loadPart' hl, wpAny_pyIter_tuple hL
        exact ⟨_, rfl, h⟩
      · wp_walk using wpAny_loadPart' hl, wpAny_pyIter_tuple hL
        exact ⟨_, rfl, h⟩
    · wp_walk using wpAny_loadPart' hl, wpAny_pyIter_tuple hL
      exact ⟨_, rfl, h⟩
theorem call_enumT {prog : Program} {w : World} {A : Around} {E : Value → Shared → Prop} {s : Shared} {l : Addr} {items : Array Value} {Q : Value → Shared → Prop} (hL : s.heap.IsTuple l items)
    (h : ∀ h', IsEnum h' (s.heap.objs.size + 1) s.heap.objs.size 0 .none → h'.IsTupleIter s.heap.objs.size l 0 → h'.objs.size = s.heap.objs.size + 2 →
      (∀ b o, s.heap.get? b = some o → h'.get? b = some o) → Q (.ref (s.heap.objs.size + 1)) { s with heap := h' }) :
    wpAny (model prog w) A (call (.type "enumerate") [.ref l]) Q E s := by
  obtain ⟨⟨c, dct, dt, sl⟩, hl, hc, n, hd⟩ := hL
  replace hc : c = .type "tuple" := hc
  replace hd : dt = .seq items n := hd
  subst hc hd
  refine callType_new F.called_enumerate (by decide) (F.typeCall_enumerate_1 _) (F.newCall_enumerate_1 _) (fun obj => F.args_object_init_2 obj _) F.entry_enumerate_new
    (meets_enumT l items n dct sl) ⟨hl, ?_⟩
  have hz : (s.heap.push { cls := .type "tuple_iterator", data := .fields #[.ref l, .int 0 0] }).objs.size = s.heap.objs.size + 1 := Heap.size_push ..
  show _ ∧ _
  rw [hz]
  have he : IsEnum ((s.heap.push { cls := .type "tuple_iterator", data := .fields #[.ref l, .int 0 0] }).push
      { cls := .type "enumerate", data := .fields #[.none, .bool false, .ref s.heap.objs.size, rawInt 0, .none, .none] }) (s.heap.objs.size + 1) s.heap.objs.size 0 .none := by
    have := Heap.get?_push_size (s.heap.push { cls := .type "tuple_iterator", data := .fields #[.ref l, .int 0 0] })
      (o := { cls := .type "enumerate", data := .fields #[.none, .bool false, .ref s.heap.objs.size, rawInt 0, .none, .none] }) rfl
    rw [hz] at this; exact this
  refine ⟨⟨_, he, rfl⟩, h _ he ⟨_, Heap.get?_push_of_some _ (Heap.get?_push_size _ rfl), rfl, rfl⟩ (by rw [Heap.size_push, hz]) fun b o x => Heap.get?_push_of_some _ (Heap.get?_push_of_some _ x)⟩
end
/-- enumerate of a list or a tuple -/
def iEnumA (K : PySem.W.Frag) (ta : TA) : TI := fun σ H R => ta σ H fun vs H1 => ∃ a xs, vs = [.ref a] ∧ ((SqL K H1 a xs ∧ R (Ite K a) H1) ∨ (SqT K H1 a xs ∧ R (IteT K a) H1))
theorem pi_enumA {X : Cx} {e : Expr} {ta : TA} {p pos tpos : Pos} {elts : List Expr} {kk : Nat} (hg : Gl X "enumerate") (hm : X.mg "enumerate" = none) (ha : PA X [e] ta) (hs : starEach [e] X.env = [(false, eval e X.env)] := by rfl) :
    PI X (.Tuple elts kk tpos) (.Call (.Name "enumerate" p) [e] [] pos) (iEnumA X.K ta) := by
  refine ⟨fun pins s σ H R I h => ?_⟩
  refine Call_ (ld_blt I hg hm boot_enumerate (PyProof.Rows.callWith_type1 (thn (ha.run pos pins s σ H _ I h) fun us s1 ⟨vs, H1, I1, r1, q1⟩ => ?_) hs rfl))
  obtain ⟨a, xs, ex, q⟩ := q1
  subst ex
  cases r1 with
  | cons r rr =>
    cases rr
    cases r
    rcases q with ⟨hq, q⟩ | ⟨hq, q⟩
    · obtain ⟨its, rv, p', hz⟩ := I1.list hq
      refine call_enumerate_list p'.isList fun h' he hit hsz hk => wpAny_pyIter_enum he ?_
      have I2 : Inv X pins σ H1 { s1 with heap := h' } := I1.kept (t' := s1.toks) hk
      refine ⟨s1.heap.objs.size + 1, [s1.heap.objs.size + 1, s1.heap.objs.size], _, _, H1, rfl, I2, turn_enum a (s1.heap.objs.size + 1) s1.heap.objs.size, ⟨⟨.none, he⟩, hit, Nat.succ_ne_self _⟩, fun b hb => ?_, q⟩
      have e' : b = s1.heap.objs.size + 1 ∨ b = s1.heap.objs.size := by simpa using hb
      have hle : s1.heap.objs.size ≤ b := by
        rcases e' with z | z
        · rw [z]; exact Nat.le_add_right _ _
        · rw [z]; exact Nat.le_refl _
      exact I1.fpOk hle (I1.hok.fresh hle)
    · obtain ⟨its, rv, p', hz⟩ := I1.tuple hq
      have hp : s1.heap.IsTuple a its.toArray := p'
      have hlt : a < s1.heap.objs.size := by
        obtain ⟨o, eo, _⟩ := p'
        exact Heap.lt_size eo
      have hna : a ≠ s1.heap.objs.size := Nat.ne_of_lt hlt
      have hna1 : a ≠ s1.heap.objs.size + 1 := Nat.ne_of_lt (Nat.lt_succ_of_lt hlt)
      refine call_enumT hp fun h' he hit hsz hk => wpAny_pyIter_enum he ?_
      have I2 : Inv X pins σ H1 { s1 with heap := h' } := I1.kept (t' := s1.toks) hk
      refine ⟨s1.heap.objs.size + 1, [s1.heap.objs.size + 1, s1.heap.objs.size], _, _, H1, rfl, I2, turn_enumT a (s1.heap.objs.size + 1) s1.heap.objs.size hna, ⟨⟨.none, he⟩, hit, Nat.succ_ne_self _, hna1⟩, fun b hb => ?_, q⟩
      have e' : b = s1.heap.objs.size + 1 ∨ b = s1.heap.objs.size := by simpa using hb
      have hle : s1.heap.objs.size ≤ b := by
        rcases e' with z | z
        · rw [z]; exact Nat.le_add_right _ _
        · rw [z]; exact Nat.le_refl _
      exact I1.fpOk hle (I1.hok.fresh hle)
/-! ### e as it is: a list, a tuple or a text -/
def iAny (K : PySem.W.Frag) (te : TE) : TI := fun σ H R => te σ H fun x H1 => (∃ a xs, x = .ref a ∧ ((SqL K H1 a xs ∧ R (Itl K a) H1) ∨ (SqT K H1 a xs ∧ R (Itt K a) H1)))
theorem pi_any {X : Cx} {tg l : Expr} {tl : TE} (hl : PE X l tl) : PI X tg l (iAny X.K tl) := by
  refine ⟨fun pins s σ H R I h => ?_⟩
  refine thn (hl.run pins s σ H _ I h) fun v s1 ⟨x, H1, I1, r1, q1⟩ => ?_
  obtain ⟨a, xs, e, q⟩ := q1
  subst e
  cases r1
  rcases q with ⟨hq, q⟩ | ⟨hq, q⟩
  · obtain ⟨its, rv, p, hz⟩ := I1.list hq
    refine wpAny_pyIter_list p.isList ?_
    refine ⟨s1.heap.objs.size, [s1.heap.objs.size], _, _, H1, rfl, I1.kept (t' := s1.toks) fun b o e => Heap.get?_push_of_some _ e, turn_list a _, ⟨_, Heap.get?_push_size _ rfl, rfl, rfl⟩, fun b hb => ?_, q⟩
    obtain rfl : b = s1.heap.objs.size := by simpa using hb
    exact I1.fpOk (Nat.le_refl _) (I1.hok.fresh (Nat.le_refl _))
  · obtain ⟨its, rv, p, hz⟩ := I1.tuple hq
    refine wpAny_pyIter_tuple (show s1.heap.IsTuple a its.toArray from p) ?_
    refine ⟨s1.heap.objs.size, [s1.heap.objs.size], _, _, H1, rfl, I1.kept (t' := s1.toks) fun b o e => Heap.get?_push_of_some _ e, turn_tuple a _, ⟨_, Heap.get?_push_size _ rfl, rfl, rfl⟩, fun b hb => ?_, q⟩
    obtain rfl : b = s1.heap.objs.size := by simpa using hb
    exact I1.fpOk (Nat.le_refl _) (I1.hok.fresh (Nat.le_refl _))
/-! ### what must stand still while it is walked -/
def lockLn (r : Env) (k : Nat) : List Hold := match r.ln[k]? with
  | some (.live, _) => [.loan k]
  | _ => []
def lockOf (r : Env) : RV → List Hold
  | .slot i => (match r.sl[i]? with
    | some (.own false _) => [.slot i]
    | some (.loan k) => lockLn r k
    | _ => [])
  | .loan k => lockLn r k
  | _ => []
section
variable {B : BC} {L : List Addr} {s0 s : BS}
theorem opn_not (R : Rel B L s) {a : Addr} (h : ¬ MutO (s.w.H a)) : ¬ Opn L s a := fun z => h (R.good a z).2
theorem opn_notF (R : Rel B L s) {a : Addr} (h : s.w.F a) : ¬ Opn L s a := fun z => (R.good a z).1 h
theorem opn_of (R : Rel B L s) {a : Addr} {h : Hold} (e : adr L s h = some a) (n : ¬ isLive s h) : ¬ Opn L s a := fun z => by
  rcases z with ⟨y, l, ey⟩ | z
  · have := R.inj h y a e ey
    subst this
    exact n l
  · obtain ⟨p, o⟩ := held_orep R e
    exact o.2.1 z
theorem loan_safe (R : Rel B L s) {k : Nat} {a : Addr} (hL : L[k]? = some a) {xs : List PV} (e : (s.r.ln[k]?).map (·.2) = some (.lst xs)) : ¬ Opn L s a ∨ ∃ h ∈ lockLn s.r k, adr L s h = some a := by
  cases e1 : s.r.ln[k]? with
  | none => rw [e1] at e; cases e
  | some t =>
    obtain ⟨t, p⟩ := t
    rw [e1] at e
    cases e
    cases t with
    | live => exact .inr ⟨.loan k, by unfold lockLn; rw [e1]; exact List.mem_singleton.mpr rfl, adr_loan e1 (fun z => nomatch z) hL⟩
    | lock => exact .inl (opn_of R (adr_loan e1 (fun z => nomatch z) hL) fun ⟨q, z⟩ => by rw [e1] at z; cases z)
    | froz =>
      have h : Rep B.K s.w (.lst xs) (.ref a) := R.ln k _ a e1 hL
      obtain ⟨b, vs, eb, h, _⟩ := h
      cases eb
      exact .inl (opn_notF R h.2)
theorem lst_safe (R : Rel B L s) {r : RV} {a : Addr} {xs : List PV} (h : RRel B L s0 s r (.ref a)) (e : peek s.r r = some (.lst xs)) : ¬ Opn L s a ∨ ∃ h ∈ lockOf s.r r, adr L s h = some a := by
  cases r with
  | val p =>
    cases e
    obtain ⟨b, vs, eb, h, _⟩ := h
    cases eb
    exact .inl (opn_notF R h.2)
  | fresh p =>
    cases e
    obtain ⟨b, eb, o, n, _⟩ := h
    cases eb
    refine .inl fun z => ?_
    rcases z.held with z | z
    · exact n z
    · exact o.2.1 z
  | loan k =>
    obtain ⟨b, hL, eb⟩ := h
    cases eb
    exact loan_safe R hL e
  | slot i =>
    have h : s.s[i]? = some (some (.ref a)) := h
    have e : slotC s.r i = some (.lst xs) := e
    unfold slotC at e
    split at e
    · rename_i q e1
      cases e
      obtain ⟨v, e2, hr⟩ := R.sl i _ e1
      rw [h] at e2
      cases e2
      obtain ⟨b, vs, eb, hr, _⟩ := hr
      cases eb
      exact .inl (opn_notF R hr.2)
    · rename_i l q e1
      cases e
      cases l with
      | false => exact .inr ⟨.slot i, by unfold lockOf; simp only [e1]; exact List.mem_singleton.mpr rfl, adr_slot e1 h⟩
      | true => exact .inl (opn_of R (adr_slot e1 h) fun ⟨q, z⟩ => by rw [e1] at z; cases z)
    · rename_i k e1
      obtain ⟨b, hL, e2⟩ := R.sl i _ e1
      rw [h] at e2
      cases e2
      refine (loan_safe R hL e).imp id fun ⟨h, hm, ha⟩ => ⟨h, ?_, ha⟩
      unfold lockOf
      simp only [e1]
      exact hm
    · cases e
theorem lock_live (R : Rel B L s) {r : RV} : ∀ h ∈ lockOf s.r r, isLive s h := by
  have ln : ∀ k, ∀ h ∈ lockLn s.r k, isLive s h := fun k h hm => by
    unfold lockLn at hm
    split at hm
    · rename_i q e
      cases List.mem_singleton.mp hm
      exact ⟨q, e⟩
    · cases hm
  intro h hm
  cases r with
  | val p => cases hm
  | fresh p => cases hm
  | loan k => exact ln k h hm
  | slot i =>
    unfold lockOf at hm
    dsimp only at hm
    split at hm
    · rename_i q e
      cases List.mem_singleton.mp hm
      exact ⟨q, e⟩
    · exact ln _ h hm
    · cases hm
/-- the safe reading of a list or a tuple while only other things change -/
def Safe (B : BC) (L : List Addr) (s : BS) (lk : List Hold) (as : List Addr) : Prop := ∀ b ∈ as, (∃ o, s.w.H b = some o) ∧ (¬ Opn L s b ∨ ∃ h ∈ lk, adr L s h = some b)
theorem Safe.nil {lk : List Hold} : Safe B L s lk [] := fun b h => nomatch h
theorem Safe.append {lk lk' : List Hold} {as bs : List Addr} (h : Safe B L s lk as) (h' : Safe B L s lk' bs) : Safe B L s (lk ++ lk') (as ++ bs) := fun b hb => by
  rcases List.mem_append.mp hb with z | z
  · obtain ⟨h1, h2⟩ := h b z
    exact ⟨h1, h2.imp id fun ⟨x, hx, e⟩ => ⟨x, List.mem_append_left _ hx, e⟩⟩
  · obtain ⟨h1, h2⟩ := h' b z
    exact ⟨h1, h2.imp id fun ⟨x, hx, e⟩ => ⟨x, List.mem_append_right _ hx, e⟩⟩
theorem seq_safe (R : Rel B L s) {r : RV} {v : V} {p : PV} {xs : List PV} (h : RRel B L s0 s r v) (e : peek s.r r = some p) (e2 : seqOf p = some xs) :
    ∃ a vs as, v = .ref a ∧ Reps B.K s.w xs vs ∧ Safe B L s (lockOf s.r r) as ∧ ((lstOf p ≠ none ∧ ∀ H', (∀ b ∈ as, H' b = s.w.H b) → SqL B.K H' a vs) ∨ (lstOf p = none ∧ ∀ H', (∀ b ∈ as, H' b = s.w.H b) → SqT B.K H' a vs)) := by
  have c := peek_con R h e
  have one : ∀ {a : Addr} {o : HO} {lk : List Hold}, s.w.H a = some o → ¬ MutO (some o) → Safe B L s lk [a] := fun {a o lk} ho hm b hb => by
    cases List.mem_singleton.mp hb
    exact ⟨⟨o, ho⟩, .inl (opn_not R (by rw [ho]; exact hm))⟩
  have k1 : ∀ {a : Addr} {H' : Hp}, (∀ b ∈ [a], H' b = s.w.H b) → H' a = s.w.H a := fun h => h _ (List.mem_singleton.mpr rfl)
  cases p with
  | tup ys =>
    cases e2
    obtain ⟨a, vs, rfl, hq, rs⟩ := con_tup c
    rcases hq with (hq | ⟨o, hq⟩) | hq
    · exact ⟨a, vs, [a], rfl, rs, one hq id, .inr ⟨rfl, fun H' k => .inl (.inl ((k1 k).trans hq))⟩⟩
    · exact ⟨a, vs, [a], rfl, rs, one hq id, .inr ⟨rfl, fun H' k => .inl (.inr ⟨o, (k1 k).trans hq⟩)⟩⟩
    · exact ⟨a, vs, [], rfl, rs, Safe.nil, .inr ⟨rfl, fun H' k => .inr hq⟩⟩
  | scr ns =>
    cases e2
    obtain ⟨a, rfl, hq⟩ := c
    rcases hq with ⟨o, hq⟩ | hq
    · exact ⟨a, _, [a], rfl, reps_ints ns, one hq id, .inl ⟨(fun z => nomatch z), fun H' k => .inl (.inr ⟨o, (k1 k).trans hq⟩)⟩⟩
    · exact ⟨a, _, [], rfl, reps_ints ns, Safe.nil, .inl ⟨(fun z => nomatch z), fun H' k => .inr hq⟩⟩
  | lst ys =>
    cases e2
    obtain ⟨a, vs, rfl, hq, rs⟩ := c
    refine ⟨a, vs, [a], rfl, rs, fun b hb => ?_, .inl ⟨(fun z => nomatch z), fun H' k => .inl (.inl ((k1 k).trans hq))⟩⟩
    cases List.mem_singleton.mp hb
    exact ⟨⟨_, hq⟩, lst_safe R h e⟩
  | _ => cases e2
end
/-- e as it is -/
def itSeq (m : M RV) : M ItD := m.bind fun x => fun r => match (peek r x).bind seqOf with
  | some xs => .ok ⟨xs, lockOf r x⟩ r
  | none => .no
section
variable {X : Cx} {B : BC} {W : WX} {e e2 tg : Expr} {m : M RV} {ms : M (List RV)} {p pos tpos : Pos} {elts : List Expr} {kk : Nat}
theorem bi_any (hK : X.K = B.K) (he : PE X e (tB B W m)) : PI X tg e (tG RIt B W (itSeq m)) := by
  refine ⟨fun pins s σ H R I h => (pi_any (tg := tg) he).run pins s σ H R I ?_⟩
  refine (tG.bind (T := RRel) h).mono fun x H1 q => ?_
  obtain ⟨L, s0, s, r1, e1, rfl, R0, A, h1, P⟩ := q
  split at P
  · rename_i xs e2
    obtain ⟨p, e2, e3⟩ := Option.bind_eq_some_iff.mp e2
    obtain ⟨a, vs, as, rfl, rs, sf, hq⟩ := seq_safe A.rel h1 e2 e3
    rw [hK]
    rcases hq with ⟨_, hq⟩ | ⟨_, hq⟩
    · refine ⟨a, vs, rfl, .inl ⟨hq _ fun _ _ => rfl, P.fin A ⟨_, _, as, (by rw [rs.length]; exact walk_list), fun H' k => hq H' k, sf, lock_live A.rel, yok_at rs⟩⟩⟩
    · refine ⟨a, vs, rfl, .inr ⟨hq _ fun _ _ => rfl, P.fin A ⟨_, _, as, (by rw [rs.length]; exact walk_tup), fun H' k => hq H' k, sf, lock_live A.rel, yok_at rs⟩⟩⟩
  · exact P.elim
/-! ### enumerate -/
def enumP : Nat → List PV → List PV
  | _, [] => []
  | i, x :: r => .tup [.int (i : Nat), x] :: enumP (i + 1) r
theorem enumP_length : ∀ (xs : List PV) (i : Nat), (enumP i xs).length = xs.length
  | [], _ => rfl
  | _ :: r, i => congrArg (· + 1) (enumP_length r (i + 1))
theorem enumP_get : ∀ (xs : List PV) (k i : Nat) (p : PV), (enumP k xs)[i]? = some p → ∃ x, xs[i]? = some x ∧ p = .tup [.int ((k + i : Nat) : Int), x]
  | [], k, i, p, h => by cases h
  | x :: r, k, 0, p, h => by
    cases h
    exact ⟨x, rfl, rfl⟩
  | x :: r, k, i + 1, p, h => by
    obtain ⟨y, h1, h2⟩ := enumP_get r (k + 1) i p (by simpa [enumP] using h)
    refine ⟨y, by simpa using h1, ?_⟩
    rw [h2, show k + 1 + i = k + (i + 1) by omega]
def itEnum (m : M RV) : M ItD := m.bind fun x => fun r => match (peek r x).bind seqOf with
  | some xs => .ok ⟨enumP 0 xs, lockOf r x⟩ r
  | none => .no
theorem walk_enumT {K : PySem.W.Frag} {a : Addr} {xs : List V} : Walk (IteT K a) xs.length (fun H => SqT K H a xs) (YPair (fun i => some (.int (i : Nat))) (fun i => xs[i]?)) := by
  refine ⟨fun i _ hi q => ⟨xs, xs[i], q, by simp [hi]⟩, fun _ q => ⟨xs, q, rfl⟩, fun i H v H' _ q y => ?_⟩
  obtain ⟨T, x, h1, h2, h3, h4⟩ := y
  exact ⟨T, .int (i : Nat), x, h1, h2, h3, rfl, h4 xs q⟩
theorem yok_enum {s : BS} {xs : List PV} {vs : List V} (rs : Reps B.K s.w xs vs) : Yok B s (YPair (fun i => some (.int (i : Nat))) (fun i => vs[i]?)) (enumP 0 xs) :=
  yok_pair (n := 0) fun i p e => by
    obtain ⟨x, h1, rfl⟩ := enumP_get xs 0 i p e
    refine ⟨_, _, rfl, fun v hv => ?_, fun v hv => ?_⟩
    · cases hv
      rw [Nat.zero_add]
      exact rfl
    · obtain ⟨u, hu, hr⟩ := rs.get h1
      rw [hv] at hu
      cases hu
      exact hr
theorem bi_enum (hK : X.K = B.K) (hg : Gl X "enumerate") (hm : X.mg "enumerate" = none) (he : PE X e (tB B W m)) (hs : starEach [e] X.env = [(false, eval e X.env)] := by rfl) (hs2 : starEach [e] X.env = (false, eval e X.env) :: starEach [] X.env := by rfl) :
    PI X (.Tuple elts kk tpos) (.Call (.Name "enumerate" p) [e] [] pos) (tG RIt B W (itEnum m)) := by
  refine ⟨fun pins s σ H R I h => (pi_enumA (tpos := tpos) (elts := elts) (kk := kk) hg hm (pa_cons he pa_nil hs2) hs).run pins s σ H R I ?_⟩
  refine (tG.bind (T := RRel) h).mono fun x H1 q => ?_
  obtain ⟨L, s0, s, r1, e1, rfl, R0, A, h1, P⟩ := q
  split at P
  · rename_i xs e2
    obtain ⟨p, e2, e3⟩ := Option.bind_eq_some_iff.mp e2
    obtain ⟨a, vs, as, rfl, rs, sf, hq⟩ := seq_safe A.rel h1 e2 e3
    rw [hK]
    have hl : (enumP 0 xs).length = vs.length := by rw [enumP_length]; exact rs.length
    rcases hq with ⟨_, hq⟩ | ⟨_, hq⟩
    · refine ⟨a, vs, rfl, .inl ⟨hq _ fun _ _ => rfl, P.fin A ⟨_, _, as, (by show Walk _ (enumP 0 xs).length _ _; rw [hl]; exact walk_enum), fun H' k => hq H' k, sf, lock_live A.rel, yok_enum rs⟩⟩⟩
    · refine ⟨a, vs, rfl, .inr ⟨hq _ fun _ _ => rfl, P.fin A ⟨_, _, as, (by show Walk _ (enumP 0 xs).length _ _; rw [hl]; exact walk_enumT), fun H' k => hq H' k, sf, lock_live A.rel, yok_enum rs⟩⟩⟩
  · exact P.elim
/-! ### range -/
def rgIt (lo : Int) (n : Nat) (c : Int) : List PV := (List.range n).map fun i => .int (lo + (i : Nat) * c)
def okB (i : Int) : Bool := @decide (-(2 ^ 62) ≤ i ∧ i < 2 ^ 62) (Classical.propDecidable _)
theorem okB_in {i : Int} (h1 : -1000000000 ≤ i) (h2 : i ≤ 1000000000) : okB i = true := @decide_eq_true _ (Classical.propDecidable _) ⟨by omega, by omega⟩
theorem okB_of {i : Int} (h : okB i = true) : -(2 ^ 62) ≤ i ∧ i < 2 ^ 62 := by
  have := @of_decide_eq_true _ (Classical.propDecidable _) h
  exact this
def rng1F : List PV → Option (List PV)
  | [.int j] => @ite _ (okB j = true) (Classical.propDecidable _) (some (rgIt 0 j.toNat 1)) none
  | _ => none
def rng2F : List PV → Option (List PV)
  | [.int i, .int j] => @ite _ (okB i = true ∧ okB j = true) (Classical.propDecidable _) (some (rgIt i (j - i).toNat 1)) none
  | _ => none
def rng3F : List PV → Option (List PV)
  | [.int i, .int j, .int c] => @ite _ (okB i = true ∧ okB j = true ∧ c = -1) (Classical.propDecidable _) (some (rgIt i (i - j).toNat (-1))) none
  | _ => none
def itRng (f : List PV → Option (List PV)) (ms : M (List RV)) : M ItD := ms.bind fun rs => fun r => match (peeks r rs).bind f with
  | some xs => .ok ⟨xs, []⟩ r
  | none => .no
theorem yok_fn {s : BS} {f : Nat → V} {xs : List PV} (h : ∀ i p, xs[i]? = some p → ∀ w, Rep B.K w p (f i)) : Yok B s (YFn f) xs := by
  intro L s' i p x H' R k e y
  obtain ⟨rfl, rfl⟩ := y
  exact ⟨s'.w, rfl, .refl R, h i p e _⟩
theorem rgIt_get {lo c : Int} {n i : Nat} {p : PV} (h : (rgIt lo n c)[i]? = some p) : p = .int (lo + (i : Nat) * c) := by
  unfold rgIt at h
  rw [List.getElem?_map] at h
  obtain ⟨j, h1, rfl⟩ := Option.map_eq_some_iff.mp h
  obtain ⟨hj, h1⟩ := List.getElem?_eq_some_iff.mp h1
  rw [List.getElem_range] at h1
  subst h1
  rfl
theorem rng_go {L : List Addr} {s0 s : BS} {R : It → Hp → Prop} {lo : Int} {n : Nat} (A : At B L s0 s) (P : Post RIt B L W s0 R (.ok ⟨rgIt lo n 1, []⟩ s.r)) : R (Itr lo n) s.w.H := by
  refine P.fin A ⟨fun _ => True, _, [], (by show Walk _ (rgIt lo n 1).length _ _; unfold rgIt; rw [List.length_map, List.length_range]; exact walk_range), fun _ _ => trivial, Safe.nil (B := B), (fun h hm => nomatch hm), yok_fn fun i p e w => ?_⟩
  rw [rgIt_get e, Int.mul_one]
  exact rfl
theorem bi_range1 {a : Expr} (hg : Gl X "range") (hm : X.mg "range" = none) (ha : PA X [a] (tA B W ms)) (hs : starEach [a] X.env = [(false, eval a X.env)] := by rfl) : PI X tg (.Call (.Name "range" p) [a] [] pos) (tG RIt B W (itRng rng1F ms)) := by
  refine ⟨fun pins s σ H R I h => (pi_range1 (tg := tg) hg hm ha hs).run pins s σ H R I ?_⟩
  refine (tG.bind (T := RRels) h).mono fun x H1 q => ?_
  obtain ⟨L, s0, s, r1, e1, rfl, R0, A, h1, P⟩ := q
  split at P
  · rename_i xs e2
    obtain ⟨ps, e2, e3⟩ := Option.bind_eq_some_iff.mp e2
    have c := peeks_con A.rel h1.1 e2
    unfold rng1F at e3
    split at e3
    · rename_i j
      split at e3
      · rename_i hz
        cases e3
        obtain ⟨y, rfl, c1⟩ := c.one
        cases (show y = .int j from c1)
        obtain ⟨z1, z2⟩ := okB_of hz
        exact ⟨j, rfl, z1, z2, rng_go A P⟩
      · cases e3
    · cases e3
  · exact P.elim
theorem bi_range2 {a b : Expr} (hg : Gl X "range") (hm : X.mg "range" = none) (ha : PA X [a, b] (tA B W ms)) (hs : starEach [a, b] X.env = [(false, eval a X.env), (false, eval b X.env)] := by rfl) (hs2 : starEach [b] X.env = [(false, eval b X.env)] := by rfl) :
    PI X tg (.Call (.Name "range" p) [a, b] [] pos) (tG RIt B W (itRng rng2F ms)) := by
  refine ⟨fun pins s σ H R I h => (pi_range2 (tg := tg) hg hm ha hs hs2).run pins s σ H R I ?_⟩
  refine (tG.bind (T := RRels) h).mono fun x H1 q => ?_
  obtain ⟨L, s0, s, r1, e1, rfl, R0, A, h1, P⟩ := q
  split at P
  · rename_i xs e2
    obtain ⟨ps, e2, e3⟩ := Option.bind_eq_some_iff.mp e2
    have c := peeks_con A.rel h1.1 e2
    unfold rng2F at e3
    split at e3
    · rename_i i j
      split at e3
      · rename_i hz
        cases e3
        obtain ⟨y, y2, rfl, c1, c2⟩ := c.two
        cases (show y = .int i from c1)
        cases (show y2 = .int j from c2)
        obtain ⟨z1, z2⟩ := okB_of hz.1
        obtain ⟨z3, z4⟩ := okB_of hz.2
        exact ⟨i, j, rfl, ⟨z1, z2, z3, z4⟩, rng_go A P⟩
      · cases e3
    · cases e3
  · exact P.elim
theorem bi_range3 {a b c : Expr} (hg : Gl X "range") (hm : X.mg "range" = none) (ha : PA X [a, b, c] (tA B W ms)) (hs : starEach [a, b, c] X.env = (false, eval a X.env) :: starEach [b, c] X.env := by rfl) (hpl : (backTo pos (starEach [b, c] X.env)).any (·.1) = false := by rfl) :
    PI X tg (.Call (.Name "range" p) [a, b, c] [] pos) (tG RIt B W (itRng rng3F ms)) := by
  refine ⟨fun pins s σ H R I h => (pi_range3 (tg := tg) hg hm ha hs hpl).run pins s σ H R I ?_⟩
  refine (tG.bind (T := RRels) h).mono fun x H1 q => ?_
  obtain ⟨L, s0, s, r1, e1, rfl, R0, A, h1, P⟩ := q
  split at P
  · rename_i xs e2
    obtain ⟨ps, e2, e3⟩ := Option.bind_eq_some_iff.mp e2
    have c := peeks_con A.rel h1.1 e2
    unfold rng3F at e3
    split at e3
    · rename_i i j k
      split at e3
      · rename_i hz
        cases e3
        obtain ⟨y, y2, y3, rfl, c1, c2, c3⟩ := c.three
        obtain ⟨z1, z2, rfl⟩ := hz
        cases (show y = .int i from c1)
        cases (show y2 = .int j from c2)
        cases (show y3 = .int (-1) from c3)
        obtain ⟨z1, z1'⟩ := okB_of z1
        obtain ⟨z2, z2'⟩ := okB_of z2
        refine ⟨i, j, -1, (i - j).toNat, rfl, RgC.neg z1 z1' z2 z2', ?_⟩
        refine P.fin A ⟨fun _ => True, _, [], (by show Walk _ (rgIt i (i - j).toNat (-1)).length _ _; unfold rgIt; rw [List.length_map, List.length_range]; exact walk_rangeC), fun _ _ => trivial, Safe.nil (B := B), (fun h hm => nomatch hm), yok_fn fun i p e w => ?_⟩
        rw [rgIt_get e]
        exact rfl
      · cases e3
    · cases e3
  · exact P.elim
/-! ### reversed(x), x a list or a tuple -/
def itRev (m : M RV) : M ItD := m.bind fun x => fun r => match (peek r x).bind seqOf with
  | some xs => .ok ⟨xs.reverse, lockOf r x⟩ r
  | none => .no
theorem walk_revT {K : PySem.W.Frag} {a : Addr} {xs : List V} : Walk (RT.ItvT K a xs.length) xs.length (fun H => SqT K H a xs) (fun i H x H' => H' = H ∧ xs[xs.length - 1 - i]? = some x) :=
  ⟨fun i _ hi q => ⟨hi, xs, xs[xs.length - 1 - i]'(by omega), q, by simp [show xs.length - 1 - i < xs.length by omega]⟩, fun _ _ => Nat.le_refl _, fun _ _ _ _ _ q y => ⟨y.1, y.2 xs q⟩⟩
theorem yok_rev {s : BS} {xs : List PV} {vs : List V} (rs : Reps B.K s.w xs vs) : Yok B s (fun i H x H' => H' = H ∧ vs[vs.length - 1 - i]? = some x) xs.reverse := by
  intro L s' i p x H' R k e y
  obtain ⟨rfl, y⟩ := y
  have hi : i < xs.length := by
    have := (List.getElem?_eq_some_iff.mp e).1
    rwa [List.length_reverse] at this
  rw [List.getElem?_reverse hi] at e
  obtain ⟨v, hv, hr⟩ := rs.get e
  rw [rs.length] at hv
  rw [hv] at y
  cases y
  exact ⟨s'.w, rfl, .refl R, k _ _ hr⟩
theorem bi_rev (hK : X.K = B.K) (hg : Gl X "reversed") (hm : X.mg "reversed" = none) (he : PE X e (tB B W m)) (hs : starEach [e] X.env = (false, eval e X.env) :: starEach [] X.env := by rfl) : PI X tg (.Call (.Name "reversed" p) [e] [] pos) (tG RIt B W (itRev m)) := by
  refine ⟨fun pins s σ H R I h => (RT.pi_revA (tg := tg) hg hm he hs).run pins s σ H R I ?_⟩
  refine (tG.bind (T := RRel) h).mono fun x H1 q => ?_
  obtain ⟨L, s0, s, r1, e1, rfl, R0, A, h1, P⟩ := q
  split at P
  · rename_i xs e2
    obtain ⟨p, e2, e3⟩ := Option.bind_eq_some_iff.mp e2
    obtain ⟨a, vs, as, rfl, rs, sf, hq⟩ := seq_safe A.rel h1 e2 e3
    rw [hK]
    have hl : xs.reverse.length = vs.length := by rw [List.length_reverse]; exact rs.length
    rcases hq with ⟨_, hq⟩ | ⟨_, hq⟩
    · exact ⟨a, vs, rfl, .inl ⟨hq _ fun _ _ => rfl, P.fin A ⟨_, _, as, (by show Walk _ xs.reverse.length _ _; rw [hl]; exact walk_rev), fun H' k => hq H' k, sf, lock_live A.rel, yok_rev rs⟩⟩⟩
    · exact ⟨a, vs, rfl, .inr ⟨hq _ fun _ _ => rfl, P.fin A ⟨_, _, as, (by show Walk _ xs.reverse.length _ _; rw [hl]; exact walk_revT), fun H' k => hq H' k, sf, lock_live A.rel, yok_rev rs⟩⟩⟩
  · exact P.elim
/-! ### zip of two lists, of two tuples -/
def zipP : List PV → List PV → List PV
  | x :: xs, y :: ys => .tup [x, y] :: zipP xs ys
  | _, _ => []
theorem zipP_length : ∀ xs ys : List PV, (zipP xs ys).length = min xs.length ys.length
  | [], _ => by simp [zipP]
  | _ :: _, [] => by simp [zipP]
  | _ :: xs, _ :: ys => by
    show (zipP xs ys).length + 1 = min (xs.length + 1) (ys.length + 1)
    rw [zipP_length xs ys]
    omega
theorem zipP_get : ∀ (xs ys : List PV) (i : Nat) (p : PV), (zipP xs ys)[i]? = some p → ∃ x y, xs[i]? = some x ∧ ys[i]? = some y ∧ p = .tup [x, y]
  | [], _, _, _, h => by cases h
  | _ :: _, [], _, _, h => by cases h
  | x :: xs, y :: ys, 0, p, h => by
    cases h
    exact ⟨x, y, rfl, rfl, rfl⟩
  | x :: xs, y :: ys, i + 1, p, h => by
    obtain ⟨a, b, h1, h2, h3⟩ := zipP_get xs ys i p (by simpa [zipP] using h)
    exact ⟨a, b, by simpa using h1, by simpa using h2, h3⟩
def isL (p : PV) : Bool := (lstOf p).isSome
def itZip (m n : M RV) : M ItD := m.bind fun x => n.bind fun y => fun r => match peek r x, peek r y with
  | some p, some q => (match seqOf p, seqOf q with
    | some xs, some ys => if isL p = isL q then .ok ⟨zipP xs ys, lockOf r x ++ lockOf r y⟩ r else .no
    | _, _ => .no)
  | _, _ => .no
theorem walk_zipT {K : PySem.W.Frag} {a b : Addr} {xs ys : List V} {n : Nat} (hn : n = min xs.length ys.length) : Walk (RZ.ItzT K a b) n (fun H => SqT K H a xs ∧ SqT K H b ys) (YPair (fun i => xs[i]?) (fun i => ys[i]?)) := by
  subst hn
  refine ⟨fun i _ hi q => ?_, fun _ q => ⟨xs, ys, q.1, q.2, by omega⟩, fun i H v H' _ q y => ?_⟩
  · have h1 : i < xs.length := by omega
    have h2 : i < ys.length := by omega
    exact ⟨xs, ys, xs[i], ys[i], q.1, q.2, by simp [h1], by simp [h2]⟩
  · obtain ⟨T, x, z, h1, h2, h3, h4, h5⟩ := y
    exact ⟨T, x, z, h1, h2, h3, h4 xs q.1, h5 ys q.2⟩
theorem bi_zip {n : M RV} (hK : X.K = B.K) (hg : Gl X "zip") (hm : X.mg "zip" = none) (he : PE X e (tB B W m)) (he2 : PE X e2 (tB B W n)) (hs : starEach [e, e2] X.env = (false, eval e X.env) :: starEach [e2] X.env := by rfl) (hs2 : starEach [e2] X.env = (false, eval e2 X.env) :: starEach [] X.env := by rfl)
    (hpl : (backTo pos (starEach [e2] X.env)).any (·.1) = false := by rfl) : PI X (.Tuple elts kk tpos) (.Call (.Name "zip" p) [e, e2] [] pos) (tG RIt B W (itZip m n)) := by
  refine ⟨fun pins s σ H R I h => (RZ.pi_zipA (tpos := tpos) (elts := elts) (kk := kk) hg hm (pa_cons he (pa_cons he2 pa_nil hs2) hs) hs hpl).run pins s σ H R I ?_⟩
  refine (tG.bind (T := RRel) h).mono fun x H1 q => ?_
  obtain ⟨L, s0, s, r1, rfl, rfl, R0, A, h1, P⟩ := q
  refine (Post.bind (T := RRel) R0 A P).mono fun y H2 q => ?_
  obtain ⟨s2, r2, rfl, A2, h2, P⟩ := q
  have h1 := h1.at A2 A.rel
  have A := A.trans A2
  split at P
  · rename_i p q e1 e2
    split at P
    · rename_i xs ys e3 e4
      split at P
      · rename_i hk
        obtain ⟨a, vs, as, rfl, rs, sf, hq⟩ := seq_safe A.rel h1 e1 e3
        obtain ⟨b, us, bs, rfl, rs2, sf2, hq2⟩ := seq_safe A2.rel h2 e2 e4
        rw [hK]
        have kl : ∀ {H' : Hp}, (∀ c ∈ as ++ bs, H' c = s2.w.H c) → (∀ c ∈ as, H' c = s2.w.H c) ∧ ∀ c ∈ bs, H' c = s2.w.H c := fun h => ⟨fun c hc => h c (List.mem_append_left _ hc), fun c hc => h c (List.mem_append_right _ hc)⟩
        have hl : (zipP xs ys).length = min vs.length us.length := by rw [zipP_length, rs.length, rs2.length]
        have lv : ∀ h ∈ lockOf s2.r r1 ++ lockOf s2.r r2, isLive s2 h := fun h hm => (List.mem_append.mp hm).elim (lock_live A.rel h) (lock_live A2.rel h)
        have yo : Yok B s2 (YPair (fun i => vs[i]?) (fun i => us[i]?)) (zipP xs ys) := yok_pair (n := 0) fun i p e => by
          obtain ⟨x, y, g1, g2, rfl⟩ := zipP_get xs ys i p e
          obtain ⟨u1, k1, k2⟩ := rs.get g1
          obtain ⟨u2, k3, k4⟩ := rs2.get g2
          refine ⟨_, _, rfl, fun v hv => ?_, fun v hv => ?_⟩
          · rw [k1] at hv; cases hv; exact k2
          · rw [k3] at hv; cases hv; exact k4
        unfold isL at hk
        rcases hq with ⟨n1, hq⟩ | ⟨n1, hq⟩
        · rcases hq2 with ⟨n2, hq2⟩ | ⟨n2, hq2⟩
          · exact ⟨a, b, vs, us, rfl, .inl ⟨hq _ fun _ _ => rfl, hq2 _ fun _ _ => rfl, P.fin A ⟨fun H => SqL B.K H a vs ∧ SqL B.K H b us, _, as ++ bs, (by show Walk _ (zipP xs ys).length _ _; exact walk_zip hl), fun H' k => ⟨hq H' (kl k).1, hq2 H' (kl k).2⟩, sf.append sf2, lv, yo⟩⟩⟩
          · rw [n2] at hk
            cases e5 : lstOf p with
            | none => exact absurd e5 n1
            | some _ => rw [e5] at hk; cases hk
        · rcases hq2 with ⟨n2, hq2⟩ | ⟨n2, hq2⟩
          · rw [n1] at hk
            cases e5 : lstOf q with
            | none => exact absurd e5 n2
            | some _ => rw [e5] at hk; cases hk
          · exact ⟨a, b, vs, us, rfl, .inr ⟨hq _ fun _ _ => rfl, hq2 _ fun _ _ => rfl, P.fin A ⟨fun H => SqT B.K H a vs ∧ SqT B.K H b us, _, as ++ bs, (by show Walk _ (zipP xs ys).length _ _; exact walk_zipT hl), fun H' k => ⟨hq H' (kl k).1, hq2 H' (kl k).2⟩, sf.append sf2, lv, yo⟩⟩⟩
      · exact P.elim
    · exact P.elim
  · exact P.elim
end
end
end BL
/-! B, list comprehensions of one clause. -/
namespace BL
noncomputable section
open PySem PySem.Spec PyProof.Rows L2
/-! ### the block's own names forgotten, then as they were -/
def wipeSl : List Nat → List Slot → List Slot
  | [], sl => sl
  | v :: vs, sl => (wipeSl vs sl).set v .no
def wipeE (vs : List Nat) (r : Env) : Env := { r with sl := wipeSl vs r.sl }
def isOwn : Option Slot → Bool
  | some (.own _ _) => true
  | _ => false
def plainSl (vs : List Nat) (r : Env) : Bool := vs.all fun v => !isOwn r.sl[v]?
def restSl (old : List Slot) : List Nat → List Slot → List Slot
  | [], sl => sl
  | v :: vs, sl => (restSl old vs sl).set v (old[v]?.getD .no)
def restE (vs : List Nat) (old r : Env) : Env := { r with sl := restSl old.sl vs r.sl }
theorem wipeSl_length : ∀ (vs : List Nat) (sl : List Slot), (wipeSl vs sl).length = sl.length
  | [], _ => rfl
  | v :: vs, sl => by unfold wipeSl; rw [List.length_set, wipeSl_length vs sl]
theorem restSl_length (old : List Slot) : ∀ (vs : List Nat) (sl : List Slot), (restSl old vs sl).length = sl.length
  | [], _ => rfl
  | v :: vs, sl => by unfold restSl; rw [List.length_set, restSl_length old vs sl]
theorem wipeSl_get : ∀ {vs : List Nat} {sl : List Slot} {j : Nat} {x : Slot}, (wipeSl vs sl)[j]? = some x → x = .no ∨ (j ∉ vs ∧ sl[j]? = some x)
  | [], _, _, _, h => .inr ⟨List.not_mem_nil, h⟩
  | v :: vs, sl, j, x, h => by
    unfold wipeSl at h
    rcases setv h with ⟨_, h, _⟩ | ⟨hj, h⟩
    · exact .inl h.symm
    · rcases wipeSl_get h with h | ⟨h1, h2⟩
      · exact .inl h
      · exact .inr ⟨fun z => (List.mem_cons.mp z).elim hj h1, h2⟩
theorem restSl_get {old : List Slot} : ∀ {vs : List Nat} {sl : List Slot} {j : Nat} {x : Slot}, (restSl old vs sl)[j]? = some x → (j ∈ vs ∧ x = old[j]?.getD .no) ∨ (j ∉ vs ∧ sl[j]? = some x)
  | [], _, _, _, h => .inr ⟨List.not_mem_nil, h⟩
  | v :: vs, sl, j, x, h => by
    unfold restSl at h
    rcases setv h with ⟨hj, h, _⟩ | ⟨hj, h⟩
    · subst hj
      exact .inl ⟨List.mem_cons_self .., h.symm⟩
    · rcases restSl_get h with ⟨h1, h2⟩ | ⟨h1, h2⟩
      · exact .inl ⟨List.mem_cons_of_mem _ h1, h2⟩
      · exact .inr ⟨fun z => (List.mem_cons.mp z).elim hj h1, h2⟩
theorem wipe_at : ∀ {vs : List Nat} {σ : L2.St} {j : Nat}, j ∉ vs → (wipe σ vs)[j]? = σ[j]?
  | [], _, _, _ => rfl
  | v :: vs, σ, j, h => by
    unfold wipe
    rw [List.getElem?_set_ne (fun e => h (by rw [← e]; exact List.mem_cons_self ..)), wipe_at fun z => h (List.mem_cons_of_mem _ z)]
section
variable {B : BC} {L : List Addr} {s0 s s2 : BS} {vs : List Nat}
def wipeS (vs : List Nat) (s : BS) : BS := ⟨wipeE vs s.r, wipe s.s vs, s.w⟩
theorem wipe_adr {h : Hold} {a : Addr} (e : adr L (wipeS vs s) h = some a) : adr L s h = some a := by
  cases h with
  | slot j =>
    obtain ⟨l, p, e1, e2⟩ := adr_slot_inv e
    rcases wipeSl_get e1 with h | ⟨h1, h2⟩
    · cases h
    · have e2 : (wipe s.s vs)[j]? = some (some (.ref a)) := e2
      rw [wipe_at h1] at e2
      exact adr_slot h2 e2
  | loan k => exact e
theorem wipe_live {h : Hold} (l : isLive (wipeS vs s) h) : isLive s h := by
  cases h with
  | slot j =>
    obtain ⟨p, e⟩ := l
    rcases wipeSl_get e with h | ⟨h1, h2⟩
    · cases h
    · exact ⟨p, h2⟩
  | loan k => exact l
theorem wipe_rel (R : Rel B L s) : Rel B L (wipeS vs s) := by
  refine ⟨?_, R.lnL, fun i x e => ?_, R.ln, fun h h' a e e' => R.inj h h' a (wipe_adr e) (wipe_adr e'), R.fd, R.lx, fun i l p a e1 e2 => ?_, R.od, R.nd, R.nf, R.st⟩
  · show (wipe s.s vs).length = (wipeSl vs s.r.sl).length
    rw [wipe_length, wipeSl_length]
    exact R.len
  · rcases wipeSl_get e with h | ⟨h1, h2⟩
    · subst h
      trivial
    · show SlotOk B L s.w ((wipe s.s vs)[i]?) x
      rw [wipe_at h1]
      exact R.sl i x h2
  · rcases wipeSl_get e1 with h | ⟨h1, h2⟩
    · cases h
    · have e2 : (wipe s.s vs)[i]? = some (some (.ref a)) := e2
      rw [wipe_at h1] at e2
      exact R.sL i l p a h2 e2
theorem wipe_ex (x : Ex B L s0 s) : Ex B L s0 (wipeS vs s) := ⟨x.st, wipe_rel x.rel, fun h a e => x.own h a (wipe_adr e), fun h a l e => x.opn h a (wipe_live l) (wipe_adr e)⟩
theorem plain_no (hp : plainSl vs s.r = true) {j : Nat} {l : Bool} {p : PV} (hj : j ∈ vs) (e : (s.r.sl[j]?).getD .no = .own l p) : False := by
  have := List.all_eq_true.mp hp j hj
  cases q : s.r.sl[j]? with
  | none => rw [q] at e; cases e
  | some y =>
    rw [q] at e this
    have e : y = .own l p := e
    subst e
    cases this
theorem rest_adr (hp : plainSl vs s.r = true) (hs : s2.s = wipe s.s vs) {h : Hold} {a : Addr} (e : adr L ⟨restE vs s.r s2.r, s.s, s2.w⟩ h = some a) : adr L s2 h = some a := by
  cases h with
  | slot j =>
    obtain ⟨l, p, e1, e2⟩ := adr_slot_inv e
    rcases restSl_get e1 with ⟨h1, h2⟩ | ⟨h1, h2⟩
    · exact (plain_no hp h1 h2.symm).elim
    · refine adr_slot h2 ?_
      rw [hs, wipe_at h1]
      exact e2
  | loan k => exact e
/-- what was done behind the wiping counts from the state ahead of it, the block's names as they were -/
theorem rest_ex (R : Rel B L s) (hp : plainSl vs s.r = true) (x : Ex B L (wipeS vs s) s2) (hs : s2.s = wipe s.s vs) : Ex B L s ⟨restE vs s.r s2.r, s.s, s2.w⟩ := by
  have R2 := x.rel
  have noOwn : ∀ {j : Nat} {l : Bool} {p : PV}, j ∈ vs → (s.r.sl[j]?).getD .no = .own l p → False := fun {j l p} hj e => by
    have := List.all_eq_true.mp hp j hj
    cases q : s.r.sl[j]? with
    | none => rw [q] at e; cases e
    | some y =>
      rw [q] at e this
      have e : y = .own l p := e
      subst e
      cases this
  have ad : ∀ h a, adr L ⟨restE vs s.r s2.r, s.s, s2.w⟩ h = some a → adr L s2 h = some a := fun h a e => by
    cases h with
    | slot j =>
      obtain ⟨l, p, e1, e2⟩ := adr_slot_inv e
      rcases restSl_get e1 with ⟨h1, h2⟩ | ⟨h1, h2⟩
      · exact (noOwn h1 h2.symm).elim
      · refine adr_slot h2 ?_
        rw [hs, wipe_at h1]
        exact e2
    | loan k => exact e
  have lv : ∀ h, isLive ⟨restE vs s.r s2.r, s.s, s2.w⟩ h → isLive s2 h := fun h l => by
    cases h with
    | slot j =>
      obtain ⟨p, e⟩ := l
      rcases restSl_get e with ⟨h1, h2⟩ | ⟨h1, h2⟩
      · exact (noOwn h1 h2.symm).elim
      · exact ⟨p, h2⟩
    | loan k => exact l
  refine ⟨x.st.mono fun a h => ?_, ⟨?_, R2.lnL, fun i y e => ?_, R2.ln, fun h h' a e e' => R2.inj h h' a (ad _ _ e) (ad _ _ e'), R2.fd, R2.lx, fun i l p a e1 e2 => ?_, R2.od, R2.nd, R2.nf, R2.st⟩, fun h a e => (x.own h a (ad h a e)).imp wipe_adr id, fun h a l e => (x.opn h a (lv h l) (ad h a e)).imp wipe_live id⟩
  · rcases h with ⟨h, l, e⟩ | h
    · exact .inl ⟨h, wipe_live l, wipe_adr e⟩
    · exact .inr h
  · show s.s.length = (restSl s.r.sl vs s2.r.sl).length
    rw [restSl_length, ← R2.len, hs, wipe_length]
  · show SlotOk B L s2.w (s.s[i]?) y
    rcases restSl_get e with ⟨h1, h2⟩ | ⟨h1, h2⟩
    · cases q : s.r.sl[i]? with
      | none =>
        rw [q] at h2
        subst h2
        trivial
      | some z =>
        rw [q] at h2
        have h2 : y = z := h2
        subst h2
        have := R.sl i y q
        cases y with
        | no => trivial
        | val p =>
          obtain ⟨v, e1, h⟩ := this
          exact ⟨v, e1, x.rep (wipe_rel R) h⟩
        | own l p => exact (noOwn h1 (by rw [q]; rfl)).elim
        | loan k => exact this
    · have := R2.sl i y h2
      rw [hs, wipe_at h1] at this
      exact this
  · rcases restSl_get e1 with ⟨h1, h2⟩ | ⟨h1, h2⟩
    · exact (noOwn h1 h2.symm).elim
    · refine R2.sL i l p a h2 ?_
      rw [hs, wipe_at h1]
      exact e2
end
/-! ### targets that store in the block's own names alone -/
def OkGw (B : BC) (vs : List Nat) (g : TG) (t : PV → M Unit) : Prop := ∀ (L : List Addr) (s0 s : BS) (p : PV) (v : V) (Q : L2.St → Hp → Prop), Rel B L s0 → Ex B L s0 s → Rep B.K s.w p v →
  (match t p s.r with | .ok _ e => ∀ σ w, Ex B L s0 ⟨e, σ, w⟩ → wipe σ vs = wipe s.s vs → Q σ w.H | _ => False) → g v s.s s.w.H Q
theorem wipe_setIn : ∀ {vs : List Nat} {σ : L2.St} {i : Nat} {x : Option V}, i ∈ vs → wipe (σ.set i x) vs = wipe σ vs
  | [], _, _, _, h => by cases h
  | v :: vs, σ, i, x, h => by
    unfold wipe
    by_cases hi : i ∈ vs
    · rw [wipe_setIn hi]
    · have e : i = v := (List.mem_cons.mp h).elim id fun z => absurd z hi
      subst e
      have gen : ∀ {vs : List Nat} {σ : L2.St}, i ∉ vs → wipe (σ.set i x) vs = (wipe σ vs).set i x := by
        intro vs
        induction vs with
        | nil => intro σ _; rfl
        | cons v vs ih =>
          intro σ h
          unfold wipe
          rw [ih fun z => h (List.mem_cons_of_mem _ z), List.set_comm]
          exact fun z => h (z ▸ List.mem_cons_self ..)
      rw [gen hi, List.set_set]
theorem okw_name {B : BC} {vs : List Nat} {i : Nat} (hi : i ∈ vs) : OkGw B vs (gName i) (tgN i) := fun L s0 s p v Q R0 x h P => P _ _ (setVal R0 x h) (wipe_setIn hi)
theorem okw_names {B : BC} {vs : List Nat} : ∀ (is : List Nat) (L : List Addr) (s0 s : BS) (ps : List PV) (us : List V) (Q : L2.St → Hp → Prop), (∀ i ∈ is, i ∈ vs) → Rel B L s0 → Ex B L s0 s → is.length = ps.length → Reps B.K s.w ps us →
    (∀ σ w, Ex B L s0 ⟨{ s.r with sl := (is.zip ps).foldl (fun sl x => sl.set x.1 (.val x.2)) s.r.sl }, σ, w⟩ → wipe σ vs = wipe s.s vs → Q σ w.H) → gNames is us s.s s.w.H Q
  | [], L, s0, s, ps, us, Q, hi, R0, x, hl, h, P => by
    cases ps with
    | nil =>
      cases (show us = [] from h)
      exact ⟨rfl, P _ _ x rfl⟩
    | cons p ps => cases hl
  | i :: is, L, s0, s, ps, us, Q, hi, R0, x, hl, h, P => by
    cases ps with
    | nil => cases hl
    | cons p ps =>
      obtain ⟨v, r, rfl, h1, h2⟩ := h
      refine ⟨v, r, rfl, ?_⟩
      have x2 := setVal (i := i) R0 x h1
      exact okw_names is L s0 ⟨{ s.r with sl := s.r.sl.set i (.val p) }, s.s.set i (some v), s.w⟩ ps r Q (fun j hj => hi j (List.mem_cons_of_mem _ hj)) R0 x2 (by simpa using hl) h2 fun σ w y e => P σ w y (e.trans (wipe_setIn (hi i (List.mem_cons_self ..))))
theorem okw_tup {B : BC} {vs is : List Nat} (hi : ∀ i ∈ is, i ∈ vs) : OkGw B vs (gTup B.K is.length (gNames is)) (tgT is) := fun L s0 s p v Q R0 x h P => by
  cases p with
  | tup ps =>
    unfold tgT at P
    dsimp only at P
    by_cases hl : is.length = ps.length
    · rw [if_pos hl] at P
      obtain ⟨a, us, rfl, h1, r⟩ := h
      exact ⟨a, us, rfl, .inl (.inl h1), by rw [hl]; exact r.length.symm, okw_names is L s0 s ps us Q hi R0 x hl r P⟩
    · rw [if_neg hl] at P
      exact P.elim
  | _ => exact P.elim
/-! ### the loop -/
def WF : WX := fun _ _ _ _ => False
def mYes : M Bool := M.pure true
/-- the turns, from a state whose block names are forgotten -/
def compM (vs : List Nat) (tg : PV → M Unit) (tt : M Bool) (te : M RV) : List PV → List PV → M (List PV)
  | [], acc => M.pure acc
  | p :: ps, acc => fun r => match tg p r with
    | .ok _ r1 => (match tt r1 with
      | .ok true r2 => (match te r2 with
        | .ok (.val y) r3 => if plainSl vs r3 = true ∧ acc.length < lim then compM vs tg tt te ps (acc ++ [y]) (wipeE vs r3) else .no
        | _ => .no)
      | .ok false r2 => if plainSl vs r2 = true then compM vs tg tt te ps acc (wipeE vs r2) else .no
      | _ => .no)
    | _ => .no
def mLc (it : M ItD) (vs : List Nat) (tg : PV → M Unit) (tt : M Bool) (te : M RV) : M RV := it.bind fun d => fun r =>
  if plainSl vs (lockE d.lk r) = true then (match compM vs tg tt te d.items [] (wipeE vs (lockE d.lk r)) with
    | .ok xs r' => .ok (.fresh (.lst xs)) (unlE d.lk (restE vs (lockE d.lk r) r'))
    | _ => .no)
  else .no
theorem wipe_idem : ∀ (vs : List Nat) (σ : L2.St), wipe (wipe σ vs) vs = wipe σ vs := by
  intro vs σ
  have gen : ∀ us : List Nat, (∀ u ∈ us, u ∈ vs) → wipe (wipe σ us) vs = wipe σ vs := by
    intro us
    induction us with
    | nil => intro _; rfl
    | cons u us ih =>
      intro h
      show wipe ((wipe σ us).set u none) vs = _
      rw [wipe_setIn (h u (List.mem_cons_self ..)), ih fun z hz => h z (List.mem_cons_of_mem _ hz)]
  exact gen vs fun _ h => h
section
variable {B : BC} {W : WX} {L : List Addr} {s0 s : BS} {g : TG} {mt : PV → M Unit} {tt : M Bool} {te : M RV} {vs : List Nat}
/-- a new object that nobody holds is changed -/
theorem mut_fresh {a : Addr} {p q : PV} {o : HO} (x : Ex B L s0 s) (h : RRel B L s0 s (.fresh p) (.ref a)) (n : NewC B s.w a q o) : Ex B L s0 ⟨s.r, s.s, mutW s.w a o⟩ ∧ RRel B L s0 ⟨s.r, s.s, mutW s.w a o⟩ (.fresh q) (.ref a) := by
  obtain ⟨b, eb, o0, nh, z⟩ := h
  cases eb
  obtain ⟨u, eu⟩ := o0.there
  have R' : Rel B L ⟨s.r, s.s, mutW s.w a o⟩ := by
    refine x.rel.swap o0 (mutW_step eu) rfl (fun b h => .inl h) rfl rfl rfl (fun i x h => .inl ⟨h, fun l q e1 e2 => ?_⟩) (fun j x h => .inl ⟨h, fun ht hb => ?_⟩) ⟨o, upd_same⟩
    · subst e1
      exact nh ⟨.slot i, adr_slot h e2⟩
    · obtain ⟨t, q⟩ := x
      exact nh ⟨.loan j, adr_loan h ht hb⟩
  refine ⟨⟨x.st.trans (mutW_step eu) fun b e => ?_, R', x.own, x.opn⟩, a, rfl, n.orep o0, nh, z⟩
  have e : b = a := e
  subst e
  exact .inr z
theorem wipe_fresh {a : Addr} {p : PV} (h : RRel B L s0 s (.fresh p) (.ref a)) : RRel B L s0 (wipeS vs s) (.fresh p) (.ref a) := by
  obtain ⟨b, eb, o, n, z⟩ := h
  exact ⟨b, eb, o, fun ⟨y, hy⟩ => n ⟨y, wipe_adr hy⟩, z⟩
theorem keep_fresh {a : Addr} {p : PV} {s' : BS} (x : Ex B L s s') (R : Rel B L s) (h : RRel B L s0 s (.fresh p) (.ref a)) : RRel B L s0 s' (.fresh p) (.ref a) := by
  obtain ⟨b, eb, o, n, z⟩ := h
  obtain ⟨h1, h2⟩ := x.orep R o n
  exact ⟨b, eb, h1, h2, z⟩
/-- one turn -/
theorem comp_turn {a : Addr} {acc rest : List PV} {p : PV} {v : V} {r' : Env} {xs : List PV} {Pn : Hp → Prop} (ok : OkGw B vs g mt) (x : Ex B L s0 s) (hw : wipe s.s vs = s.s) (h : Rep B.K s.w p v) (hD : RRel B L s0 s (.fresh (.lst acc)) (.ref a))
    (e : compM vs mt tt te (p :: rest) acc s.r = .ok xs r')
    (k : ∀ s3 acc', Ex B L s0 s3 → s3.s = s.s → RRel B L s0 s3 (.fresh (.lst acc')) (.ref a) → compM vs mt tt te rest acc' s3.r = .ok xs r' → Pn s3.w.H) :
    g v s.s s.w.H fun σ2 H2 => wipe σ2 vs = s.s ∧ tT B WF tt σ2 H2 fun b H3 => if b = true then tB B WF te σ2 H3 fun y H4 => ∃ acc : List V, H4 a = some (.lst acc) ∧ acc.length < sizeLine ∧ Pn (upd H4 a (.lst (acc ++ [y]))) else Pn H3 := by
  refine ok L s s p v _ x.rel (Ex.refl x.rel) h ?_
  unfold compM at e
  cases e1 : mt p s.r with
  | ok u r1 =>
    rw [e1] at e
    dsimp only at e ⊢
    intro σ2 w1 x1 hσ
    rw [hw] at hσ
    refine ⟨hσ, L, ⟨r1, σ2, w1⟩, rfl, rfl, x1.rel, ?_⟩
    dsimp only
    cases e2 : tt r1 with
    | ok b r2 =>
      rw [e2] at e
      intro w2 b' x2 hb
      cases (show b = b' from hb)
      cases b with
      | true =>
        dsimp only at e
        rw [if_pos rfl]
        refine ⟨L, ⟨r2, σ2, w2⟩, rfl, rfl, x2.rel, ?_⟩
        dsimp only
        cases e3 : te r2 with
        | ok z r3 =>
          rw [e3] at e
          cases z with
          | val y =>
            dsimp only at e
            intro w3 yv x3 hy
            have hy : Rep B.K w3 y yv := hy
            split at e
            · rename_i hz
              have x4 := x.trans ((x1.trans x2).trans x3)
              have hD4 := keep_fresh ((x1.trans x2).trans x3) x.rel hD
              obtain ⟨b, eb, ⟨n1, n2, ho⟩, nh, zz⟩ := id hD4
              cases eb
              rcases ho with ⟨ys, us, ep, hH, rs⟩ | ⟨_, _, _, ep, _⟩
              · cases ep
                have hN : NewC B w3 a (.lst (acc ++ [y])) (.lst (us ++ [yv])) := .inl ⟨_, _, rfl, rfl, rs.append (Reps.cons hy .nil)⟩
                obtain ⟨x5, hD5⟩ := mut_fresh (s := ⟨r3, σ2, w3⟩) x4 hD4 hN
                exact ⟨us, hH, by rw [← rs.length, ← lim_eq]; exact hz.2, k (wipeS vs ⟨r3, σ2, mutW w3 a (.lst (us ++ [yv]))⟩) (acc ++ [y]) (wipe_ex x5) hσ (wipe_fresh hD5) e⟩
              · cases ep
            · cases e
          | _ => cases e
        | exc c r3 => rw [e3] at e; cases e
        | no => rw [e3] at e; cases e
      | false =>
        dsimp only at e
        rw [if_neg Bool.false_ne_true]
        split at e
        · exact k (wipeS vs ⟨r2, σ2, w2⟩) acc (wipe_ex (x.trans (x1.trans x2))) hσ (wipe_fresh (keep_fresh (x1.trans x2) x.rel hD)) e
        · cases e
    | exc c r2 => rw [e2] at e; cases e
    | no => rw [e2] at e; cases e
  | exc c r1 => rw [e1] at e; cases e
  | no => rw [e1] at e; cases e
/-- the whole comprehension -/
theorem lc_ok {σ : L2.St} {H : Hp} {mi : M ItD} {Q : VK} (ok : OkGw B vs g mt) (h : tB B W (mLc mi vs mt tt te) σ H Q) : tLc (tG RIt B W mi) g (tT B WF tt) (tB B WF te) vs σ H Q := by
  refine (tG.bind (T := RIt) h).mono fun J H1 q => ?_
  obtain ⟨L, s0, s, d, rfl, rfl, R0, A, ⟨G, Y, as, wk, hG, hsafe, hlive, yok⟩, P⟩ := q
  intro D hn
  -- locked, wiped, then the new list
  have RL : Rel B L ⟨lockE d.lk s.r, s.s, s.w⟩ := lock_rel A.rel
  have RW := wipe_rel (vs := vs) RL
  have AD := RW.alloc hn (o := .lst [])
  have hD0 : RRel B L (wipeS vs ⟨lockE d.lk s.r, s.s, s.w⟩) ⟨wipeE vs (lockE d.lk s.r), wipe s.s vs, ⟨upd s.w.H D (.lst []), s.w.F, s.w.O⟩⟩ (.fresh (.lst [])) (.ref D) := RW.newList hn (xs := []) (vs := []) .nil
  split at P
  case isFalse => exact P.elim
  rename_i hpl
  cases eM : compM vs mt tt te d.items [] (wipeE vs (lockE d.lk s.r)) with
  | exc c r' => rw [eM] at P; exact P.elim
  | no => rw [eM] at P; exact P.elim
  | ok xs r' =>
    rw [eM] at P
    dsimp only at P
    refine lc_it wk (fun i H => ∃ s2 acc, s2.w.H = H ∧ Ex B L (wipeS vs ⟨lockE d.lk s.r, s.s, s.w⟩) s2 ∧ s2.s = wipe s.s vs ∧ RRel B L (wipeS vs ⟨lockE d.lk s.r, s.s, s.w⟩) s2 (.fresh (.lst acc)) (.ref D) ∧ compM vs mt tt te (d.items.drop i) acc s2.r = .ok xs r') ⟨_, [], rfl, AD.x, rfl, hD0, eM⟩ ?_ ?_ ?_
    · rintro i H _ ⟨s2, acc, rfl, x, _, _, _⟩
      refine hG _ fun a ha => ?_
      obtain ⟨⟨o, e⟩, safe⟩ := hsafe a ha
      rw [e]
      refine x.st.keep a o e fun z => ?_
      rcases z with ⟨h, l, e2⟩ | z
      · have e3 : adr L s h = some a := (same_lock d.lk s.r).adr (wipe_adr e2)
        obtain ⟨l1, n1⟩ := live_lock (wipe_live l)
        rcases safe with n | ⟨y, hm, ey⟩
        · exact n (.inl ⟨h, l1, e3⟩)
        · have := A.rel.inj y h a ey e3
          subst this
          exact n1 hm
      · rcases safe with n | ⟨y, hm, ey⟩
        · exact n (.inr z)
        · obtain ⟨q, o'⟩ := held_orep A.rel ey
          exact o'.2.1 z
    · rintro i v H H' hi ⟨s2, acc, rfl, x, es, hD, eC⟩ hy
      have ei : d.items[i]? = some d.items[i] := List.getElem?_eq_getElem hi
      rw [List.drop_eq_getElem_cons hi] at eC
      obtain ⟨w', rfl, A2, hr⟩ := yok L s2 i _ v H' x.rel (fun q u h => (x.rep RW h)) ei hy
      have T := comp_turn (B := B) (L := L) (s := ⟨s2.r, s2.s, w'⟩) (a := D) (Pn := fun H => ∃ s2 acc, s2.w.H = H ∧ Ex B L (wipeS vs ⟨lockE d.lk s.r, s.s, s.w⟩) s2 ∧ s2.s = wipe s.s vs ∧ RRel B L (wipeS vs ⟨lockE d.lk s.r, s.s, s.w⟩) s2 (.fresh (.lst acc)) (.ref D) ∧ compM vs mt tt te (d.items.drop (i + 1)) acc s2.r = .ok xs r')
        ok (x.trans A2.x) (by show wipe s2.s vs = s2.s; rw [es, wipe_idem]) hr (keep_fresh A2.x x.rel hD) eC fun s3 acc' x3 e3 hD3 eC3 => ⟨s3, acc', rfl, x3, e3.trans es, hD3, eC3⟩
      have T : g v s2.s w'.H _ := T
      rw [es] at T
      exact T
    · rintro H ⟨s2, acc, rfl, x, es, hD, eC⟩
      rw [List.drop_of_length_le (Nat.le_refl _)] at eC
      cases eC
      have x1 := rest_ex RL hpl x es
      have x2 := unl_ex hlive A.x x1
      refine P.fin (s := ⟨unlE d.lk (restE vs (lockE d.lk s.r) s2.r), s.s, s2.w⟩) ⟨x2, A.e⟩ ?_
      refine unl_rr (s2 := ⟨restE vs (lockE d.lk s.r) s2.r, s.s, s2.w⟩) ?_
      obtain ⟨b, eb, o, n, z⟩ := hD
      exact ⟨b, eb, o, fun ⟨y, hy⟩ => n ⟨y, rest_adr (s := ⟨lockE d.lk s.r, s.s, s.w⟩) hpl es hy⟩, A.x.none z⟩
end
section
variable {X : Cx} {B : BC} {W : WX} {tg iter elt c : Expr} {g : TG} {mi : M ItD} {mt : PV → M Unit} {tt : M Bool} {te : M RV} {scope : Scope} {own : List (Str × Nat)} {pos spos : Pos} {ifs : List Expr}
theorem bts_nil : PTs X [] (tT B WF mYes) := ⟨fun pins s σ H Q I h => pts_nil.run pins s σ H Q I (by
  obtain ⟨L, s, rfl, rfl, R, P⟩ := h
  exact P.fin (.refl R) rfl)⟩
theorem bts_one (h : PT X c (tT B WF tt)) : PTs X [c] (tT B WF tt) := pts_one h
theorem be_lc (hc : X.calm = true) (hN : X.N.Nodup) (hi : PI X tg iter (tG RIt B W mi)) (ok : BlkOk X.N X.env.scope scope own) {vs : List Nat} (hvs : own.map (·.2) = vs) (og : OkGw B vs g mt)
    (hg : ∀ (s : Shared) (H : Hp) (C : Addr) (cl : List (Str × Addr)) (fp : List Addr), PG (X.blk s H scope (compEnvC scope cl C X.env) fp) tg g) (ht : ∀ (s : Shared) (H : Hp) (C : Addr) (cl : List (Str × Addr)) (fp : List Addr), PTs (X.blk s H scope (compEnvC scope cl C X.env) fp) ifs (tT B WF tt))
    (he : ∀ (s : Shared) (H : Hp) (C : Addr) (cl : List (Str × Addr)) (fp : List Addr), PE (X.blk s H scope (compEnvC scope cl C X.env) fp) elt (tB B WF te)) (hs : ∀ x, foldedSetIterable iter X.env x = pure x := by intro _; rfl) :
    PE X (.ListComp elt [⟨tg, iter, ifs, 0⟩] scope pos) (tB B W (mLc mi vs mt tt te)) :=
  (pe_lc hc hN hi ok hg ht he hs).imp fun σ H Q h => by rw [hvs]; exact lc_ok og h
theorem bs_setLc {i : Nat} {y : Str} {py : Pos} (hc : X.calm = true) (hN : X.N.Nodup) (hy : X.N[i]? = some y) (hyl : X.env.scope.names.lookup y = some .local) (hsw : swapsWith (.ListComp elt [⟨tg, iter, ifs, 0⟩] scope pos) (some (.Name y py)) spos.line X.env = pure true)
    (hi : PI X tg iter (tG RIt B W mi)) (ok : BlkOk X.N X.env.scope scope own) {vs : List Nat} (hvs : own.map (·.2) = vs) (og : OkGw B vs g mt)
    (hg : ∀ (s : Shared) (H : Hp) (C : Addr) (cl : List (Str × Addr)) (fp : List Addr), PG (X.blk s H scope (compEnvC scope cl C X.env) fp) tg g) (ht : ∀ (s : Shared) (H : Hp) (C : Addr) (cl : List (Str × Addr)) (fp : List Addr), PTs (X.blk s H scope (compEnvC scope cl C X.env) fp) ifs (tT B WF tt))
    (he : ∀ (s : Shared) (H : Hp) (C : Addr) (cl : List (Str × Addr)) (fp : List Addr), PE (X.blk s H scope (compEnvC scope cl C X.env) fp) elt (tB B WF te)) (hs : ∀ x, foldedSetIterable iter X.env x = pure x := by intro _; rfl) :
    PS X (.Assign [.Name y py] (.ListComp elt [⟨tg, iter, ifs, 0⟩] scope pos) spos) (tS B W (mSet i (mLc mi vs mt tt te))) :=
  bs_setBy ((ps_setLc hc hN hy hyl hsw hi ok hg ht he hs).imp fun D σ H h => by rw [hvs]; exact lc_ok og h)
end
end
end BL
/-! B, stores of items, pairs of names, calls of the text's own defs, short forms. -/
namespace BL
noncomputable section
open PySem PySem.Spec PyProof.Rows L2
/-! ### o[i] = v -/
def setF : PV → PV → PV → Option PV
  | .lst xs, .int k, y => (ixN xs.length k).map fun j => .lst (xs.set j y)
  | _, _, _ => none
def setM (f : PV → PV → PV → Option PV) (v o i : RV) : M Fl := fun r => match v, peek r o, peek r i with
  | .val y, some p, some q => (match f p q y with
    | some p' => (match mutM o p' r with | .ok _ r' => .ok .next r' | _ => .no)
    | none => .no)
  | _, _, _ => .no
def mSetIx (f : PV → PV → PV → Option PV) (mv mo mi : M RV) : M Fl := (mFrz mv).bind fun v => mo.bind fun o => mi.bind fun i => setM f v o i
def CoreS (B : BC) (r : TSet) (f : PV → PV → PV → Option PV) : Prop := ∀ (w : Wd) (a : Addr) (p q y p' : PV) (i v : V) (Q : Hp → Prop), Con B.K w p (.ref a) → Con B.K w q i → Rep B.K w y v → f p q y = some p' → (∀ o, NewC B w a p' o → Q (upd w.H a o)) → r (.ref a) i v w.H Q
theorem core_setL {B : BC} : CoreS B rSetL setF := by
  intro w a p q y p' i v Q c ci hy e k
  cases p with
  | lst xs =>
    cases q with
    | int n =>
      obtain ⟨us, h, r⟩ := con_lstM c
      cases (show i = .int n from ci)
      obtain ⟨j, e1, e2⟩ := Option.map_eq_some_iff.mp e
      cases e2
      rw [r.length] at e1
      exact ⟨a, us, n, j, rfl, rfl, h, e1, k (.lst (us.set j v)) (.inl ⟨_, _, rfl, rfl, r.set j hy⟩)⟩
    | _ => cases e
  | _ => cases e
section
variable {X : Cx} {B : BC} {W : WX} {L : List Addr} {s0 s : BS} {D : Ends} {e o i : Expr} {mv mo mi : M RV} {pos tpos : Pos}
theorem bs_setIx {r : TSet} {f : PV → PV → PV → Option PV} (hs : PSet X r) (c : CoreS B r f) (he : PE X e (tB B W mv)) (ho : PE X o (tB B W mo)) (hi : PE X i (tB B W mi))
    (ha : ∀ v, assign (.Subscript o i tpos) X.env v = (do
      let ov ← holding [v] (eval o X.env)
      let iv ← holding [v, ov] (eval i X.env)
      standAt tpos
      holding [v, ov, iv] (setItem ov iv v)
      release [v, ov, iv] []) := by intro _; rfl)
    (h1 : swapsWithSole [.Subscript o i tpos] e pos.line X.env = pure false := by rfl) (h2 : swappedStores [.Subscript o i tpos] e X.env = pure none := by rfl)
    (h3 : (assignEach [.Subscript o i tpos] X.env).map (·.2) = [assign (.Subscript o i tpos) X.env] := by rfl) : PS X (.Assign [.Subscript o i tpos] e pos) (tS B W (mSetIx f mv mo mi)) := by
  refine (ps_asg (be_frz he) (pg_sub ho hi hs ha) h1 h2 h3).imp fun D σ H h => ?_
  refine (tS.bind (T := RRel) h).mono fun x H1 q => ?_
  obtain ⟨L, s0, s, r1, rfl, rfl, R0, A, hx, P⟩ := q
  refine (PostS.bind (T := RRel) A.x P).mono fun y H2 q => ?_
  obtain ⟨s2, r2, rfl, A2, hy, P⟩ := q
  rw [← A2.e]
  refine (PostS.bind (T := RRel) (A.x.trans A2.x) P).mono fun z H3 q => ?_
  obtain ⟨s3, r3, rfl, A3, hz, P⟩ := q
  have hx3 := (hx.at A2 A.rel).at A3 A2.rel
  have hy3 := hy.at A3 A2.rel
  unfold setM at P
  cases r1 with
  | val y' =>
    cases e1 : peek s3.r r2 with
    | none => rw [e1] at P; exact P.elim
    | some p =>
      cases e2 : peek s3.r r3 with
      | none => rw [e1, e2] at P; exact P.elim
      | some q =>
        rw [e1, e2] at P
        dsimp only at P
        cases e3 : f p q y' with
        | none => rw [e3] at P; exact P.elim
        | some p' =>
          rw [e3] at P
          dsimp only at P
          cases e4 : mutM r2 p' s3.r with
          | ok u e' =>
            rw [e4] at P
            obtain ⟨a, rfl⟩ := mut_ref A3.rel hy3 e4
            refine c s3.w a p q y' p' z x _ (peek_con A3.rel hy3 e1) (peek_con A3.rel hz e2) hx3 e3 fun oo n => ?_
            have A4 := mut_ok (A2.trans A3) hy3 e4 n
            have P : D.nx s3.s (mutW s3.w a oo).H := PostS.nx (s := ⟨e', s3.s, mutW s3.w a oo⟩) P (A.x.trans A4.x)
            rw [A3.e] at P
            exact P
          | exc c e' => exact (mutM_ne e4).elim
          | no => rw [e4] at P; exact P.elim
  | fresh p => exact P.elim
  | slot i => exact P.elim
  | loan k => exact P.elim
/-! ### a, b = x, y -/
def isSlot : RV → Bool
  | .slot _ => true
  | _ => false
def mPar (i j : Nat) (ms : M (List RV)) : M Fl := ms.bind fun rs => match rs with
  | [x, y] => if isSlot x = true ∨ isSlot y = true then M.no else (storeM i x).bind fun _ => (storeM j y).bind fun _ => M.pure .next
  | _ => M.no
def mPar3 (i j l : Nat) (ms : M (List RV)) : M Fl := ms.bind fun rs => match rs with
  | [x, y, z] => if isSlot x = true ∨ isSlot y = true ∨ isSlot z = true then M.no else (storeM i x).bind fun _ => (storeM j y).bind fun _ => (storeM l z).bind fun _ => M.pure .next
  | _ => M.no
/-- what a store of a first value leaves of a further one -/
theorem par_keep (x0 : Ex B L s0 s) {i : Nat} {x y : RV} {v w : V} {e' : Env} {w' : Wd} (hx : RRel B L s0 s x v) (hy : RRel B L s0 s y w) (ns : isSlot y = false) (nx : isSlot x = false) (hd : ∀ p q a, x = .fresh p → y = .fresh q → v = .ref a → w = .ref a → False) (e : storeM i x s.r = .ok () e') (hw : w' = s.w) :
    RRel B L s0 ⟨e', s.s.set i (some v), w'⟩ y w := by
  subst hw
  cases y with
  | val p => exact hy
  | loan k => exact hy
  | slot j => cases ns
  | fresh q =>
    obtain ⟨a, rfl, o, n, z⟩ := hy
    refine ⟨a, rfl, o, fun ⟨h, ea⟩ => ?_, z⟩
    have sl : ∀ y, e' = { s.r with sl := s.r.sl.set i y } → (∀ l p, y = .own l p → v ≠ .ref a) → False := fun y ee hv => by
      subst ee
      cases h with
      | slot j =>
        obtain ⟨l, p, e1, e2⟩ := adr_slot_inv ea
        rcases setv e1 with ⟨rfl, e3, _⟩ | ⟨hj, e3⟩
        · rcases setv e2 with ⟨_, e4, _⟩ | ⟨hj, _⟩
          · cases e4
            exact hv l p e3 rfl
          · exact absurd rfl hj
        · rcases setv e2 with ⟨e4, _, _⟩ | ⟨_, e4⟩
          · exact absurd e4 hj
          · exact n ⟨.slot j, adr_slot e3 e4⟩
      | loan k => exact n ⟨.loan k, ea⟩
    cases x with
    | val p => cases e; exact sl _ rfl fun l q h => by cases h
    | fresh p =>
      cases e
      refine sl _ rfl fun l q h hv => ?_
      exact hd p _ a rfl rfl hv rfl
    | loan k => cases e; exact sl _ rfl fun l q h => by cases h
    | slot j => cases nx
theorem store_w (R0 : Rel B L s0) (A : Ex B L s0 s) {i : Nat} {r : RV} {v : V} {e' : Env} (h : RRel B L s0 s r v) (ns : isSlot r = false) (e : storeM i r s.r = .ok () e') : Ex B L s0 ⟨e', s.s.set i (some v), s.w⟩ := by
  cases r with
  | val p => cases e; exact setSlotEx R0 A (x := .val p) ⟨v, rfl, h⟩ fun l p e => by cases e
  | fresh p =>
    cases e
    obtain ⟨a, rfl, o, n, z⟩ := h
    exact setSlotEx R0 A (x := .own false p) ⟨a, rfl, o⟩ fun l p e => by
      cases e
      exact ⟨a, rfl, n, z⟩
  | loan k =>
    cases e
    obtain ⟨a, hL, rfl⟩ := h
    exact setSlotEx R0 A (x := .loan k) ⟨a, hL, rfl⟩ fun l p e => by cases e
  | slot j => cases ns
theorem storeM_ok {i : Nat} {r : RV} {e : Env} (ns : isSlot r = false) : ∃ e', storeM i r e = .ok () e' := by
  cases r with
  | slot j => cases ns
  | _ => exact ⟨_, rfl⟩
theorem nodup2 {x y : RV} {v w : V} {rs : List RV} {vs : List V} (h : (freshA (x :: y :: rs) (v :: w :: vs)).Nodup) : ∀ p q a, x = .fresh p → y = .fresh q → v = .ref a → w = .ref a → False := by
  rintro p q a rfl rfl rfl rfl
  have h : (a :: a :: freshA rs vs).Nodup := h
  exact (List.nodup_cons.mp h).1 (List.mem_cons_self ..)
theorem par_ok {i j : Nat} {ms : M (List RV)} {σ : L2.St} {H : Hp} (h : tS B W (mPar i j ms) D σ H) : tPar i j (tA B W ms) D σ H := by
  refine (tS.bind (T := RRels) h).mono fun vs H1 q => ?_
  obtain ⟨L, s0, s, rs, rfl, rfl, R0, A, ⟨hp, hn⟩, P⟩ := q
  match rs, vs, hp, hn, P with
  | [x, y], [v, w], .cons hx (.cons hy .nil), hn, P =>
    dsimp only at P
    split at P
    · exact P.elim
    · rename_i ns
      have n1 : isSlot x = false := by cases q : isSlot x; rfl; exact absurd (.inl q) ns
      have n2 : isSlot y = false := by cases q : isSlot y; rfl; exact absurd (.inr q) ns
      obtain ⟨e1, q1⟩ := storeM_ok (i := i) (e := s.r) n1
      obtain ⟨e2, q2⟩ := storeM_ok (i := j) (e := e1) n2
      have x1 := store_w R0 A.x hx n1 q1
      have hy1 := par_keep A.x hx hy n2 n1 (nodup2 hn) q1 rfl
      have x2 := store_w (s := ⟨e1, s.s.set i (some v), s.w⟩) R0 x1 hy1 n2 q2
      unfold M.bind at P
      rw [q1] at P
      dsimp only at P
      rw [q2] at P
      exact ⟨v, w, rfl, P _ _ x2⟩
theorem par3_ok {i j l : Nat} {ms : M (List RV)} {σ : L2.St} {H : Hp} (h : tS B W (mPar3 i j l ms) D σ H) : tPar3 i j l (tA B W ms) D σ H := by
  refine (tS.bind (T := RRels) h).mono fun vs H1 q => ?_
  obtain ⟨L, s0, s, rs, rfl, rfl, R0, A, ⟨hp, hn⟩, P⟩ := q
  match rs, vs, hp, hn, P with
  | [x, y, z], [v, w, u], .cons hx (.cons hy (.cons hz .nil)), hn, P =>
    dsimp only at P
    split at P
    · exact P.elim
    · rename_i ns
      have n1 : isSlot x = false := by cases q : isSlot x; rfl; exact absurd (.inl q) ns
      have n2 : isSlot y = false := by cases q : isSlot y; rfl; exact absurd (.inr (.inl q)) ns
      have n3 : isSlot z = false := by cases q : isSlot z; rfl; exact absurd (.inr (.inr q)) ns
      obtain ⟨e1, q1⟩ := storeM_ok (i := i) (e := s.r) n1
      obtain ⟨e2, q2⟩ := storeM_ok (i := j) (e := e1) n2
      obtain ⟨e3, q3⟩ := storeM_ok (i := l) (e := e2) n3
      have x1 := store_w R0 A.x hx n1 q1
      have d12 := nodup2 hn
      have d13 : ∀ p q a, x = .fresh p → z = .fresh q → v = .ref a → u = .ref a → False := by
        rintro p q a rfl rfl rfl rfl
        cases y with
        | fresh p' =>
          obtain ⟨b, rfl, _⟩ := hy
          have h : (a :: b :: a :: []).Nodup := hn
          exact (List.nodup_cons.mp h).1 (List.mem_cons_of_mem _ (List.mem_cons_self ..))
        | val p' => exact (List.nodup_cons.mp (show (a :: a :: []).Nodup from hn)).1 (List.mem_cons_self ..)
        | loan k => exact (List.nodup_cons.mp (show (a :: a :: []).Nodup from hn)).1 (List.mem_cons_self ..)
        | slot k => cases n2
      have d23 : ∀ p q a, y = .fresh p → z = .fresh q → w = .ref a → u = .ref a → False := by
        rintro p q a rfl rfl rfl rfl
        cases x with
        | fresh p' =>
          obtain ⟨b, rfl, _⟩ := hx
          have h : (b :: a :: a :: []).Nodup := hn
          exact (List.nodup_cons.mp (List.nodup_cons.mp h).2).1 (List.mem_cons_self ..)
        | val p' => exact (List.nodup_cons.mp (show (a :: a :: []).Nodup from hn)).1 (List.mem_cons_self ..)
        | loan k => exact (List.nodup_cons.mp (show (a :: a :: []).Nodup from hn)).1 (List.mem_cons_self ..)
        | slot k => cases n1
      have hy1 := par_keep A.x hx hy n2 n1 d12 q1 rfl
      have hz1 := par_keep A.x hx hz n3 n1 d13 q1 rfl
      have x2 := store_w (s := ⟨e1, s.s.set i (some v), s.w⟩) R0 x1 hy1 n2 q2
      have hz2 := par_keep (s := ⟨e1, s.s.set i (some v), s.w⟩) x1 hy1 hz1 n3 n2 d23 q2 rfl
      have x3 := store_w (s := ⟨e2, (s.s.set i (some v)).set j (some w), s.w⟩) R0 x2 hz2 n3 q3
      unfold M.bind at P
      rw [q1] at P
      dsimp only at P
      rw [q2] at P
      dsimp only at P
      rw [q3] at P
      exact ⟨v, w, u, rfl, P _ _ x3⟩
theorem bs_par {i j : Nat} {x y : Str} {a b : Expr} {ms : M (List RV)} {px py pt : Pos} {kt k2 pt2} (hc : X.calm = true) (hN : X.N.Nodup) (hi : X.N[i]? = some x) (hj : X.N[j]? = some y) (hij : i ≠ j)
    (hx : X.env.scope.names.lookup x = some .local) (hy : X.env.scope.names.lookup y = some .local) (ha : PA X [a, b] (tA B W ms))
    (hw : swappedStores [.Tuple [.Name x px, .Name y py] kt pt] (.Tuple [a, b] k2 pt2) X.env = pure (some [x, y]))
    (hs : swapsWithSole [.Tuple [.Name x px, .Name y py] kt pt] (.Tuple [a, b] k2 pt2) pos.line X.env = pure false := by rfl) :
    PS X (.Assign [.Tuple [.Name x px, .Name y py] kt pt] (.Tuple [a, b] k2 pt2) pos) (tS B W (mPar i j ms)) :=
  (ps_par hc hN hi hj hij hx hy ha hw hs).imp fun D σ H h => par_ok h
theorem bs_par3 {i j l : Nat} {x y z : Str} {a b c : Expr} {ms : M (List RV)} {px py pz pt : Pos} {kt k2 pt2} (hc : X.calm = true) (hN : X.N.Nodup) (hi : X.N[i]? = some x) (hj : X.N[j]? = some y) (hl : X.N[l]? = some z) (hij : i ≠ j) (hil : i ≠ l) (hjl : j ≠ l)
    (hx : X.env.scope.names.lookup x = some .local) (hy : X.env.scope.names.lookup y = some .local) (hz : X.env.scope.names.lookup z = some .local) (ha : PA X [a, b, c] (tA B W ms))
    (hw : swappedStores [.Tuple [.Name x px, .Name y py, .Name z pz] kt pt] (.Tuple [a, b, c] k2 pt2) X.env = pure (some [x, y, z]))
    (hs : swapsWithSole [.Tuple [.Name x px, .Name y py, .Name z pz] kt pt] (.Tuple [a, b, c] k2 pt2) pos.line X.env = pure false := by rfl) :
    PS X (.Assign [.Tuple [.Name x px, .Name y py, .Name z pz] kt pt] (.Tuple [a, b, c] k2 pt2) pos) (tS B W (mPar3 i j l ms)) :=
  (ps_par3 hc hN hi hj hl hij hil hjl hx hy hz ha hw hs).imp fun D σ H h => par3_ok h
end
/-! ### the text's own defs -/
/-- what a caller wants of a def -/
def Cal (P : Program) (w : World) (K : PySem.W.Frag) (mg : Str → Option Value) (base : Heap) (cl : List Addr) (x : Str) (k n : Nat) (F : Fn) : Prop :=
  ∃ f fd ps, FnG P w K mg base (L2.CX P w) k f fd ps (spF ⟨K, cl⟩ n F) ∧ Plain F ∧ mg x = some (.ref f) ∧ PySem.W.keepIn K (.ref f) = true ∧ Binds K fd ps []
section
variable {X : Cx} {W : WX} {x : Str} {p pos : Pos} {e : Expr} {es : List Expr} {ms : M (List RV)} {F : Fn} {j k n : Nat} {cl : List Addr}
theorem takesF {X : Cx} : Takes X WF := fun u s' ⟨a, B, sI, pins, σ, H, cls, d, e, I, nb, up, sky, na, os, ag, w⟩ => w.elim
theorem be_cal (c : Cal X.prog X.w X.K X.mg X.base cl x k n F) (hr : Room k X.A) (hG : Gd X.A) (hg : Gl X x) (tk : Takes X W) (ha : PA X (e :: es) (tA ⟨X.K, cl⟩ W ms)) (hlen : ∀ r rs e', ms r = .ok rs e' → rs.length = n) (hdb : (x == ("__debug__" : Str)) = false := by decide)
    (he : starEach (e :: es) X.env = (false, eval e X.env) :: starEach es X.env := by rfl) (hpl : (backTo pos (starEach es X.env)).any (·.1) = false := by rfl) : PE X (.Call (.Name x p) (e :: es) [] pos) (tB ⟨X.K, cl⟩ W (mCall F ms)) := by
  obtain ⟨f, fd, ps, G, hF, hm, hk, hb⟩ := c
  exact be_callG G hF hr hG hg hm hk hb tk ha hlen hdb he hpl
theorem be_cal0 (c : Cal X.prog X.w X.K X.mg X.base cl x k 0 F) (hr : Room k X.A) (hG : Gd X.A) (hg : Gl X x) (tk : Takes X W) (hdb : (x == ("__debug__" : Str)) = false := by decide) : PE X (.Call (.Name x p) [] [] pos) (tB ⟨X.K, cl⟩ W (mCall F mNilA)) := by
  obtain ⟨f, fd, ps, G, hF, hm, hk, hb⟩ := c
  exact be_callG0 G hF hr hG hg hm hk hb tk hdb
theorem be_calL (j : Nat) (c : Cal X.prog X.w X.K X.mg X.base cl x k n F) (hr : Room k X.A) (hG : Gd X.A) (hg : Gl X x) (tk : Takes X W) (ha : PA X (e :: es) (tA ⟨X.K, cl⟩ W ms)) (hlen : ∀ r rs e', ms r = .ok rs e' → rs.length = n) (hdb : (x == ("__debug__" : Str)) = false := by decide)
    (he : starEach (e :: es) X.env = (false, eval e X.env) :: starEach es X.env := by rfl) (hpl : (backTo pos (starEach es X.env)).any (·.1) = false := by rfl) : PE X (.Call (.Name x p) (e :: es) [] pos) (tB ⟨X.K, cl⟩ W (mCallL F j ms)) := by
  obtain ⟨f, fd, ps, G, hF, hm, hk, hb⟩ := c
  exact be_callGL G hF hr hG hg hm hk hb tk ha hlen hdb he hpl
end
/-- THE RULE for a def by its mirror, at its own context -/
theorem fn_okC {P : Program} {w : World} {K : PySem.W.Frag} {mg : Str → Option Value} {base : Heap} {x qual : Str} {params : Arguments} {body : List Stmt} {scope : Scope} {dvs : List V} {kws : List (Str × V)} {f : Addr} {fd : FuncData} {N ps : List Str} {k n : Nat} {cl : List Addr} {m : M Fl}
    (F : FunD K x qual params body scope dvs kws f fd) (S : FnScope N ps scope) (hn : n = ps.length)
    (hb : ∀ (cdv : Value) (A : Around) (outer : List PySem.Env) (s : Shared) (H : Hp) (E : XK) (W : WX), Room k (cxOf (L2.CX P w) P w K mg base N qual scope f cdv A outer s H E).A → Gd (cxOf (L2.CX P w) P w K mg base N qual scope f cdv A outer s H E).A →
      Takes (cxOf (L2.CX P w) P w K mg base N qual scope f cdv A outer s H E) W → PassesOwn (model P w) (cxOf (L2.CX P w) P w K mg base N qual scope f cdv A outer s H E).A (cxOf (L2.CX P w) P w K mg base N qual scope f cdv A outer s H E).env (cxOf (L2.CX P w) P w K mg base N qual scope f cdv A outer s H E).xe →
      PSs (cxOf (L2.CX P w) P w K mg base N qual scope f cdv A outer s H E) body (tS ⟨K, cl⟩ W m)) :
    FnG P w K mg base (L2.CX P w) (k + 1) f fd ps (spF ⟨K, cl⟩ n (mkFn n N.length m)) := by
  subst hn
  exact fnG_of F S (fun vs H Q E h => h.1) fun cdv A outer s H vs Q E hr hG h => ⟨_, hb cdv A outer s H E _ hr hG (takes_of rfl rfl rfl rfl) (passes_of rfl), body_of h⟩
theorem cal_of {P : Program} {w : World} {K : PySem.W.Frag} {mg : Str → Option Value} {base : Heap} {x qual : Str} {params : Arguments} {body : List Stmt} {scope : Scope} {kws : List (Str × V)} {f : Addr} {fd : FuncData} {N ps : List Str} {k n : Nat} {cl : List Addr} {m : M Fl}
    (F : FunD K x qual params body scope [] kws f fd) (G : FnG P w K mg base (L2.CX P w) k f fd ps (spF ⟨K, cl⟩ n (mkFn n N.length m))) (hm : mg x = some (.ref f)) (hb : Binds K fd ps []) : Cal P w K mg base cl x k n (mkFn n N.length m) :=
  ⟨f, fd, ps, G, plain_mk, hm, F.kp, hb⟩
end
end BL
/-! B, further short forms: a, b = e; x op= e; targets. -/
namespace BL
noncomputable section
open PySem PySem.Spec PyProof.Rows L2
section
variable {X : Cx} {B : BC} {W : WX} {L : List Addr} {s0 s : BS} {D : Ends} {e tg : Expr} {m : M RV} {pos : Pos} {g : TG} {mt : PV → M Unit}
/-- target = e, the value frozen, then taken apart -/
def mSetT (t : PV → M Unit) (m : M RV) : M Fl := (mFrz m).bind fun v => match v with
  | .val p => fun r => match t p r with
    | .ok _ r' => .ok .next r'
    | _ => .no
  | _ => M.no
theorem bs_setT (he : PE X e (tB B W m)) (hg : PG X tg g) (ok : OkG B g mt) (h1 : swapsWithSole [tg] e pos.line X.env = pure false := by rfl) (h2 : swappedStores [tg] e X.env = pure none := by rfl) (h3 : (assignEach [tg] X.env).map (·.2) = [assign tg X.env] := by rfl) :
    PS X (.Assign [tg] e pos) (tS B W (mSetT mt m)) := by
  refine (ps_asg (be_frz he) hg h1 h2 h3).imp fun D σ H h => ?_
  refine (tS.bind (T := RRel) h).mono fun x H1 q => ?_
  obtain ⟨L, s0, s, r1, rfl, rfl, R0, A, hx, P⟩ := q
  cases r1 with
  | val p =>
    refine ok L s0 s p x _ R0 A.x hx ?_
    dsimp only at P
    cases e1 : mt p s.r with
    | ok u e' =>
      rw [e1] at P
      exact fun σ w y => P σ w y
    | exc c e' => rw [e1] at P; exact P.elim
    | no => rw [e1] at P; exact P.elim
  | fresh p => exact P.elim
  | slot i => exact P.elim
  | loan k => exact P.elim
/-! x op= e, ints -/
def iaddF : PV → PV → Option RV
  | .int i, .int j => some (.val (.int (i + j)))
  | _, _ => none
theorem ok_iadd {B : BC} : OkR2 B (rI0 fun i j => .int (i + j)) iaddF := by
  intro L s p q x y z Q R cp cq e k
  unfold iaddF at e
  split at e
  · cases e
    cases (show x = .int _ from cp)
    cases (show y = .int _ from cq)
    exact ⟨_, _, rfl, rfl, k s.w _ (.refl R) rfl⟩
  · cases e
theorem ok_isub {B : BC} : OkR2 B (rI0 fun i j => .int (i - j)) subF := ok_sub
/-! targets -/
theorem pgs_names {X : Cx} : ∀ {is : List Nat} {es : List Expr}, Paired (fun i e => PG X e (gName i)) is es → (∀ (e : Expr) (es : List Expr), PG X e (gName 0) → True) → True := fun _ _ => trivial
end
end
end BL
/-! B, the law's end. -/
namespace BL
noncomputable section
open PySem PySem.Spec PyProof.Rows L2
theorem cx_no {P : Program} {w : World} {H : Hp} {s : Shared} {e : Value} {s' : Shared} (h : L2.CX P w [] H s (fun _ _ _ => False) e s') : False := by
  obtain ⟨_, _, _, _, _, h⟩ := h
  simp_all
/-- the law's promise, from what its mirror answers -/
theorem law_end {K : PySem.W.Frag} {cl : List Addr} {F : Fn} {H : Hp} {a : Addr} {ns : List Int} (h : ∃ ln st, F [.val (.scr ns)] [] = .ok (.val (.bl true)) ln st) (hO : Only H) (hS : SqL K H a (ns.map V.int)) :
    spF ⟨K, cl⟩ 1 F [.ref a] H (fun v _ => v = .bl true) fun _ _ _ => False := by
  obtain ⟨ln, st, h⟩ := h
  refine ⟨rfl, [], [.val (.scr ns)], [], ⟨H, fun _ => False, []⟩, rfl, ⟨rfl, rfl, fun i x e => ?_, fun k t b e _ => (by cases e), fun x y b e _ => ?_, fun b f => f.elim, fun b hb => (by cases hb), fun i l p b e _ => ?_, rfl, List.nodup_nil, fun b hb => (by cases hb), fun n b I e _ => (by cases e)⟩, ?_⟩
  · cases i with
    | zero =>
      cases e
      refine ⟨.ref a, rfl, a, rfl, ?_⟩
      rcases hS with (hS | ⟨o, hS⟩) | hS
      · rcases hO a with z | ⟨o, xs, z⟩
        · rw [hS] at z; cases z
        · rw [hS] at z; cases z
      · exact .inl ⟨o, hS⟩
      · exact .inr hS
    | succ i => cases e
  · exact nomatch entry_held ⟨x, e⟩
  · cases i with
    | zero => cases e
    | succ i => cases e
  · rw [h]
    intro w v x hv
    exact hv
end
end BL
/-! B, the plain side: what the mirrors answer. -/
namespace BL
noncomputable section
open PySem PySem.Spec PyProof.Rows L2
/-! ### rules that compute a mirror on a state -/
section
variable {α β : Type} {r r' : Env}
theorem bind_ok {m : M α} {f : α → M β} {a : α} (h : m r = .ok a r') : (m.bind f) r = f a r' := by unfold M.bind; rw [h]
theorem seq_next {m n : M Fl} (h : m r = .ok .next r') : mSeq m n r = n r' := by unfold mSeq M.bind; rw [h]
theorem seq_ret {m n : M Fl} {z : RV} (h : m r = .ok (.ret z) r') : mSeq m n r = .ok (.ret z) r' := by unfold mSeq M.bind; rw [h]; rfl
theorem if_true {t : M Bool} {m n : M Fl} (h : t r = .ok true r') : mIfS t m n r = m r' := by unfold mIfS M.bind; rw [h]; rfl
theorem if_false {t : M Bool} {m n : M Fl} (h : t r = .ok false r') : mIfS t m n r = n r' := by unfold mIfS M.bind; rw [h]; rfl
theorem for_ok {it : M ItD} {tg : PV → M Unit} {body : M Fl} {r1 r2 : Env} {d : ItD} (h1 : it r = .ok d r1) (h2 : BL.forM tg body d.items (lockE d.lk r1) = .ok .next r2) : mFor it tg body r = .ok .next (unlE d.lk r2) := by
  unfold mFor
  rw [bind_ok h1]
  unfold loopM
  rw [h2]
  rfl
theorem fn_ret {n N : Nat} {body : M Fl} {as : List Arg} {st : List Inst} {z : RV} (h : as.length = n) (hb : body ⟨argSl 0 as ++ List.replicate (N - n) .no, argLn as, st⟩ = .ok (.ret z) r') : mkFn n N body as st = finRV z r' := by
  unfold mkFn
  rw [if_pos h, hb]
  rfl
theorem fn_next {n N : Nat} {body : M Fl} {as : List Arg} {st : List Inst} (h : as.length = n) (hb : body ⟨argSl 0 as ++ List.replicate (N - n) .no, argLn as, st⟩ = .ok .next r') : mkFn n N body as st = .ok (.val .non) r'.ln r'.st := by
  unfold mkFn
  rw [if_pos h, hb]
  rfl
/-- a loop whose turns all go on: R i is the state ahead of turn i -/
theorem forM_all {tg : PV → M Unit} {body : M Fl} : ∀ (items : List PV) (R : Nat → Env), (∀ i p, items[i]? = some p → ∃ r1, tg p (R i) = .ok () r1 ∧ body r1 = .ok .next (R (i + 1))) → forM tg body items (R 0) = .ok .next (R items.length)
  | [], R, _ => rfl
  | p :: ps, R, h => by
    obtain ⟨r1, h1, h2⟩ := h 0 p rfl
    unfold forM
    rw [h1]
    dsimp only
    rw [bind_ok h2]
    exact forM_all ps (fun i => R (i + 1)) fun i q e => h (i + 1) q (by simpa using e)
/-- a loop whose turns all go on, by what holds ahead of each turn -/
theorem forM_inv {tg : PV → M Unit} {body : M Fl} : ∀ (items : List PV) (I : Nat → Env → Prop) (r : Env), I 0 r → (∀ i p r, items[i]? = some p → I i r → ∃ r1 r2, tg p r = .ok () r1 ∧ body r1 = .ok .next r2 ∧ I (i + 1) r2) → ∃ r', BL.forM tg body items r = .ok .next r' ∧ I items.length r'
  | [], I, r, h0, _ => ⟨r, rfl, h0⟩
  | p :: ps, I, r, h0, h => by
    obtain ⟨r1, r2, h1, h2, h3⟩ := h 0 p r rfl h0
    obtain ⟨r', e, h4⟩ := forM_inv ps (fun i => I (i + 1)) r2 h3 fun i q r e hi => h (i + 1) q r (by simpa using e) hi
    refine ⟨r', ?_, h4⟩
    unfold BL.forM
    rw [h1]
    dsimp only
    rw [bind_ok h2]
    exact e
/-- a comprehension whose turns all give an item -/
theorem compM_all {vs : List Nat} {tg : PV → M Unit} {te : M RV} : ∀ (items acc : List PV) (R : Nat → Env) (f : Nat → PV), acc.length + items.length ≤ lim →
    (∀ i p, items[i]? = some p → ∃ r1 r3, tg p (R i) = .ok () r1 ∧ te r1 = .ok (.val (f i)) r3 ∧ plainSl vs r3 = true ∧ wipeE vs r3 = R (i + 1)) →
    compM vs tg mYes te items acc (R 0) = .ok (acc ++ (List.range items.length).map f) (R items.length)
  | [], acc, R, f, _, _ => by
    show Res.ok acc (R 0) = _
    simp
  | p :: ps, acc, R, f, hl, h => by
    obtain ⟨r1, r3, h1, h2, h3, h4⟩ := h 0 p rfl
    rw [List.length_cons] at hl
    unfold compM
    rw [h1]
    have hy : mYes r1 = .ok true r1 := rfl
    dsimp only
    rw [hy]
    dsimp only
    rw [h2]
    dsimp only
    rw [if_pos ⟨h3, by omega⟩, h4]
    rw [compM_all ps (acc ++ [f 0]) (fun i => R (i + 1)) (fun i => f (i + 1)) (by rw [List.length_append, List.length_singleton]; omega) fun i q e => h (i + 1) q (by simpa using e)]
    rw [List.append_assoc, List.length_cons, List.range_succ_eq_map, List.map_cons, List.map_map]
    rfl
/-- a comprehension with a test -/
theorem compM_some {vs : List Nat} {tg : PV → M Unit} {tt : M Bool} {te : M RV} : ∀ (items acc : List PV) (R : Nat → Env) (b : Nat → Bool) (f : Nat → PV), acc.length + items.length ≤ lim →
    (∀ i p, items[i]? = some p → ∃ r1 r2, tg p (R i) = .ok () r1 ∧ tt r1 = .ok (b i) r2 ∧ (b i = true → ∃ r3, te r2 = .ok (.val (f i)) r3 ∧ plainSl vs r3 = true ∧ wipeE vs r3 = R (i + 1)) ∧ (b i = false → plainSl vs r2 = true ∧ wipeE vs r2 = R (i + 1))) →
    compM vs tg tt te items acc (R 0) = .ok (acc ++ ((List.range items.length).filter b).map f) (R items.length)
  | [], acc, R, b, f, _, _ => by
    show Res.ok acc (R 0) = _
    simp
  | p :: ps, acc, R, b, f, hl, h => by
    obtain ⟨r1, r2, h1, h2, h3, h4⟩ := h 0 p rfl
    rw [List.length_cons] at hl
    unfold compM
    rw [h1]
    dsimp only
    rw [h2]
    have ih : ∀ acc', acc'.length + ps.length ≤ lim → compM vs tg tt te ps acc' (R 1) = .ok (acc' ++ ((List.range ps.length).filter fun i => b (i + 1)).map fun i => f (i + 1)) (R (ps.length + 1)) := fun acc' hl' =>
      compM_some ps acc' (fun i => R (i + 1)) (fun i => b (i + 1)) (fun i => f (i + 1)) hl' fun i q e => h (i + 1) q (by simpa using e)
    have e1 : ((List.range (ps.length + 1)).filter b).map f = (if b 0 = true then [f 0] else []) ++ ((List.range ps.length).filter fun i => b (i + 1)).map fun i => f (i + 1) := by
      rw [List.range_succ_eq_map, List.filter_cons, List.filter_map]
      split
      · rw [List.map_cons, List.map_map]; rfl
      · rw [List.map_map]; rfl
    rw [List.length_cons, e1]
    cases hb : b 0 with
    | true =>
      obtain ⟨r3, k1, k2, k3⟩ := h3 hb
      dsimp only
      rw [k1]
      dsimp only
      rw [if_pos ⟨k2, by omega⟩, k3, ih _ (by rw [List.length_append, List.length_singleton]; omega), if_pos rfl, List.append_assoc]
    | false =>
      obtain ⟨k2, k3⟩ := h4 hb
      dsimp only
      rw [if_pos k2, k3, ih _ (by omega), if_neg Bool.false_ne_true]
      rfl
end
/-! ### the mirrors' functions, where their conditions hold -/
@[simp] theorem slB_simp (b : Bool) : slB b = b := slB_eq b
theorem mulF_int {i j : Int} (h : i.natAbs.log2 + j.natAbs.log2 < 1000000) : mulF (.int i) (.int j) = some (.val (.int (i * j))) := by
  unfold mulF
  exact if_pos h
theorem mulF_lst {a : List PV} {k : Int} (h1 : k ≤ 1000000) (h2 : -1000000 ≤ k) (h3 : a.length * k.toNat ≤ lim) : mulF (.lst a) (.int k) = some (.fresh (.lst (List.replicate k.toNat a).flatten)) := by
  unfold mulF
  exact if_pos ⟨h1, h2, h3⟩
theorem mulF_tup {a : List PV} {k : Int} (h1 : k ≤ 1000) (h2 : -1000 ≤ k) (h3 : a.length ≤ 1000) : mulF (.tup a) (.int k) = some (.val (.tup (List.replicate k.toNat a).flatten)) := by
  unfold mulF
  exact if_pos ⟨h1, h2, h3⟩
theorem divF_int {i j : Int} (h : 0 < j) (h2 : j.natAbs.log2 < 9000) : divF (.int i) (.int j) = some (.val (.int (i / j))) := by
  unfold divF
  exact if_pos ⟨h, h2⟩
theorem modF_int {i j : Int} (h : 0 < j) : modF (.int i) (.int j) = some (.val (.int (i % j))) := by
  unfold modF
  exact if_pos h
theorem powF_int {i j : Int} (h : 0 ≤ j) (h2 : j ≤ 1000) (h3 : i.natAbs.log2 < 100000) : powF (.int i) (.int j) = some (.val (.int (i ^ j.toNat))) := by
  unfold powF
  exact if_pos ⟨h, h2, h3⟩
theorem addF_lst {a b : List PV} (h : a.length + b.length ≤ lim) : addF (.lst a) (.lst b) = some (.fresh (.lst (a ++ b))) := by
  unfold addF
  exact if_pos h
theorem addF_tup {a b : List PV} (h : a.length + b.length ≤ lim) : addF (.tup a) (.tup b) = some (.val (.tup (a ++ b))) := by
  unfold addF
  exact if_pos h
theorem addF_int {i j : Int} : addF (.int i) (.int j) = some (.val (.int (i + j))) := id rfl
theorem append_eq {xs : List PV} {y : PV} (h : xs.length < lim) : appendF (.lst xs) [y] = some (.lst (xs ++ [y]), .non) := by
  unfold appendF
  exact if_pos h
theorem extend_eq {xs ys : List PV} (h : xs.length + ys.length ≤ lim) : extendF (.lst xs) [.lst ys] = some (.lst (xs ++ ys), .non) := by
  unfold extendF
  exact if_pos h
theorem rng1_eq {j : Int} (h : okB j = true) : rng1F [.int j] = some (rgIt 0 j.toNat 1) := by
  unfold rng1F
  exact if_pos h
theorem rng2_eq {i j : Int} (h : okB i = true) (h2 : okB j = true) : rng2F [.int i, .int j] = some (rgIt i (j - i).toNat 1) := by
  unfold rng2F
  exact if_pos ⟨h, h2⟩
theorem rng3_eq {i j : Int} (h : okB i = true) (h2 : okB j = true) : rng3F [.int i, .int j, .int (-1)] = some (rgIt i (i - j).toNat (-1)) := by
  unfold rng3F
  exact if_pos ⟨h, h2, rfl⟩
theorem len_seq {p : PV} {xs : List PV} (h : seqOf p = some xs) : lenF [p] = some (.val (.int xs.length)) := by
  cases p <;> cases h <;> exact id rfl
theorem ifn_pos {α : Type} {c : Prop} {a : Option α} (h : c) : @ite _ c (Classical.propDecidable _) a none = a := if_pos h
/-! ### applied forms, for simp -/
section
variable {α β : Type} (r : Env)
@[simp] theorem bind_app (m : M α) (f : α → M β) : M.bind m f r = (match m r with | .ok a r' => f a r' | .exc c r' => .exc c r' | .no => .no) := id rfl
@[simp] theorem pure_app (a : α) : M.pure a r = .ok a r := id rfl
@[simp] theorem opt_app (o : Option α) : M.opt o r = (match o with | some a => .ok a r | none => .no) := id rfl
@[simp] theorem var_app (i : Nat) : mVar i r = (match r.sl[i]? with | some (.val p) => .ok (.val p) r | some (.own _ _) => .ok (.slot i) r | some (.loan k) => .ok (.loan k) r | _ => .no) := id rfl
@[simp] theorem val_app (p : PV) : mVal p r = .ok (.val p) r := id rfl
@[simp] theorem bin_app (f : PV → PV → Option RV) (a b : M RV) : mBin f a b r = M.bind a (fun x => M.bind b fun y => look2 f x y) r := id rfl
@[simp] theorem un_app (f : PV → Option RV) (a : M RV) : mUn f a r = M.bind a (fun x => look1 f x) r := id rfl
@[simp] theorem look2_app (f : PV → PV → Option RV) (a b : RV) : look2 f a b r = (match peek r a, peek r b with | some p, some q => (match f p q with | some z => .ok z r | none => .no) | _, _ => .no) := id rfl
@[simp] theorem look1_app (f : PV → Option RV) (a : RV) : look1 f a r = (match peek r a with | some p => (match f p with | some z => .ok z r | none => .no) | _ => .no) := id rfl
@[simp] theorem peek_val (p : PV) : peek r (.val p) = some p := id rfl
@[simp] theorem peek_fresh (p : PV) : peek r (.fresh p) = some p := id rfl
@[simp] theorem peek_slot (i : Nat) : peek r (.slot i) = (match r.sl[i]? with | some (.val p) => some p | some (.own _ p) => some p | some (.loan k) => (r.ln[k]?).map (·.2) | _ => none) := id rfl
@[simp] theorem peek_loan (k : Nat) : peek r (.loan k) = (r.ln[k]?).map (·.2) := id rfl
@[simp] theorem tst_app (f : PV → PV → Option Bool) (a b : M RV) : mTst f a b r = M.bind a (fun x => M.bind b fun y => fun r => match peek r x, peek r y with
  | some p, some q => (match f p q with | some z => .ok z r | none => .no)
  | _, _ => .no) r := id rfl
@[simp] theorem chain_app (f g : PV → PV → Option Bool) (a b c : M RV) : mChain f g a b c r = M.bind a (fun x => M.bind b fun y => fun r => match peek r x, peek r y with
  | some p, some q => (match f p q with
    | some true => M.bind c (fun z => fun r => match peek r y, peek r z with
      | some p, some q => (match g p q with | some z => .ok z r | none => .no)
      | _, _ => .no) r
    | some false => .ok false r
    | none => .no)
  | _, _ => .no) r := id rfl
@[simp] theorem boolV_app (m : M Bool) : mBoolV m r = M.bind m (fun b => M.pure (.val (.bl b))) r := id rfl
@[simp] theorem truth_app (m : M RV) : mTruth m r = M.bind m (fun x => fun r => match peek r x with | some (.bl b) => .ok b r | _ => .no) r := id rfl
@[simp] theorem notT_app (m : M Bool) : mNotT m r = M.bind m (fun b => M.pure (!b)) r := id rfl
@[simp] theorem andT_app (m n : M Bool) : mAndT m n r = M.bind m (fun b => if b = true then n else M.pure false) r := id rfl
@[simp] theorem orT_app (m n : M Bool) : mOrT m n r = M.bind m (fun b => if b = true then M.pure true else n) r := id rfl
@[simp] theorem andV_app (m n : M RV) : mAndV m n r = M.bind (mTruth m) (fun b => if b = true then n else M.pure (.val (.bl false))) r := id rfl
@[simp] theorem orV_app (m n : M RV) : mOrV m n r = M.bind (mTruth m) (fun b => if b = true then M.pure (.val (.bl true)) else n) r := id rfl
@[simp] theorem notV_app (m : M RV) : mNotV m r = M.bind (mTruth m) (fun b => M.pure (.val (.bl (!b)))) r := id rfl
@[simp] theorem if_app (t : M Bool) (m n : M RV) : mIf t m n r = M.bind t (fun b => if b = true then m else n) r := id rfl
@[simp] theorem ite_app {α : Type} (c : Prop) [Decidable c] (m n : M α) : (if c then m else n) r = if c then m r else n r := by split <;> rfl
@[simp] theorem frz_app (m : M RV) : mFrz m r = M.bind m frzM r := id rfl
@[simp] theorem frzM_val (p : PV) : frzM (.val p) r = .ok (.val p) r := id rfl
@[simp] theorem frzM_fresh (p : PV) : frzM (.fresh p) r = .ok (.val p) r := id rfl
@[simp] theorem frzM_slot (i : Nat) : frzM (.slot i) r = (match r.sl[i]? with | some (.val p) => .ok (.val p) r | some (.own false p) => .ok (.val p) { r with sl := r.sl.set i (.val p) } | some (.loan k) => frzLn k r | _ => .no) := id rfl
@[simp] theorem frzM_loan (k : Nat) : frzM (.loan k) r = frzLn k r := id rfl
@[simp] theorem frzLn_app (k : Nat) : frzLn k r = (match r.ln[k]? with | some (.froz, p) => .ok (.val p) r | some (.live, p) => .ok (.val p) { r with ln := r.ln.set k (.froz, p) } | _ => .no) := id rfl
@[simp] theorem nilA_app : mNilA r = .ok [] r := id rfl
@[simp] theorem consA_app (m : M RV) (ms : M (List RV)) : mConsA m ms r = M.bind m (fun x => M.bind ms fun xs => M.pure (x :: xs)) r := id rfl
@[simp] theorem tup_app (ms : M (List RV)) : mTup ms r = M.bind ms (fun rs => M.opt ((valsOf rs).bind fun ps => @ite _ (ps.length ≤ lim) (Classical.propDecidable _) (some (.val (.tup ps))) none)) r := id rfl
@[simp] theorem lst_app (ms : M (List RV)) : mLst ms r = M.bind ms (fun rs => M.opt ((valsOf rs).bind fun ps => @ite _ (ps.length ≤ lim) (Classical.propDecidable _) (some (.fresh (.lst ps))) none)) r := id rfl
@[simp] theorem valsOf_nil : valsOf [] = some [] := id rfl
@[simp] theorem valsOf_cons (p : PV) (rs : List RV) : valsOf (.val p :: rs) = (valsOf rs).map (p :: ·) := id rfl
@[simp] theorem peeks_nil : peeks r [] = some [] := id rfl
@[simp] theorem peeks_cons (x : RV) (xs : List RV) : peeks r (x :: xs) = (match peek r x, peeks r xs with | some p, some ps => some (p :: ps) | _, _ => none) := id rfl
@[simp] theorem blt_app (f : List PV → Option RV) (ms : M (List RV)) : mBlt f ms r = M.bind ms (lookN f) r := id rfl
@[simp] theorem lookN_app (f : List PV → Option RV) (rs : List RV) : lookN f rs r = (match peeks r rs with | some ps => (match f ps with | some z => .ok z r | none => .no) | none => .no) := id rfl
@[simp] theorem call_app (F : Fn) (ms : M (List RV)) : mCall F ms r = M.bind ms (fun rs => callV F rs) r := id rfl
theorem callV_eq {F : Fn} {rs : List RV} {ps : List PV} {z : RV} {ln : List (Stt × PV)} {st : List Inst} {r : Env} (h : valsOf rs = some ps) (h2 : F (ps.map .val) r.st = .ok z ln st) : callV F rs r = .ok z { r with st := st } := by
  unfold callV
  rw [h]
  dsimp only
  rw [h2]
@[simp] theorem callV_app (F : Fn) (rs : List RV) : callV F rs r = (match valsOf rs with
  | some ps => (match F (ps.map .val) r.st with
    | .ok z _ st => .ok z { r with st := st }
    | .exc c _ st => .exc c { r with st := st }
    | .no => .no)
  | none => .no) := id rfl
@[simp] theorem callL_app (F : Fn) (j : Nat) (ms : M (List RV)) : mCallL F j ms r = M.bind ms (fun rs => callL F j rs) r := id rfl
@[simp] theorem mutM_fresh (p q : PV) : mutM (.fresh p) q r = .ok () r := id rfl
@[simp] theorem mutM_slot (i : Nat) (p : PV) : mutM (.slot i) p r = (match r.sl[i]? with | some (.own false _) => .ok () { r with sl := r.sl.set i (.own false p) } | some (.loan k) => mutLn k p r | _ => .no) := id rfl
@[simp] theorem mutM_loan (k : Nat) (p : PV) : mutM (.loan k) p r = mutLn k p r := id rfl
@[simp] theorem mutLn_app (k : Nat) (p : PV) : mutLn k p r = (match r.ln[k]? with | some (.live, _) => .ok () { r with ln := r.ln.set k (.live, p) } | _ => .no) := id rfl
@[simp] theorem methT_app (T : String) (g : RV → List RV → M RV) (o : M RV) (ms : M (List RV)) : mMethT T g o ms r = M.bind o (fun x => fun r => match peek r x with
  | some p => if tyP p = some T then M.bind ms (fun rs => g x rs) r else .no
  | none => .no) r := id rfl
@[simp] theorem mutO_app (f : PV → List PV → Option (PV × PV)) (o : RV) (rs : List RV) : mutO f o rs r = (match peek r o, peeks r rs with
  | some p, some ps => (match f p ps with
    | some (q, z) => (match mutM o q r with | .ok _ r' => .ok (.val z) r' | _ => .no)
    | none => .no)
  | _, _ => .no) := id rfl
@[simp] theorem mutV_app (f : PV → List PV → Option (PV × PV)) (o : RV) (rs : List RV) : mutV f o rs r = (match peek r o, valsOf rs with
  | some p, some ps => (match f p ps with
    | some (q, z) => (match mutM o q r with | .ok _ r' => .ok (.val z) r' | _ => .no)
    | none => .no)
  | _, _ => .no) := id rfl
@[simp] theorem seeM_app (f : PV → List PV → Option RV) (o : RV) (rs : List RV) : seeM f o rs r = (match peek r o, peeks r rs with
  | some p, some ps => (match f p ps with | some z => .ok z r | none => .no)
  | _, _ => .no) := id rfl
@[simp] theorem seq_app (m n : M Fl) : mSeq m n r = (match m r with | .ok .next r' => n r' | .ok f r' => .ok f r' | .exc c r' => .exc c r' | .no => .no) := by
  unfold mSeq
  rw [bind_app]
  cases m r with
  | ok f r' => cases f <;> rfl
  | _ => rfl
@[simp] theorem next_app (m : M RV) : mNext m r = M.bind m (fun _ => M.pure .next) r := id rfl
@[simp] theorem ret_app (m : M RV) : mRet m r = M.bind m (fun x => M.pure (.ret x)) r := id rfl
@[simp] theorem ifS_app (t : M Bool) (m n : M Fl) : mIfS t m n r = M.bind t (fun b => if b = true then m else n) r := id rfl
@[simp] theorem setSl_app (i : Nat) (x : Slot) : setSl i x r = .ok () { r with sl := r.sl.set i x } := id rfl
@[simp] theorem store_val (i : Nat) (p : PV) : storeM i (.val p) r = .ok () { r with sl := r.sl.set i (.val p) } := id rfl
@[simp] theorem store_fresh (i : Nat) (p : PV) : storeM i (.fresh p) r = .ok () { r with sl := r.sl.set i (.own false p) } := id rfl
@[simp] theorem store_loan (i k : Nat) : storeM i (.loan k) r = .ok () { r with sl := r.sl.set i (.loan k) } := id rfl
@[simp] theorem store_slot (i j : Nat) : storeM i (.slot j) r = (match frzM (.slot j) r with | .ok (.val p) r' => .ok () { r' with sl := r'.sl.set i (.val p) } | _ => .no) := id rfl
@[simp] theorem set_app (i : Nat) (m : M RV) : mSet i m r = M.bind m (fun z => M.bind (storeM i z) fun _ => M.pure .next) r := id rfl
@[simp] theorem aug_app (f : PV → PV → Option RV) (i : Nat) (m : M RV) : mAug f i m r = mSet i (mBin f (mVar i) m) r := id rfl
@[simp] theorem setIx_app (f : PV → PV → PV → Option PV) (mv mo mi : M RV) : mSetIx f mv mo mi r = M.bind (mFrz mv) (fun v => M.bind mo fun o => M.bind mi fun i => setM f v o i) r := id rfl
@[simp] theorem setM_app (f : PV → PV → PV → Option PV) (v o i : RV) : setM f v o i r = (match v, peek r o, peek r i with
  | .val y, some p, some q => (match f p q y with
    | some p' => (match mutM o p' r with | .ok _ r' => .ok .next r' | _ => .no)
    | none => .no)
  | _, _, _ => .no) := id rfl
@[simp] theorem par_app (i j : Nat) (ms : M (List RV)) : mPar i j ms r = M.bind ms (fun rs => match rs with
  | [x, y] => if isSlot x = true ∨ isSlot y = true then M.no else M.bind (storeM i x) fun _ => M.bind (storeM j y) fun _ => M.pure .next
  | _ => M.no) r := id rfl
@[simp] theorem par3_app (i j l : Nat) (ms : M (List RV)) : mPar3 i j l ms r = M.bind ms (fun rs => match rs with
  | [x, y, z] => if isSlot x = true ∨ isSlot y = true ∨ isSlot z = true then M.no else M.bind (storeM i x) fun _ => M.bind (storeM j y) fun _ => M.bind (storeM l z) fun _ => M.pure .next
  | _ => M.no) r := id rfl
@[simp] theorem tgN_app (i : Nat) (p : PV) : tgN i p r = .ok () { r with sl := r.sl.set i (.val p) } := id rfl
@[simp] theorem for_app (it : M ItD) (tg : PV → M Unit) (body : M Fl) : mFor it tg body r = M.bind it (fun d => loopM tg body d) r := id rfl
@[simp] theorem loop_app (tg : PV → M Unit) (body : M Fl) (d : ItD) : loopM tg body d r = unlR d.lk (BL.forM tg body d.items (lockE d.lk r)) := id rfl
@[simp] theorem itSeq_app (m : M RV) : itSeq m r = M.bind m (fun x => fun r => match (peek r x).bind seqOf with | some xs => .ok ⟨xs, lockOf r x⟩ r | none => .no) r := id rfl
@[simp] theorem itEnum_app (m : M RV) : itEnum m r = M.bind m (fun x => fun r => match (peek r x).bind seqOf with | some xs => .ok ⟨enumP 0 xs, lockOf r x⟩ r | none => .no) r := id rfl
@[simp] theorem itRng_app (f : List PV → Option (List PV)) (ms : M (List RV)) : itRng f ms r = M.bind ms (fun rs => fun r => match (peeks r rs).bind f with | some xs => .ok ⟨xs, []⟩ r | none => .no) r := id rfl
@[simp] theorem sl_app (f : PV → Option Int → Option Int → Option RV) (m : M RV) (lo hi : M (Option Int)) : mSl f m lo hi r = M.bind m (fun x => M.bind lo fun l => M.bind hi fun u => fun r => match peek r x with
  | some p => (match f p l u with | some z => .ok z r | none => .no)
  | none => .no) r := id rfl
@[simp] theorem noPart_app : mNoPart r = .ok none r := id rfl
@[simp] theorem part_app (m : M RV) : mPart m r = M.bind m (fun x => fun r => match peek r x with | some (.int i) => .ok (some i) r | _ => .no) r := id rfl
@[simp] theorem lc_app (it : M ItD) (vs : List Nat) (tg : PV → M Unit) (tt : M Bool) (te : M RV) : mLc it vs tg tt te r = M.bind it (fun d => fun r =>
  if plainSl vs (lockE d.lk r) = true then (match compM vs tg tt te d.items [] (wipeE vs (lockE d.lk r)) with
    | .ok xs r' => .ok (.fresh (.lst xs)) (unlE d.lk (restE vs (lockE d.lk r) r'))
    | _ => .no)
  else .no) r := id rfl
@[simp] theorem mk_app (n N : Nat) (body : M Fl) (as : List Arg) (st : List Inst) : mkFn n N body as st = if as.length = n then finF (body ⟨argSl 0 as ++ List.replicate (N - n) .no, argLn as, st⟩) else .no := id rfl
@[simp] theorem unlR_ok (lk : List Hold) (a : α) : unlR lk (.ok a r) = .ok a (unlE lk r) := id rfl
@[simp] theorem lockE_nil : lockE [] r = r := id rfl
@[simp] theorem unlE_nil : unlE [] r = r := id rfl
@[simp] theorem lockOf_val (p : PV) : lockOf r (.val p) = [] := id rfl
@[simp] theorem lockOf_fresh (p : PV) : lockOf r (.fresh p) = [] := id rfl
end
end
end BL
/-! B, the plain side: == and repr of ints, texts, lists and tuples of ints. -/
namespace BL
noncomputable section
open PySem PySem.Spec PyProof.Rows L2
theorem toDs_ints (l : List Int) : toDs (l.map PV.int) = some (l.map PyData.int) := by
  induction l with
  | nil => rfl
  | cons x r ih =>
    show (match toD (.int x), toDs (r.map PV.int) with | some d, some ds => some (d :: ds) | _, _ => none) = _
    rw [ih]
    rfl
theorem canLay_ints (l : List Int) : PyData.canLayAll0 (l.map PyData.int) = true := by
  induction l with
  | nil => simp [PyData.canLayAll0]
  | cons x r ih => simp [PyData.canLayAll0, PyData.canLay0, ih]
theorem depth_ints (l : List Int) : PyData.depthAll (l.map PyData.int) = 0 := by
  induction l with
  | nil => simp [PyData.depthAll]
  | cons x r ih => simp [PyData.depthAll, PyData.depth, ih]
theorem eqv_ints : ∀ a b : List Int, PyData.eqvAll (a.map PyData.int) (b.map PyData.int) = decide (a = b)
  | [], [] => by simp [PyData.eqvAll]
  | [], _ :: _ => by simp [PyData.eqvAll]
  | _ :: _, [] => by simp [PyData.eqvAll]
  | x :: a, y :: b => by
    simp only [List.map_cons, PyData.eqvAll, PyData.eqv, eqv_ints a b]
    by_cases h : x = y
    · by_cases h2 : a = b
      · simp [h, h2]
      · simp [h, h2]
    · simp [h]
theorem datP_int (i : Int) : datP (.int i) = some (.int i) := by
  unfold datP
  show (match (some (PyData.int i) : Option PyData) with | some d => _ | none => none) = _
  exact if_pos (by simp [SeqAt.shaped, PyData.canLay0, PyData.depth])
theorem datP_tup (l : List Int) : datP (.tup (l.map .int)) = some (.tuple (l.map .int)) := by
  have e : toD (.tup (l.map .int)) = some (.tuple (l.map .int)) := by
    show (toDs (l.map PV.int)).map PyData.tuple = _
    rw [toDs_ints]
    rfl
  unfold datP
  rw [e]
  exact if_pos (by simp [SeqAt.shaped, PyData.canLay0, PyData.depth, canLay_ints, depth_ints])
theorem datP_lst (l : List Int) : datP (.lst (l.map .int)) = some (.list (l.map .int)) := by
  have e : toD (.lst (l.map .int)) = some (.list (l.map .int)) := by
    show (toDs (l.map PV.int)).map PyData.list = _
    rw [toDs_ints]
    rfl
  unfold datP
  rw [e]
  exact if_pos (by simp [SeqAt.shaped, PyData.canLay0, PyData.depth, canLay_ints, depth_ints])
theorem datP_str {s : Str} (h : PyData.strOk s = true) : datP (.str s) = some (.str s) := by
  unfold datP
  show (match (some (PyData.str s) : Option PyData) with | some d => _ | none => none) = _
  exact if_pos (by simp [SeqAt.shaped, PyData.canLay0, PyData.depth, h])
theorem eqF_int (i j : Int) : eqF (.int i) (.int j) = some (decide (i = j)) := by
  unfold eqF
  rw [datP_int, datP_int]
  show some (PyData.eqv (.int i) (.int j)) = _
  simp only [PyData.eqv]
  by_cases h : i = j <;> simp [h]
theorem neF_int (i j : Int) : neF (.int i) (.int j) = some (!decide (i = j)) := by
  unfold neF
  rw [eqF_int]
  rfl
theorem eqF_tup (a b : List Int) : eqF (.tup (a.map .int)) (.tup (b.map .int)) = some (decide (a = b)) := by
  unfold eqF
  rw [datP_tup, datP_tup]
  show some (PyData.eqv (.tuple _) (.tuple _)) = _
  simp only [PyData.eqv]
  rw [eqv_ints]
theorem eqF_lst (a b : List Int) : eqF (.lst (a.map .int)) (.lst (b.map .int)) = some (decide (a = b)) := by
  unfold eqF
  rw [datP_lst, datP_lst]
  show some (PyData.eqv (.list _) (.list _)) = _
  simp only [PyData.eqv]
  rw [eqv_ints]
theorem neF_str {s : Str} (h : PyData.strOk s = true) : neF (.str s) (.str s) = some false := by
  unfold neF eqF
  rw [datP_str h]
  show some (!PyData.eqv (.str s) (.str s)) = _
  simp [PyData.eqv]
theorem strOk_of (s : String) : PyData.strOk (s : Str) = true := by
  rw [Str.ofString_eq_toList]
  unfold PyData.strOk
  rw [List.all_toArray, List.all_map, List.all_eq_true]
  intro d _
  refine decide_eq_true ?_
  rcases d.valid with h | ⟨_, h⟩
  · exact Nat.lt_trans h (by decide)
  · exact h
theorem len_ofString (s : String) : (s : Str).length = s.length := by
  rw [Str.ofString_eq_toList]
  show ((s.toList.map Char.toNat).toArray).size = _
  rw [List.size_toArray, List.length_map]
  exact String.length_toList
theorem reprF_int {i : Int} (h : i.natAbs.log2 < 1920) : reprF [.int i] = some (.val (.str (toString i : String))) := by
  have e : shwP (.int i) = some (.int i) := by
    unfold shwP
    show (match (some (PyData.int i) : Option PyData) with | some d => _ | none => none) = _
    refine if_pos ⟨by simp [PyData.showable, h], by simp [PyData.hasDict], by simp [PyData.depth], ?_⟩
    have := int_text_length_le (k := 1920) (by decide) h
    simp only [PyData.shown]
    rw [len_ofString]
    unfold lim
    omega
  show (shwP (.int i)).map (fun d => RV.val (.str d.shown)) = _
  rw [e]
  simp only [Option.map_some, PyData.shown]
theorem lg {n : Nat} {k : Nat} (h : n < 2 ^ k) (hk : 0 < k) : n.log2 < k := by
  by_cases h0 : n = 0
  · subst h0
    exact hk
  · exact (Nat.log2_lt h0).mpr h
end
end BL
/-! B, while. -/
namespace BL
noncomputable section
open PySem PySem.Spec PyProof.Rows L2
/-- at most n tests -/
def whileN (c : M Bool) (b : M Fl) : Nat → M Fl
  | 0 => M.no
  | n + 1 => fun r => match c r with
    | .ok true r1 => (match b r1 with
      | .ok .next r2 => whileN c b n r2
      | .ok .cont r2 => whileN c b n r2
      | .ok .brk r2 => .ok .next r2
      | .ok (.ret z) r2 => .ok (.ret z) r2
      | .exc e r2 => .exc e r2
      | .no => .no)
    | .ok false r1 => .ok .next r1
    | .exc e r1 => .exc e r1
    | .no => .no
theorem whileN_up (c : M Bool) (b : M Fl) : ∀ (n : Nat) (r : Env), whileN c b n r ≠ .no → whileN c b (n + 1) r = whileN c b n r
  | 0, r, h => absurd rfl h
  | n + 1, r, h => by
    have e : ∀ k r, whileN c b (k + 1) r = (match c r with
      | .ok true r1 => (match b r1 with
        | .ok .next r2 => whileN c b k r2
        | .ok .cont r2 => whileN c b k r2
        | .ok .brk r2 => .ok .next r2
        | .ok (.ret z) r2 => .ok (.ret z) r2
        | .exc e r2 => .exc e r2
        | .no => .no)
      | .ok false r1 => .ok .next r1
      | .exc e r1 => .exc e r1
      | .no => .no) := fun k r => rfl
    rw [e n r] at h
    rw [e (n + 1) r, e n r]
    cases h1 : c r with
    | exc x r1 => rfl
    | no => rfl
    | ok t r1 =>
      rw [h1] at h
      cases t with
      | false => rfl
      | true =>
        dsimp only at h ⊢
        cases h2 : b r1 with
        | exc x r2 => rfl
        | no => rfl
        | ok f r2 =>
          rw [h2] at h
          cases f with
          | next => exact whileN_up c b n r2 h
          | cont => exact whileN_up c b n r2 h
          | brk => rfl
          | ret z => rfl
theorem whileN_le (c : M Bool) (b : M Fl) {n m : Nat} {r : Env} (h : whileN c b n r ≠ .no) (hm : n ≤ m) : whileN c b m r = whileN c b n r := by
  induction hm with
  | refl => rfl
  | step _ ih => rw [whileN_up c b _ r (by rw [ih]; exact h), ih]
def mWhile (c : M Bool) (b : M Fl) : M Fl := fun r => @dite _ (∃ n, whileN c b n r ≠ .no) (Classical.propDecidable _) (fun h => whileN c b (Classical.choose h) r) fun _ => .no
theorem while_ok {c : M Bool} {b : M Fl} {n : Nat} {r r' : Env} {f : Fl} (h : whileN c b n r = .ok f r') : mWhile c b r = .ok f r' := by
  have hn : whileN c b n r ≠ .no := by rw [h]; exact fun z => by cases z
  have he : ∃ n, whileN c b n r ≠ .no := ⟨n, hn⟩
  unfold mWhile
  rw [dif_pos he]
  have hs := Classical.choose_spec he
  rcases Nat.le_total n (Classical.choose he) with q | q
  · rw [whileN_le c b hn q, h]
  · rw [← whileN_le c b hs q, h]
section
variable {X : Cx} {B : BC} {W : WX} {L : List Addr} {s0 s : BS} {D : Ends} {c : Expr} {body : List Stmt} {mc : M Bool} {mb : M Fl} {pos : Pos}
theorem bs_while (hp : PassesOwn (model X.prog X.w) X.A X.env X.xe) (hc : PT X c (tT B W mc)) (hb : PSs X body (tS B W mb)) : PS X (.While c body [] pos) (tS B W (mWhile mc mb)) := by
  refine (ps_while hp hc hb).imp fun D σ H h => ?_
  obtain ⟨L, s, rfl, rfl, R, P⟩ := h
  unfold mWhile at P
  by_cases he : ∃ n, whileN mc mb n s.r ≠ .no
  · rw [dif_pos he] at P
    refine ⟨fun m σ H => ∃ s2, s2.s = σ ∧ s2.w.H = H ∧ Ex B L s s2 ∧ PostS B L W s D (whileN mc mb m s2.r), ⟨Classical.choose he, s, rfl, rfl, Ex.refl R, P⟩, ?_⟩
    rintro m σ H ⟨s2, rfl, rfl, x, P⟩
    cases m with
    | zero => exact P.elim
    | succ m =>
      refine ⟨L, s2, rfl, rfl, x.rel, ?_⟩
      have P : PostS B L W s D (match mc s2.r with
        | .ok true r1 => (match mb r1 with
          | .ok .next r2 => whileN mc mb m r2
          | .ok .cont r2 => whileN mc mb m r2
          | .ok .brk r2 => .ok .next r2
          | .ok (.ret z) r2 => .ok (.ret z) r2
          | .exc e r2 => .exc e r2
          | .no => .no)
        | .ok false r1 => .ok .next r1
        | .exc e r1 => .exc e r1
        | .no => .no) := P
      cases e1 : mc s2.r with
      | exc q r1 =>
        rw [e1] at P
        exact fun w' y C hC => P s2.s w' (x.trans y) C hC
      | no => rw [e1] at P; exact P.elim
      | ok t r1 =>
        rw [e1] at P
        intro w1 t' y ht
        cases (show t = t' from ht)
        cases t with
        | false =>
          rw [if_neg Bool.false_ne_true]
          exact P s2.s w1 (x.trans y)
        | true =>
          rw [if_pos rfl]
          have x1 := x.trans y
          refine ⟨fun σ' H' => ∃ s3, s3.s = σ' ∧ s3.w.H = H' ∧ Ex B L s s3 ∧ PostS B L W s D (whileN mc mb m s3.r), fun σ' H' z => ⟨m, Nat.lt_succ_self m, z⟩, L, ⟨r1, s2.s, w1⟩, rfl, rfl, y.rel, ?_⟩
          dsimp only at P ⊢
          cases e2 : mb r1 with
          | exc q r2 =>
            rw [e2] at P
            exact fun σ w z => P σ w (x1.trans z)
          | no => rw [e2] at P; exact P.elim
          | ok f r2 =>
            rw [e2] at P
            cases f with
            | next => exact fun σ w z => ⟨⟨r2, σ, w⟩, rfl, rfl, x1.trans z, P⟩
            | cont => exact fun σ w z => ⟨⟨r2, σ, w⟩, rfl, rfl, x1.trans z, P⟩
            | brk => exact fun σ w z => P σ w (x1.trans z)
            | ret q => exact fun σ w v z hv => P σ w v (x1.trans z) (hv.weak x1)
  · rw [dif_neg he] at P
    exact P.elim
end
end
end BL
/-! B, further built-ins and operators: int(x), in, not in. -/
namespace BL
noncomputable section
open PySem PySem.Spec PyProof.Rows L2
/-! ### int(x): ints, bools, texts of digits -/
def intF : List PV → Option RV
  | [.int i] => some (.val (.int i))
  | [.bl b] => some (.val (.int (if b then 1 else 0)))
  | [.str a] => @ite _ (a.length ≤ 640) (Classical.propDecidable _) ((PySem.intText? a).map fun n => .val (.int n)) none
  | _ => none
abbrev rInt1 : List V → Hp → VK → Prop := fun xs H Q => (∃ i, xs = [.int i] ∧ Q (.int i) H) ∨ ∃ k, xs = [.bl k] ∧ Q (.int (if k then 1 else 0)) H
abbrev rIntS : List V → Hp → VK → Prop := fun xs H Q => ∃ a n, xs = [.str a] ∧ PySem.intText? a = some n ∧ a.length ≤ 640 ∧ Q (.int n) H
theorem call_intB {X : Cx} : CallR X (.type "int") (fun xs H Q => rInt1 xs H Q ∨ rIntS xs H Q) := CallR.or call_int1 call_int_str
theorem ok_int {B : BC} : OkRs B (fun xs H Q => rInt1 xs H Q ∨ rIntS xs H Q) intF := by
  intro L s ps xs z Q R cp e k
  match ps, cp, e with
  | [.int i], cp, e =>
    obtain ⟨x, rfl, c1⟩ := cp.one
    cases e
    cases (show x = .int i from c1)
    exact .inl (.inl ⟨i, rfl, OkRs.l R k rfl⟩)
  | [.bl b], cp, e =>
    obtain ⟨x, rfl, c1⟩ := cp.one
    cases e
    cases (show x = .bl b from c1)
    exact .inl (.inr ⟨b, rfl, OkRs.l R k rfl⟩)
  | [.str a], cp, e =>
    obtain ⟨x, rfl, c1⟩ := cp.one
    cases (show x = .str a from c1)
    have e : @ite _ (a.length ≤ 640) (Classical.propDecidable _) ((PySem.intText? a).map fun n => RV.val (.int n)) none = some z := e
    split at e
    · rename_i hz
      obtain ⟨n, e1, e2⟩ := Option.map_eq_some_iff.mp e
      subst e2
      exact .inr ⟨a, n, rfl, e1, hz, OkRs.l R k rfl⟩
    · cases e
/-! ### in, not in: lists of data -/
def inF (p q : PV) : Option Bool := match q with
  | .lst _ => (match datP p, datP q with
    | some d, some (.list ds) => some (ds.any fun z => PyData.eqv z d)
    | _, _ => none)
  | _ => none
def notInF (p q : PV) : Option Bool := (inF p q).map (!·)
theorem ok_in {B : BC} : OkR2 B (rInD B.K) (asV inF) := by
  intro L s p q x y z Q R cp cq e k
  unfold asV inF at e
  split at e
  · split at e
    · rename_i d ds e1 e2
      cases e
      obtain ⟨h1, s1⟩ := datP_inv e1
      obtain ⟨h2, s2⟩ := datP_inv e2
      exact ⟨d, ds, toD_con cp h1, toD_con cq h2, s1, s2, k s.w _ (.refl R) rfl⟩
    · cases e
  · cases e
theorem ok_notIn {B : BC} : OkR2 B (rNotInD B.K) (asV notInF) := by
  intro L s p q x y z Q R cp cq e k
  unfold asV notInF inF at e
  split at e
  · split at e
    · rename_i d ds e1 e2
      cases e
      obtain ⟨h1, s1⟩ := datP_inv e1
      obtain ⟨h2, s2⟩ := datP_inv e2
      exact ⟨d, ds, toD_con cp h1, toD_con cq h2, s1, s2, k s.w _ (.refl R) rfl⟩
    · cases e
  · cases e
end
end BL
/-! B, empty dicts as values, and repr of tuples that hold them. -/
namespace BL
noncomputable section
open PySem PySem.Spec PyProof.Rows L2
section
variable {B : BC} {L : List Addr} {s : BS} {W : WX} {X : Cx} {pos : Pos}
theorem Rel.newDict (R : Rel B L s) {p : Addr} (hn : s.w.H p = none) : RRel B L s ⟨s.r, s.s, ⟨upd s.w.H p (.dK []), s.w.F, s.w.O⟩⟩ (.fresh (.dic [] [])) (.ref p) := by
  refine ⟨p, rfl, ⟨R.notF hn, R.notO hn, .inr ⟨[], [], [], rfl, .inl ⟨[], rfl, rfl, upd_same⟩, rfl⟩⟩, fun h => ?_, hn⟩
  exact R.notHeld hn h
def mDict0 : M RV := M.pure (.fresh (.dic [] []))
theorem be_dict0 : PE X (.Dict [] [] pos) (tB B W mDict0) := by
  refine pe_dnewK.imp fun σ H Q h => ?_
  obtain ⟨L, s, rfl, rfl, R, P⟩ := h
  exact fun p hn => P.fin (R.alloc hn) (R.newDict hn)
end
mutual
def toN : PV → Option PyData
  | .non => some .none
  | .bl b => some (.bool b)
  | .int i => some (.int i)
  | .str s => some (.str s)
  | .tup xs => (toNs xs).map .tuple
  | .dic [] [] => some (.dict [])
  | _ => none
def toNs : List PV → Option (List PyData)
  | [] => some []
  | x :: xs => match toN x, toNs xs with
    | some d, some ds => some (d :: ds)
    | _, _ => none
end
section
variable {X : Cx} {pins : List (Addr × Obj)} {σ : L2.St} {s : Shared} {w : Wd}
theorem dic0_reads (I : Inv X pins σ w.H s) {a : Addr} (h : DicC w.H a [] []) : ∃ as, Reads s.heap (.ref a) (.dict []) as ∧ sysModules ∉ as := by
  rcases h with ⟨kk, e1, e2, h⟩ | ⟨kk, e1, e2, h⟩
  · have hk : kk = [] := List.eq_nil_of_length_eq_zero e2
    subst hk
    obtain ⟨_, hs, vs, kv, o, es, ep, h1, h2, h3, _, h4, _⟩ := (show ObjOk X.prog X.w w.H s.heap a (.dK []) from I.hok a _ h)
    cases kv
    have he : es.toList = [] := List.eq_nil_of_length_eq_zero (by simpa using h4.length)
    refine ⟨_, .dict (kvs := []) h1 h2.1 h3 (by rw [he]; exact .nil) (by rw [he]; exact .nil), fun hm => ?_⟩
    have e : sysModules = a := by simpa using hm
    rw [e] at hs
    simp at hs
  · have hk : kk = [] := List.eq_nil_of_length_eq_zero e2
    subst hk
    obtain ⟨_, hs, xs, pr, o, es, ep, h1, h2, h3, h4, _⟩ := (show ObjOk X.prog X.w w.H s.heap a (.dT []) from I.hok a _ h)
    cases pr
    have he : es.toList = [] := by rw [h4]; rfl
    refine ⟨_, .dict (kvs := []) h1 h2.1 h3 (by rw [he]; exact .nil) (by rw [he]; exact .nil), fun hm => ?_⟩
    have e : sysModules = a := by simpa using hm
    rw [e] at hs
    simp at hs
mutual
theorem toN_reads (I : Inv X pins σ w.H s) : ∀ {p : PV} {v : V} {u : Value} {d : PyData}, Rep X.K w p v → toN p = some d → RelV v u → ∃ as, Reads s.heap u d as ∧ sysModules ∉ as
  | .non, _, _, _, h, e, r => by
    cases e
    cases (show _ = V.non from h)
    cases r
    exact ⟨[], .none, List.not_mem_nil⟩
  | .bl b, _, _, _, h, e, r => by
    cases e
    cases (show _ = V.bl b from h)
    cases r
    exact ⟨[], .bool b, List.not_mem_nil⟩
  | .int i, _, _, _, h, e, r => by
    cases e
    cases (show _ = V.int i from h)
    obtain ⟨t, rfl⟩ := r
    exact ⟨[], .int i t, List.not_mem_nil⟩
  | .str x, _, _, _, h, e, r => by
    cases e
    cases (show _ = V.str x from h)
    obtain ⟨t, rfl⟩ := r
    exact ⟨[], .str x t, List.not_mem_nil⟩
  | .tup xs, _, _, _, h, e, r => by
    obtain ⟨a, vs, rfl, hq, rs⟩ := h
    cases r
    unfold toN at e
    obtain ⟨ds, e1, rfl⟩ := Option.map_eq_some_iff.mp e
    obtain ⟨its, rv, ⟨o, h1, h2, n, h3⟩, _⟩ := I.tuple (.inl (.inl hq))
    obtain ⟨as, hr, hn⟩ := toNs_reads I rs e1 rv
    exact ⟨as, .tuple h1 h2 h3 (by simpa using hr), hn⟩
  | .dic [] [], _, _, _, h, e, r => by
    cases e
    obtain ⟨a, vs, rfl, _, hd, rs⟩ := h
    cases r
    cases (show vs = [] from rs)
    exact dic0_reads I hd
  | .dic (_ :: _) _, _, _, _, _, e, _ => by cases e
  | .dic [] (_ :: _), _, _, _, _, e, _ => by cases e
  | .lst _, _, _, _, _, e, _ => by cases e
  | .obj _, _, _, _, _, e, _ => by cases e
  | .exc _, _, _, _, _, e, _ => by cases e
  | .scr _, _, _, _, _, e, _ => by cases e
theorem toNs_reads (I : Inv X pins σ w.H s) : ∀ {ps : List PV} {vs : List V} {us : List Value} {ds : List PyData}, Reps X.K w ps vs → toNs ps = some ds → Vals vs us → ∃ as, ReadsAll s.heap us ds as ∧ sysModules ∉ as
  | [], _, _, _, h, e, r => by
    cases e
    cases (show _ = ([] : List V) from h)
    cases r
    exact ⟨[], .nil, List.not_mem_nil⟩
  | p :: ps, _, _, _, h, e, r => by
    obtain ⟨v, vr, rfl, h1, h2⟩ := h
    unfold toNs at e
    cases e1 : toN p with
    | none => rw [e1] at e; cases e
    | some d =>
      cases e2 : toNs ps with
      | none => rw [e1, e2] at e; cases e
      | some ds =>
        rw [e1, e2] at e
        cases e
        cases r with
        | cons r1 r2 =>
          obtain ⟨as, k1, k2⟩ := toN_reads I h1 e1 r1
          obtain ⟨bs, k3, k4⟩ := toNs_reads I h2 e2 r2
          exact ⟨as ++ bs, .cons k1 k3, fun z => (List.mem_append.mp z).elim k2 k4⟩
end
end
end
end BL
/-! B: repr of a display, whose items stay as they are; what looks at a display. -/
namespace BL
noncomputable section
open PySem PySem.Spec PyProof.Rows L2
def reprLF (ps : List PV) : Option RV := @ite _ (ps.length ≤ lim) (Classical.propDecidable _) (reprF [.lst ps]) none
def reprTF (ps : List PV) : Option RV := @ite _ (ps.length ≤ lim) (Classical.propDecidable _) (reprF [.tup ps]) none
section
variable {X : Cx} {B : BC} {W : WX} {L : List Addr} {s0 s : BS}
theorem Cons.len {K : PySem.W.Frag} {w : Wd} : ∀ {ps : List PV} {vs : List V}, Cons K w ps vs → ps.length = vs.length
  | _, _, .nil => rfl
  | _, _, .cons _ t => congrArg (· + 1) (Cons.len t)
theorem toDs_con {K : PySem.W.Frag} {w : Wd} : ∀ {ps : List PV} {vs : List V} {ds : List PyData}, Cons K w ps vs → toDs ps = some ds → DpAll K w.H vs ds
  | _, _, _, .nil, e => by
    cases e
    exact .nil
  | p :: ps, _, _, .cons h t, e => by
    unfold toDs at e
    cases e1 : toD p with
    | none => rw [e1] at e; cases e
    | some d =>
      cases e2 : toDs ps with
      | none => rw [e1, e2] at e; cases e
      | some ds =>
        rw [e1, e2] at e
        cases e
        exact .cons (toD_con h e1) (toDs_con t e2)
theorem Paired.mono' {α β : Type} {R S : α → β → Prop} (h : ∀ a b, R a b → S a b) : ∀ {as : List α} {bs : List β}, Paired R as bs → Paired S as bs
  | _, _, .nil => .nil
  | _, _, .cons a t => .cons (h _ _ a) (Paired.mono' h t)
theorem be_reprL {k : Nat} {p lp pos : Pos} {es : List Expr} {ms : M (List RV)} (hK : X.K = B.K) (hr : Room k X.A) (hG : Gd X.A) (hg : Gl X "repr") (hm : X.mg "repr" = none) (ha : PA X es (tA B W ms)) (hs : starEach [Expr.List es lp] X.env = (false, eval (.List es lp) X.env) :: starEach [] X.env := by rfl) (hpl : (backTo pos (starEach [] X.env)).any (·.1) = false := by rfl) : PE X (.Call (.Name "repr" p) [.List es lp] [] pos) (tB B W (mBlt reprLF ms)) := by
  refine (pe_callB (call_reprB hr hG) hg hm (by rfl) (pa_cons (pe_lst (pos := lp) ha) pa_nil hs) (by decide) (by decide) hs hpl).imp fun σ H Q h => ?_
  refine (tG.bind (T := RRels) h).mono fun vs H1 q => ?_
  obtain ⟨L, s0, s, rs, rfl, rfl, R0, A, hx, P⟩ := q
  unfold lookN at P
  cases e1 : peeks s.r rs with
  | none => rw [e1] at P; exact P.elim
  | some ps =>
    rw [e1] at P
    dsimp only at P
    cases e2 : reprLF ps with
    | none => rw [e2] at P; exact P.elim
    | some z =>
      rw [e2] at P
      have e2 : @ite _ (ps.length ≤ lim) (Classical.propDecidable _) (reprF [.lst ps]) none = some z := e2
      split at e2
      · rename_i hl
        have e2 : (shwP (.lst ps)).map (fun d => RV.val (.str d.shown)) = some z := e2
        obtain ⟨d, e3, e4⟩ := Option.map_eq_some_iff.mp e2
        subst e4
        have hc := peeks_con A.rel hx.1 e1
        refine ⟨by rw [← hc.len, ← lim_eq]; exact hl, fun a hn => ?_⟩
        unfold shwP at e3
        split at e3
        · rename_i d' e5
          split at e3
          · rename_i hz
            cases e3
            have A2 := A.rel.alloc hn (o := .lst vs)
            have hx2 : Paired (RRel B L s0 ⟨s.r, s.s, ⟨upd s.w.H a (.lst vs), s.w.F, s.w.O⟩⟩) rs vs := Paired.mono' (fun r v h => h.at A2 A.rel) hx.1
            have hc2 := peeks_con (s := ⟨s.r, s.s, ⟨upd s.w.H a (.lst vs), s.w.F, s.w.O⟩⟩) A2.rel hx2 e1
            unfold toD at e5
            cases e6 : toDs ps with
            | none => rw [e6] at e5; cases e5
            | some ds =>
              rw [e6] at e5
              cases e5
              refine ⟨.ref a, _, rfl, ?_, hz.1, hz.2.1, hz.2.2.1, by rw [← lim_eq]; exact hz.2.2.2, ?_⟩
              · have := toDs_con hc2 e6
                rw [hK]
                exact .lst (.inl (.inl upd_same)) this
              · exact P.fin (A.trans A2) rfl
          · cases e3
        · cases e3
      · cases e2
theorem be_reprT {k : Nat} {kk : Nat} {p lp pos : Pos} {es : List Expr} {ms : M (List RV)} (hK : X.K = B.K) (hr : Room k X.A) (hG : Gd X.A) (hg : Gl X "repr") (hm : X.mg "repr" = none) (ha : PA X es (tA B W ms)) (hs : starEach [Expr.Tuple es kk lp] X.env = (false, eval (.Tuple es kk lp) X.env) :: starEach [] X.env := by rfl) (hpl : (backTo pos (starEach [] X.env)).any (·.1) = false := by rfl) : PE X (.Call (.Name "repr" p) [.Tuple es kk lp] [] pos) (tB B W (mBlt reprTF ms)) := by
  refine (pe_callB (call_reprB hr hG) hg hm (by rfl) (pa_cons (pe_tup (pos := lp) ha) pa_nil hs) (by decide) (by decide) hs hpl).imp fun σ H Q h => ?_
  refine (tG.bind (T := RRels) h).mono fun vs H1 q => ?_
  obtain ⟨L, s0, s, rs, rfl, rfl, R0, A, hx, P⟩ := q
  unfold lookN at P
  cases e1 : peeks s.r rs with
  | none => rw [e1] at P; exact P.elim
  | some ps =>
    rw [e1] at P
    dsimp only at P
    cases e2 : reprTF ps with
    | none => rw [e2] at P; exact P.elim
    | some z =>
      rw [e2] at P
      have e2 : @ite _ (ps.length ≤ lim) (Classical.propDecidable _) (reprF [.tup ps]) none = some z := e2
      split at e2
      · rename_i hl
        have e2 : (shwP (.tup ps)).map (fun d => RV.val (.str d.shown)) = some z := e2
        obtain ⟨d, e3, e4⟩ := Option.map_eq_some_iff.mp e2
        subst e4
        have hc := peeks_con A.rel hx.1 e1
        refine ⟨by rw [← hc.len, ← lim_eq]; exact hl, fun a hn => ?_⟩
        unfold shwP at e3
        split at e3
        · rename_i d' e5
          split at e3
          · rename_i hz
            cases e3
            have A2 := A.rel.alloc hn (o := .tup vs)
            have hx2 : Paired (RRel B L s0 ⟨s.r, s.s, ⟨upd s.w.H a (.tup vs), s.w.F, s.w.O⟩⟩) rs vs := Paired.mono' (fun r v h => h.at A2 A.rel) hx.1
            have hc2 := peeks_con (s := ⟨s.r, s.s, ⟨upd s.w.H a (.tup vs), s.w.F, s.w.O⟩⟩) A2.rel hx2 e1
            unfold toD at e5
            cases e6 : toDs ps with
            | none => rw [e6] at e5; cases e5
            | some ds =>
              rw [e6] at e5
              cases e5
              refine ⟨.ref a, _, rfl, ?_, hz.1, hz.2.1, hz.2.2.1, by rw [← lim_eq]; exact hz.2.2.2, ?_⟩
              · have := toDs_con hc2 e6
                rw [hK]
                exact .tup (.inl (.inl upd_same)) this
              · exact P.fin (A.trans A2) rfl
          · cases e3
        · cases e3
      · cases e2
end
end
end BL
/-! B: keyword-only parameters: calls that name them, calls that leave them out. -/
namespace BL
noncomputable section
open PySem PySem.Spec PyProof.Rows L2
/-- positional values, then those of the keywords -/
def mAppA (m n : M (List RV)) : M (List RV) := m.bind fun xs => n.bind fun ys => M.pure (xs ++ ys)
section
variable {B : BC} {W : WX} {L : List Addr} {s0 s s' : BS} {X : Cx}
theorem pair_app {α β : Type} {R : α → β → Prop} : ∀ {as bs : List α} {xs ys : List β}, Paired R as xs → Paired R bs ys → Paired R (as ++ bs) (xs ++ ys)
  | _, _, _, _, .nil, h => h
  | _, _, _, _, .cons a t, h => .cons a (pair_app t h)
theorem freshA_app : ∀ {rs qs : List RV} {vs us : List V}, rs.length = vs.length → freshA (rs ++ qs) (vs ++ us) = freshA rs vs ++ freshA qs us
  | [], _, [], _, _ => rfl
  | [], _, _ :: _, _, h => by cases h
  | _ :: _, _, [], _, h => by cases h
  | r :: rs, qs, v :: vs, us, h => by
    have h := Nat.succ.inj h
    have ih := freshA_app (qs := qs) (us := us) h
    cases r with
    | fresh p =>
      cases v with
      | ref a => show a :: freshA (rs ++ qs) (vs ++ us) = a :: freshA rs vs ++ _; rw [ih]; rfl
      | _ => exact ih
    | val p => exact ih
    | slot i => exact ih
    | loan k => exact ih
theorem freshA_there : ∀ {rs : List RV} {vs : List V} {a : Addr}, Paired (RRel B L s0 s) rs vs → a ∈ freshA rs vs → ∃ o, s.w.H a = some o
  | _, _, _, .nil, h => by cases h
  | r :: rs, v :: vs, a, .cons h t, hm => by
    cases r with
    | fresh p =>
      obtain ⟨b, rfl, o, n, z⟩ := h
      unfold freshA at hm
      rcases List.mem_cons.mp hm with rfl | hm
      · exact o.there
      · exact freshA_there t hm
    | val p => unfold freshA at hm; exact freshA_there t hm
    | slot p => unfold freshA at hm; exact freshA_there t hm
    | loan p => unfold freshA at hm; exact freshA_there t hm
/-- what is asked of a def that is called with keywords -/
def CalK (P : Program) (w : World) (K : PySem.W.Frag) (mg : Str → Option Value) (base : Heap) (cl : List Addr) (x : Str) (k n1 : Nat) (ks : List Str) (F : Fn) : Prop :=
  ∃ f fd ps, FnG P w K mg base (L2.CX P w) k f fd ps (spF ⟨K, cl⟩ (n1 + ks.length) F) ∧ Plain F ∧ mg x = some (.ref f) ∧ PySem.W.keepIn K (.ref f) = true ∧ KBn K fd ps n1 ks (· ++ ·) (· ++ ·)
/-- the same where they are left out: the defaults are dvs -/
def CalD (P : Program) (w : World) (K : PySem.W.Frag) (mg : Str → Option Value) (base : Heap) (cl : List Addr) (x : Str) (k n1 : Nat) (dvs : List V) (F : Fn) : Prop :=
  ∃ f fd ps ds, FnG P w K mg base (L2.CX P w) k f fd ps (spF ⟨K, cl⟩ (n1 + dvs.length) F) ∧ Plain F ∧ mg x = some (.ref f) ∧ PySem.W.keepIn K (.ref f) = true ∧ Vals dvs ds ∧ Binds K fd ps ds
variable {x : Str} {p pos : Pos} {e : Expr} {es : List Expr} {kws : List Keyword} {ms mk : M (List RV)} {F : Fn} {k n1 n : Nat} {ks : List Str} {cl : List Addr} {f : Addr} {fd : FuncData} {ps : List Str} {sp : Sp} {CX : CXT}
theorem run_fnGK {E : L2.St → XK} {σ : L2.St} {H : Hp} {pins : List (Addr × Obj)} {s : Shared} {Q : VK} {us ws : List Value} {vs zs : List V} (F : FnG X.prog X.w X.K X.mg X.base CX k f fd ps sp) (hr : Room k X.A) (hG : Gd X.A) (hb : KBn X.K fd ps n1 ks (· ++ ·) (· ++ ·)) (hx : PassesAt CX X σ (E σ))
    (I : Inv X pins σ H s) (r : Vals vs us) (rz : Vals zs ws) (l1 : vs.length = n1) (l2 : zs.length = ks.length) (h : sp (vs ++ zs) H Q (E σ)) : wpAny (model X.prog X.w) X.A (call (.ref f) us (ks.zip ws)) (EP X pins σ Q) X.xe s := by
  have b := hb.to s us ws I.kIn (r.length.symm.trans l1) (rz.length.symm.trans l2)
  refine wpAny_call (codeAny_mono (F.run X.A X.stack s H ⟨us, ks.zip ws⟩ (us ++ ws) (vs ++ zs) Q (E σ) hr hG I.env0 b (hb.rel r rz) h) fun r s' hq => ?_)
  rcases r with e | fl
  · exact hx pins H s e s' I hq
  · cases fl with
    | ret u => exact I.after hq
    | next => exact False.elim hq
    | brk => exact False.elim hq
    | cont => exact False.elim hq
theorem run_fnGD {E : L2.St → XK} {σ : L2.St} {H : Hp} {pins : List (Addr × Obj)} {s : Shared} {Q : VK} {us ds : List Value} {vs dvs : List V} (F : FnG X.prog X.w X.K X.mg X.base CX k f fd ps sp) (hr : Room k X.A) (hG : Gd X.A) (hb : Binds X.K fd ps ds) (rd : Vals dvs ds) (hx : PassesAt CX X σ (E σ))
    (I : Inv X pins σ H s) (r : Vals vs us) (h : sp (vs ++ dvs) H Q (E σ)) : wpAny (model X.prog X.w) X.A (call (.ref f) us) (EP X pins σ Q) X.xe s := by
  have rr := r.append rd
  have b := hb s us I.kIn (by rw [← rr.length]; exact F.len _ _ _ _ h)
  refine wpAny_call (codeAny_mono (F.run X.A X.stack s H ⟨us, []⟩ (us ++ ds) (vs ++ dvs) Q (E σ) hr hG I.env0 b rr h) fun r s' hq => ?_)
  rcases r with e | fl
  · exact hx pins H s e s' I hq
  · cases fl with
    | ret u => exact I.after hq
    | next => exact False.elim hq
    | brk => exact False.elim hq
    | cont => exact False.elim hq
theorem be_calK (c : CalK X.prog X.w X.K X.mg X.base cl x k n1 ks F) (hr : Room k X.A) (hG : Gd X.A) (hg : Gl X x) (tk : Takes X W) (ha : PA X (e :: es) (tA ⟨X.K, cl⟩ W ms)) (hk : PK X kws (tA ⟨X.K, cl⟩ W mk)) (hl1 : ∀ r rs e', ms r = .ok rs e' → rs.length = n1) (hl2 : ∀ r rs e', mk r = .ok rs e' → rs.length = ks.length)
    (hall : (backToKw pos (keywordEach kws X.env)).all (·.1.isSome) = true := by rfl) (hks : (backToKw pos (keywordEach kws X.env)).filterMap (·.1) = ks := by rfl)
    (hdb : (x == ("__debug__" : Str)) = false := by decide) (he : starEach (e :: es) X.env = (false, eval e X.env) :: starEach es X.env := by rfl)
    (hpl : ((backTo pos (starEach (e :: es) X.env)).any (·.1) || (backToKw pos (keywordEach kws X.env)).any (·.1.isNone)) = false := by rfl) :
    PE X (.Call (.Name x p) (e :: es) kws pos) (tB ⟨X.K, cl⟩ W (mCall F (mAppA ms mk))) := by
  obtain ⟨f, fd, ps, G, hF, hm, hkp, hb⟩ := c
  refine ⟨fun pins s σ H Q I h => ?_⟩
  refine wpAny_Call_Name_kw (ld_glob I hg hm ?_ hdb)
  have hall' := hall
  obtain ⟨L, s0, e1, e2, R, P⟩ := h
  have h1 : tA ⟨X.K, cl⟩ W ms σ H fun vs H1 => ∃ s1 rs, s1.w.H = H1 ∧ At ⟨X.K, cl⟩ L s0 s1 ∧ RRels ⟨X.K, cl⟩ L s0 s1 rs vs ∧ rs.length = n1 ∧ Post RRel ⟨X.K, cl⟩ L W s0 Q (((mk.bind fun ys => M.pure (rs ++ ys)).bind fun rs => callV F rs) s1.r) := by
    refine ⟨L, s0, e1, e2, R, ?_⟩
    unfold mCall mAppA at P
    cases q : ms s0.r with
    | ok rs r1 =>
      intro w' vs xx hv
      refine ⟨⟨r1, s0.s, w'⟩, rs, rfl, ⟨xx, rfl⟩, hv, hl1 _ _ _ q, ?_⟩
      unfold M.bind at P ⊢
      rw [q] at P
      exact P
    | exc cc r1 =>
      unfold M.bind at P
      rw [q] at P
      exact P
    | no =>
      unfold M.bind at P
      rw [q] at P
      exact P.elim
  refine PySem.W.callWith_KW (h₀ := X.base) I.ok.mod.kin hkp hall (thn (ha.run pos pins s σ H _ I h1) fun us sh1 ⟨vs, H1, I1, r, s1, rs, eH, A, hv, hl, P1⟩ => ?_) hpl he
  subst eH
  have h2 : tA ⟨X.K, cl⟩ W mk s1.s s1.w.H fun zs H2 => zs.length = ks.length ∧ vs.length = n1 ∧ spF ⟨X.K, cl⟩ (n1 + ks.length) F (vs ++ zs) H2 Q (WE W s1.s) := by
    refine ⟨L, s1, rfl, rfl, A.rel, ?_⟩
    cases q : mk s1.r with
    | ok qs r2 =>
      intro w' zs xx hz
      have A2 : At ⟨X.K, cl⟩ L s1 ⟨r2, s1.s, w'⟩ := ⟨xx, rfl⟩
      have lz := hl2 _ _ _ q
      have e3 : vs.length = rs.length := (Paired.length hv.1).symm
      have e4 : zs.length = qs.length := (Paired.length hz.1).symm
      refine ⟨by rw [e4, lz], by rw [e3, hl], ?_⟩
      have hv2 := hv.keep A2 A.rel
      have hz2 := RRels.weak A.x hz
      have both : RRels ⟨X.K, cl⟩ L s0 ⟨r2, s1.s, w'⟩ (rs ++ qs) (vs ++ zs) := by
        refine ⟨pair_app hv2.1 hz2.1, ?_⟩
        rw [freshA_app e3.symm]
        refine List.nodup_append.mpr ⟨hv.2, hz.2, fun a ha b hb hab => ?_⟩
        subst hab
        obtain ⟨o, eo⟩ := freshA_there hv.1 ha
        have := freshA_mem hz.1 hb
        rw [this] at eo
        cases eo
      have P2 : Post RRel ⟨X.K, cl⟩ L W s0 Q (callV F (rs ++ qs) r2) := by
        unfold M.bind at P1
        rw [q] at P1
        exact P1
      exact callV_ok (s := ⟨r2, s1.s, w'⟩) hF (by rw [List.length_append, hl, lz]) (A.trans A2) both P2
    | exc cc r2 =>
      unfold M.bind at P1
      rw [q] at P1
      intro w' xx C hC
      have e5 : s1.s = s0.s := A.e
      rw [e5] at xx ⊢
      exact P1 w' (A.x.trans xx) C hC
    | no =>
      unfold M.bind at P1
      rw [q] at P1
      exact P1.elim
  have es : s1.s = σ := A.e.trans e1
  rw [es] at h2
  refine thn (hk.run pos pins sh1 σ s1.w.H _ I1 h2) fun ws s2 ⟨zs, H2, I2, rz, l2, l1, q2⟩ => ⟨I2.kIn, ?_⟩
  rw [hks]
  exact run_fnGK (E := WE W) G hr hG hb (passAt tk _) I2 r rz l1 l2 q2
theorem be_calD {dvs : List V} {dps : List PV} (c : CalD X.prog X.w X.K X.mg X.base cl x k n1 dvs F) (hr : Room k X.A) (hG : Gd X.A) (hg : Gl X x) (tk : Takes X W) (ha : PA X (e :: es) (tA ⟨X.K, cl⟩ W ms)) (hl1 : ∀ r rs e', ms r = .ok rs e' → rs.length = n1) (hd : ∀ w, Reps X.K w dps dvs)
    (hdb : (x == ("__debug__" : Str)) = false := by decide) (he : starEach (e :: es) X.env = (false, eval e X.env) :: starEach es X.env := by rfl) (hpl : (backTo pos (starEach es X.env)).any (·.1) = false := by rfl) :
    PE X (.Call (.Name x p) (e :: es) [] pos) (tB ⟨X.K, cl⟩ W (mCall F (mAppA ms (M.pure (dps.map .val))))) := by
  obtain ⟨f, fd, ps, ds, G, hF, hm, hkp, rd, hb⟩ := c
  refine ⟨fun pins s σ H Q I h => ?_⟩
  refine wpAny_Call_Name_kw (ld_glob I hg hm ?_ hdb)
  obtain ⟨L, s0, e1, e2, R, P⟩ := h
  have h1 : tA ⟨X.K, cl⟩ W ms σ H fun vs H1 => spF ⟨X.K, cl⟩ (n1 + dvs.length) F (vs ++ dvs) H1 Q (WE W σ) := by
    refine ⟨L, s0, e1, e2, R, ?_⟩
    unfold mCall mAppA at P
    cases q : ms s0.r with
    | ok rs r1 =>
      intro w' vs xx hv
      have A : At ⟨X.K, cl⟩ L s0 ⟨r1, s0.s, w'⟩ := ⟨xx, rfl⟩
      have P2 : Post RRel ⟨X.K, cl⟩ L W s0 Q (callV F (rs ++ dps.map .val) r1) := by
        unfold M.bind at P
        rw [q] at P
        exact P
      have both : RRels ⟨X.K, cl⟩ L s0 ⟨r1, s0.s, w'⟩ (rs ++ dps.map .val) (vs ++ dvs) := by
        have hp : ∀ {qs : List PV} {us : List V}, Reps X.K w' qs us → Paired (RRel ⟨X.K, cl⟩ L s0 ⟨r1, s0.s, w'⟩) (qs.map .val) us := by
          intro qs
          induction qs with
          | nil => intro us h; cases (show us = [] from h); exact .nil
          | cons a r ih =>
            intro us h
            obtain ⟨v, t, rfl, h1, h2⟩ := h
            exact .cons h1 (ih h2)
        have hf : ∀ {qs : List PV} {us : List V}, freshA (qs.map RV.val) us = [] := by
          intro qs
          induction qs with
          | nil => intro us; cases us <;> rfl
          | cons a r ih => intro us; cases us with
            | nil => rfl
            | cons v t => exact ih (us := t)
        refine ⟨pair_app hv.1 (hp (hd w')), ?_⟩
        rw [freshA_app (Paired.length hv.1), hf, List.append_nil]
        exact hv.2
      have ld : dps.length = dvs.length := (hd w').length
      have := callV_ok (s := ⟨r1, s0.s, w'⟩) (n := n1 + dvs.length) hF (by rw [List.length_append, hl1 _ _ _ q, List.length_map, ld]) A both P2
      rw [← e1]
      exact this
    | exc cc r1 =>
      unfold M.bind at P
      rw [q] at P
      exact P
    | no =>
      unfold M.bind at P
      rw [q] at P
      exact P.elim
  exact PySem.W.callWith_K (h₀ := X.base) I.ok.mod.kin hkp (thn (ha.run pos pins s σ H _ I h1) fun us s1 ⟨vs, H1, I1, r, q⟩ => ⟨I1.kIn, run_fnGD (E := WE W) G hr hG hb rd (passAt tk σ) I1 r q⟩) he hpl
/-- the keyword-only parameters are all given by keyword -/
theorem kbn_kw {K : PySem.W.Frag} {x qual : Str} {params : Arguments} {body : List Stmt} {scope : Scope} {kws : List (Str × V)} (F : FunD K x qual params body scope [] kws f fd)
    (h : ∀ (kV doc pm : Value) (an : Option Addr) (cdv ct : Value) (us ws : List Value), us.length = n1 → ws.length = ks.length → bindArgs (PySem.W.fnOf x qual params body scope .none kV doc pm an cdv ct) ⟨us, ks.zip ws⟩ = pure (ps.zip (us ++ ws))) : KBn K fd ps n1 ks (· ++ ·) (· ++ ·) := by
  obtain ⟨oc, od, dV, kV, doc, pm, an, cdv, ct, osl, rfl, lk, hcd, hD, hK⟩ := F.ex
  rcases hD with ⟨_, rfl⟩ | ⟨e, _⟩
  · exact ⟨fun s us ws _ l1 l2 => .of_eq (h kV doc pm an cdv ct us ws l1 l2), fun r1 r2 => r1.append r2⟩
  · exact absurd rfl e
end
end
end BL
/-! B: xs[::-1], a list or a tuple. -/
namespace BL
noncomputable section
open PySem PySem.Spec PyProof.Rows L2
section
variable {prog : Program} {w : World} {A : Around} {E : Value → Shared → Prop} {s : Shared}
theorem adjust_rev (n : Nat) : Builtin.Slice.sliceAdjust none none (-1) (n : Int) = ((n : Int) - 1, -1) := by
  unfold Builtin.Slice.sliceAdjust
  simp
theorem places_rev (n : Nat) : Builtin.Slice.slicePlaces ((n : Int) - 1) (-1) (-1) = n := by
  show (if (-1 : Int) > 0 then _ else (if (n : Int) - 1 > -1 then ((n : Int) - 1 - -1 - 1) / (- -1) + 1 else 0)).toNat = n
  rw [if_neg (by decide), show (- -1 : Int) = 1 from rfl, Int.ediv_one]
  split <;> omega
theorem pick_rev (xs : Array Value) : ((List.range xs.size).filterMap fun (k : Nat) => xs[((xs.size : Int) - 1 + (k : Int) * (-1)).toNat]?).toArray = xs.toList.reverse.toArray := by
  congr 1
  apply List.ext_getElem?
  intro i
  have e : (fun (k : Nat) => xs[((xs.size : Int) - 1 + (k : Int) * (-1)).toNat]?) = fun (k : Nat) => xs.toList[((xs.size : Int) - 1 + (k : Int) * (-1)).toNat]? := by
    funext k
    rw [Array.getElem?_toList]
  rw [e]
  have h : (List.range xs.size).filterMap (fun (k : Nat) => xs.toList[((xs.size : Int) - 1 + (k : Int) * (-1)).toNat]?) = (List.range xs.size).map fun k => xs.toList.getD (xs.size - 1 - k) .none := by
    have gen : ∀ (l : List Nat), (∀ k ∈ l, k < xs.size) → l.filterMap (fun (k : Nat) => xs.toList[((xs.size : Int) - 1 + (k : Int) * (-1)).toNat]?) = l.map fun k => xs.toList.getD (xs.size - 1 - k) .none := by
      intro l
      induction l with
      | nil => intro _; rfl
      | cons k r ih =>
        intro hl
        have hk := hl k (List.mem_cons_self ..)
        have e2 : ((xs.size : Int) - 1 + (k : Int) * (-1)).toNat = xs.size - 1 - k := by omega
        have e3 : xs.toList[((xs.size : Int) - 1 + (k : Int) * (-1)).toNat]? = some (xs.toList.getD (xs.size - 1 - k) .none) := by
          rw [e2, List.getD_eq_getElem?_getD, List.getElem?_eq_getElem (by rw [Array.length_toList]; omega)]
          rfl
        rw [List.filterMap_cons_some (f := fun (k : Nat) => xs.toList[((xs.size : Int) - 1 + (k : Int) * (-1)).toNat]?) e3, List.map_cons, ih fun z hz => hl z (List.mem_cons_of_mem _ hz)]
    exact gen _ fun k hk => List.mem_range.mp hk
  rw [h, List.getElem?_map]
  by_cases hi : i < xs.size
  · rw [List.getElem?_range hi, List.getElem?_reverse (by rw [Array.length_toList]; exact hi), Array.length_toList, List.getElem?_eq_getElem (by rw [Array.length_toList]; omega)]
    simp only [Option.map_some]
    rw [List.getD_eq_getElem?_getD, List.getElem?_eq_getElem (by rw [Array.length_toList]; omega)]
    rfl
  · rw [List.getElem?_eq_none (by rw [List.length_range]; omega), List.getElem?_eq_none (by rw [List.length_reverse, Array.length_toList]; omega)]
    rfl
theorem applied_rev {sl : Addr} {n : Nat} {u : Tok} {Q : Int × Int × Nat → Shared → Prop} (hs : s.heap.IsSliceOf sl .none .none (.int (-1) u)) (h : Q ((n : Int) - 1, -1, n) s) : wpAny (model prog w) A (Builtin.Slice.sliceApplied (.ref sl) (pure (n : Int))) Q E s := by
  obtain ⟨ob, g1, g2, g3⟩ := id hs
  unfold Builtin.Slice.sliceApplied Builtin.Slice.sliceFields
  refine wpAny_bind (wpAny_bind (wpAny_field g1 g3 (x := .none) rfl (wpAny_bind (wpAny_field g1 g3 (x := .none) rfl (wpAny_bind (wpAny_field g1 g3 (x := .int (-1) u) rfl (wpAny_pure (wpAny_bind (slicePart_int ?_)))))))))
  show wpAny _ _ (if ((-1 : Int) == 0) = true then _ else _) _ _ s
  rw [if_neg (by decide)]
  refine wpAny_bind (slicePart_none (wpAny_bind (slicePart_none (wpAny_bind (wpAny_pure ?_)))))
  show wpAny _ _ (match Builtin.Slice.sliceAdjust none none (-1) (n : Int) with | (lo, hi) => pure (lo, (-1 : Int), Builtin.Slice.slicePlaces lo hi (-1))) _ _ s
  rw [adjust_rev n]
  show wpAny _ _ (pure ((n : Int) - 1, (-1 : Int), Builtin.Slice.slicePlaces ((n : Int) - 1) (-1) (-1))) _ _ s
  rw [places_rev]
  exact wpAny_pure h
theorem item_rev {t sl : Addr} {its : Array Value} {u : Tok} {Q : Value → Shared → Prop} (ht : IsTup s.heap t its) (hs : s.heap.IsSliceOf sl .none .none (.int (-1) u))
    (q : Q (.ref s.heap.objs.size) { s with heap := s.heap.push { cls := .type "tuple", data := .seq its.toList.reverse.toArray } }) (hz : its.size ≤ sizeLine) : wpAny (model prog w) A (getItem (.ref t) (.ref sl)) Q E s := by
  have fits : sizeOk (.seq its.toList.reverse.toArray) := by
    show its.toList.reverse.toArray.size ≤ sizeLine
    simpa using hz
  obtain ⟨ob, g1, g2, g3⟩ := id hs
  have ty : s.TypeIs (.ref sl) "slice" := ⟨ob, g1, g2⟩
  unfold getItem
  try with_reducible refine wpAny_holding ?_
  first | refine wpAny_bind (wpAny_pure ?_) | skip
  refine wpAny_bind (wpAny_sequenceKey ht.typeIs (by decide) (wpAny_bind (wpAny_callSpecial?_slot (name := Str.ofString "__getitem__") ht.typeIs PyProof.Rows.slot_tuple_getitem (wpAny_call_entry PyProof.Rows.slot_tuple_getitem ht.typeIs entry_tuple_getitem ?_ (args_tuple_getitem _ _)))))
  show wpAny _ _ (Builtin.Tuple.tupleItemsOf (.ref t) >>= _) _ _ s
  refine wpAny_bind (tupleItemsOf_ ht (wpAny_bind (wpAny_typeOf ty ?_)))
  rw [if_pos (by decide)]
  refine wpAny_bind (applied_rev (u := u) hs ?_)
  have hno : ¬ ((((its.size : Int) - 1 == 0 && (-1 : Int) == 1 && its.size == its.size)) = true) := by simp
  show wpAny _ _ (if (((its.size : Int) - 1 == 0 && (-1 : Int) == 1 && its.size == its.size)) = true then _ else _) _ _ s
  rw [if_neg hno, pick_rev]
  first
    | exact wpAny_bind (m := Builtin.Tuple.tupleExact _) (wpAny_newObj_type (wpAny_pure ⟨_, rfl, wpAny_pure q⟩) fits)
    | exact wpAny_bind (m := Builtin.Tuple.tupleExact _) (wpAny_newObj_type (wpAny_bind (wpAny_pure (wpAny_pure ⟨_, rfl, wpAny_pure q⟩))) fits)
    | exact wpAny_bind (wpAny_bind (m := Builtin.Tuple.tupleExact _) (wpAny_newObj_type (wpAny_pure (wpAny_pure ⟨_, rfl, wpAny_pure q⟩)) fits))
    | exact wpAny_bind (wpAny_bind (m := Builtin.Tuple.tupleExact _) (wpAny_newObj_type (wpAny_pure ⟨_, rfl, wpAny_pure q⟩) fits))
end
section
variable {X : Cx} {B : BC} {W : WX}
def tRevB (K : PySem.W.Frag) (te : TE) : TE := fun σ H Q => te σ H fun x H1 => ∃ a xs, x = .ref a ∧ ((SqL K H1 a xs ∧ ∀ p, H1 p = none → Q (.ref p) (upd H1 p (.lst xs.reverse))) ∨ (SqT K H1 a xs ∧ ∀ p, H1 p = none → Q (.ref p) (upd H1 p (.tup xs.reverse))))
theorem pe_revB {e : Expr} {te : TE} {k : Nat} {p1 p2 p3 pos : Pos} (he : PE X e te) : PE X (.Subscript e (.Slice none none (some (.UnaryOp .USub (.Constant (.int 1) k p1) p2)) p3) pos) (tRevB X.K te) := by
  refine ⟨fun pins s σ H Q I h => Subscript_ (thn (he.run pins s σ H _ I h) fun v s1 ⟨x, H1, I1, r1, q1⟩ => ?_)⟩
  obtain ⟨a, xs, ex, q⟩ := q1
  subst ex
  cases r1
  have step : PO X (some (.UnaryOp .USub (.Constant (.int 1) k p1) p2)) (tPart (tUn (rU fun i => .int (-i)) (tC (.int 1)))) := po_some (pe_un un_neg pe_int)
  refine wpAny_Slice (thn (po_none.run pins s1 σ H1 (fun o H2 => o = none ∧ H2 = H1) I1 ⟨rfl, rfl⟩) fun vl s2 ⟨l, H2, I2, pl, el, e2⟩ => ?_)
  subst el e2
  refine thn (po_none.run pins s2 σ H2 (fun o H3 => o = none ∧ H3 = H2) I2 ⟨rfl, rfl⟩) fun vu s3 ⟨u, H3, I3, pu, eu, e3⟩ => ?_
  subst eu e3
  refine thn (step.run pins s3 σ H3 (fun o H4 => o = some (-1) ∧ H4 = H3) I3 ⟨1, rfl, -1, rfl, rfl, rfl⟩) fun vs s4 ⟨o, H4, I4, ps, eo, e4⟩ => ?_
  subst eo e4
  have I5 : Inv X pins σ H4 { s4 with heap := s4.heap.push { cls := .type "slice", data := .fields #[vl, vu, vs] } } := I4.kept (t' := s4.toks) fun b ob q => Heap.get?_push_of_some _ q
  show wpAny (model X.prog X.w) X.A (subscriptTail e (.Slice none none (some (.UnaryOp .USub (.Constant (.int 1) k p1) p2)) p3) (.ref a) (.ref s4.heap.objs.size)) (EP X pins σ Q) X.xe { s4 with heap := s4.heap.push { cls := .type "slice", data := .fields #[vl, vu, vs] } }
  rcases q with ⟨hx, q⟩ | ⟨hx, q⟩
  · obtain ⟨its, r, ht, hz⟩ := I5.list hx
    have hlen := r.length
    refine tail_any (ops := [.ref a, .ref s4.heap.objs.size]) ht.isList.typeIs (PySem.slot_list_getitem.lookup) ?_ (by with_unfolding_all rfl)
    refine wpAny_getItem_list_slice ht.isList (Heap.IsSliceOf.new _ vl vu vs) pl pu ps (by decide) ?_ (by rw [List.size_toArray]; omega)
    rw [PySem.W.krv_pick]
    exact ⟨.ref _, _, I5.laid (t' := s4.toks) (o := .lst xs.reverse) (fun b ob q => Heap.get?_push_of_some _ q) (Nat.le_refl _) ⟨by rw [List.length_reverse]; exact hz, _, 0, r.reverse, Heap.get?_push_size _ rfl⟩, rfl, q _ (I5.hok.fresh (Nat.le_refl _))⟩
  · obtain ⟨its, r, ht, hz⟩ := I5.tuple hx
    have hlen := r.length
    cases pl
    cases pu
    obtain ⟨u, rfl⟩ : ∃ u, vs = .int (-1) u := by cases ps; exact ⟨_, rfl⟩
    refine tail_any (ops := [.ref a, .ref s4.heap.objs.size]) ht.typeIs (PyProof.Rows.slot_tuple_getitem.lookup) ?_ (by with_unfolding_all rfl)
    refine item_rev (u := u) ht (Heap.IsSliceOf.new _ .none .none (.int (-1) u)) ?_ (by rw [List.size_toArray]; omega)
    exact ⟨.ref _, _, I5.laid (t' := s4.toks) (o := .tup xs.reverse) (fun b ob q => Heap.get?_push_of_some _ q) (Nat.le_refl _) ⟨by rw [List.length_reverse]; exact hz, _, r.reverse, ⟨_, Heap.get?_push_size _ rfl, rfl, _, rfl⟩⟩, rfl, q _ (I5.hok.fresh (Nat.le_refl _))⟩
def revF : PV → Option RV
  | .tup xs => some (.val (.tup xs.reverse))
  | p => (lstOf p).map fun xs => .fresh (.lst xs.reverse)
theorem be_rev {e : Expr} {m : M RV} {k : Nat} {p1 p2 p3 pos : Pos} (hK : X.K = B.K) (he : PE X e (tB B W m)) : PE X (.Subscript e (.Slice none none (some (.UnaryOp .USub (.Constant (.int 1) k p1) p2)) p3) pos) (tB B W (mUn revF m)) := by
  refine (pe_revB he).imp fun σ H Q h => ?_
  refine (tG.bind (T := RRel) h).mono fun x H1 q => ?_
  obtain ⟨L, s0, s, r1, rfl, rfl, R0, A, hx, P⟩ := q
  unfold look1 at P
  cases e1 : peek s.r r1 with
  | none => rw [e1] at P; exact P.elim
  | some p =>
    rw [e1] at P
    dsimp only at P
    have hc := peek_con A.rel hx e1
    cases e2 : revF p with
    | none => rw [e2] at P; exact P.elim
    | some z =>
      rw [e2] at P
      cases p with
      | tup xs =>
        cases e2
        obtain ⟨a, vs, rfl, h, r⟩ := con_tup hc
        exact ⟨a, vs, rfl, .inr ⟨by rw [hK]; exact h, fun p hn => P.fin (A.trans (A.rel.alloc hn)) (RRel.weak A.x (A.rel.newTup hn r.reverse))⟩⟩
      | lst xs =>
        cases e2
        obtain ⟨a, vs, rfl, h, r⟩ := con_lst hc rfl
        exact ⟨a, vs, rfl, .inl ⟨by rw [hK]; exact h, fun p hn => P.fin (A.trans (A.rel.alloc hn)) (RRel.weak A.x (A.rel.newList hn r.reverse))⟩⟩
      | scr ns =>
        cases e2
        obtain ⟨a, vs, rfl, h, r⟩ := con_lst hc rfl
        exact ⟨a, vs, rfl, .inl ⟨by rw [hK]; exact h, fun p hn => P.fin (A.trans (A.rel.alloc hn)) (RRel.weak A.x (A.rel.newList hn r.reverse))⟩⟩
      | _ => cases e2
end
end
end BL
/-! B: list.index of ints, a list taken apart into names, tables of the module (text and None keys). -/
namespace BL
noncomputable section
open PySem PySem.Spec PyProof.Rows L2
/-! ### list.index -/
def intP : PV → Option Int
  | .int i => some i
  | _ => none
def idxI (i : Int) : List Int → Option Nat
  | [] => none
  | x :: xs => @ite _ (x = i) (Int.instDecidableEq x i) (some 0) ((idxI i xs).map (· + 1))
theorem idxI_get {i : Int} : ∀ {xs : List Int} {j : Nat}, idxI i xs = some j → xs[j]? = some i ∧ ∀ m z, m < j → xs[m]? = some z → z ≠ i
  | [], j, h => by cases h
  | x :: xs, j, h => by
    unfold idxI at h
    split at h
    · rename_i e
      cases h
      exact ⟨by rw [e]; rfl, fun m z hm => absurd hm (Nat.not_lt_zero m)⟩
    · rename_i e
      obtain ⟨k, h1, rfl⟩ := Option.map_eq_some_iff.mp h
      obtain ⟨h2, h3⟩ := idxI_get h1
      refine ⟨by simpa using h2, fun m z hm hz => ?_⟩
      cases m with
      | zero =>
        cases (show some x = some z from hz)
        exact e
      | succ m => exact h3 m z (by omega) (by simpa using hz)
def indexF : PV → List PV → Option RV
  | p, [.int i] => (lstOf p).bind fun xs => (xs.mapM intP).bind fun is => (idxI i is).map fun j => .val (.int (j : Nat))
  | _, _ => none
theorem intP_inv : ∀ {xs : List PV} {is : List Int}, xs.mapM intP = some is → xs = is.map PV.int
  | [], is, h => by
    cases h
    rfl
  | x :: xs, is, h => by
    rw [List.mapM_cons] at h
    cases e : intP x with
    | none => rw [e] at h; cases h
    | some i =>
      rw [e] at h
      cases e2 : xs.mapM intP with
      | none => rw [e2] at h; cases h
      | some js =>
        rw [e2] at h
        cases (show some (i :: js) = some is from h)
        cases x with
        | int k =>
          cases (show some k = some i from e)
          rw [intP_inv e2]
          rfl
        | _ => cases e
theorem reps_intV {K : PySem.W.Frag} {w : Wd} : ∀ {is : List Int} {vs : List V}, Reps K w (is.map PV.int) vs → vs = is.map V.int
  | [], _, h => h
  | i :: is, _, h => by
    obtain ⟨v, r, rfl, h1, h2⟩ := h
    cases (show v = .int i from h1)
    rw [reps_intV h2]
    rfl
theorem ok_index {B : BC} : OkSee B (rIndex B.K) indexF := by
  intro L s p ps x vs z Q R cp cs e k
  unfold indexF at e
  split at e
  · rename_i i
    cases e1 : lstOf p with
    | none => rw [e1] at e; cases e
    | some xs =>
      rw [e1] at e
      have e : ((xs.mapM intP).bind fun is => (idxI i is).map fun j => RV.val (.int (j : Nat))) = some z := e
      cases e2 : xs.mapM intP with
      | none => rw [e2] at e; cases e
      | some is =>
        rw [e2] at e
        obtain ⟨j, e3, rfl⟩ := Option.map_eq_some_iff.mp (show (idxI i is).map (fun j => RV.val (.int (j : Nat))) = some z from e)
        obtain ⟨y, rfl, c1⟩ := cs.one
        cases (show y = .int i from c1)
        obtain ⟨a, us, rfl, h, r⟩ := con_lst cp e1
        rw [intP_inv e2] at r
        have eu := reps_intV r
        subst eu
        obtain ⟨h1, h2⟩ := idxI_get e3
        refine ⟨a, _, .int i, j, .int i, rfl, rfl, h, rfl, ?_, ?_, ?_, fun m z' hm hz => ?_, k s.w _ (.refl R) rfl⟩
        · exact List.all_eq_true.mpr fun q hq => by
            obtain ⟨n, _, rfl⟩ := List.mem_map.mp hq
            rfl
        · rw [List.getElem?_map, h1]; rfl
        · exact beq_self_eq_true i
        · rw [List.getElem?_map] at hz
          obtain ⟨n, h3, rfl⟩ := Option.map_eq_some_iff.mp hz
          exact beq_eq_false_iff_ne.mpr (h2 m n hm h3)
  · cases e
/-! ### a list taken apart -/
def tgU : List Nat → PV → M Unit
  | is, .lst ps => if is.length = ps.length then fun r => .ok () { r with sl := (is.zip ps).foldl (fun sl x => sl.set x.1 (.val x.2)) r.sl } else M.no
  | _, _ => M.no
theorem okg_unl {B : BC} {is : List Nat} : OkG B (gUnl B.K is.length (gNames is)) (tgU is) := fun L s0 s p v Q R0 x h P => by
  cases p with
  | lst ps =>
    unfold tgU at P
    dsimp only at P
    by_cases hl : is.length = ps.length
    · rw [if_pos hl] at P
      obtain ⟨a, vs, rfl, h1, r⟩ := h
      exact ⟨a, vs, rfl, .inl (.inl h1.1), by rw [hl]; exact r.length.symm, okg_names is L s0 s ps vs Q R0 x hl r P⟩
    · rw [if_neg hl] at P
      exact P.elim
  | _ => exact P.elim
/-! ### tables -/
def NKey (w : World) (e : DictEntry) : Prop := (∃ x t, e.key = .str x t ∧ e.hash = PyData.keyHash w.params x) ∨ (e.key = .none ∧ e.hash = reduceHash 0xFCA86420)
def KDn (K : PySem.W.Frag) (w : World) (a : Addr) (kvs : List (Str × Str)) : Prop :=
  ∃ es n, K.lookup a = some ⟨.type "dict", none, .dict es n, #[]⟩ ∧ (∀ e ∈ es, NKey w e) ∧ ∀ q ∈ kvs, ∃ u, PySem.W.nsIn K a q.1 = some (some u) ∧ RelV (.str q.2) u
def rTab (K : PySem.W.Frag) (w : World) (kvs : List (Str × Str)) : R2 := fun x y H Q => ∃ p z u, x = .ref p ∧ y = .str z ∧ KDn K w p kvs ∧ (z, u) ∈ kvs ∧ Q (.str u) H
theorem mapOf_N {prog : Program} {w : World} {K : PySem.W.Frag} {h : Heap} {a : Addr} {es : Array DictEntry} {n : Nat} (X : K.In h) (hl : K.lookup a = some ⟨.type "dict", none, .dict es n, #[]⟩) (hk : ∀ e ∈ es, NKey w e) : h.MapOf (noneKind prog w) a (fun k => findBy nkIs es k) :=
  ⟨_, es, n, X _ _ hl, ⟨rfl, rfl, rfl⟩, rfl, fun e he => by
    rcases hk e he with ⟨x, t, e1, e2⟩ | ⟨e1, e2⟩
    · exact ⟨some (.inr x), by rw [e1]; exact strKind_is prog w x t, e2⟩
    · exact ⟨none, by rw [e1]; rfl, e2⟩, fun _ => rfl⟩
theorem ix_tab {X : Cx} {kvs : List (Str × Str)} : IxR X (rTab X.K X.w kvs) := by
  intro value slice pins s σ H x y v u Q I rx ry h hs
  obtain ⟨p, z, r, rfl, rfl, ⟨es, n, hl, hk, hv⟩, hm, q⟩ := h
  obtain rfl : v = Value.ref p := rx
  obtain ⟨t, rfl⟩ := ry
  obtain ⟨u, e, ru⟩ := hv _ hm
  have hm := mapOf_N (prog := X.prog) (w := X.w) I.kIn hl hk
  exact tail_any hm.typeIs slot_dict_getitem.lookup (wpAny_getItem_of (knd := noneKind X.prog X.w) (k := some (.inr z)) (strKind_is X.prog X.w z t) hm (PySem.W.find_K hl e) ⟨_, H, I.tok _, ru, q⟩) hs
def tabF (kvs : List (Str × Str)) : PV → Option RV
  | .str z => (kvs.find? fun q => decide (q.1 = z)).map fun q => .val (.str q.2)
  | _ => none
section
variable {X : Cx} {B : BC} {W : WX} {b : Expr} {mb : M RV} {pos : Pos}
theorem be_tab {x : Str} {p1 : Pos} {a : Addr} {kvs : List (Str × Str)} (hg : Gl X x) (hm : X.mg x = some (.ref a)) (hk : KDn X.K X.w a kvs) (hb : PE X b (tB B W mb)) (hs : PlainIx b := by exact fun _ _ => rfl) (hd : (x == ("__debug__" : Str)) = false := by decide) :
    PE X (.Subscript (.Name x p1) b pos) (tB B W (mUn (tabF kvs) mb)) := by
  refine (pe_ix (ix_tab (kvs := kvs)) (pe_glob hg hm (v := .ref a) rfl hd) hb hs).imp fun σ H Q h => ?_
  show tB B W mb σ H fun y H2 => rTab X.K X.w kvs (.ref a) y H2 Q
  refine (tG.bind (T := RRel) h).mono fun y H1 q => ?_
  obtain ⟨L, s0, s, r1, e1, rfl, R0, A, h1, P⟩ := q
  refine P.look1 (rr := fun y H Q => rTab X.K X.w kvs (.ref a) y H Q) (fun L s p y z Q R cp e k => ?_) A h1
  unfold tabF at e
  split at e
  · rename_i t
    obtain ⟨q, h2, rfl⟩ := Option.map_eq_some_iff.mp e
    cases (show y = .str t from cp)
    have h3 := List.find?_some h2
    have h4 : q.1 = t := of_decide_eq_true h3
    subst h4
    exact ⟨a, q.1, q.2, rfl, rfl, hk, List.mem_of_find?_eq_some h2, k s.w _ (.refl R) rfl⟩
  · cases e
end
/-! ### the head's tables -/
def keyOfN (e : DictEntry) : Option (Option Str × Int) := match e.key with
  | .str x _ => some (some x, e.hash)
  | .none => some (none, e.hash)
  | _ => none
def keyN (P : Params) : Option Str → Option (Option Str × Int)
  | some k => some (some k, PyData.keyHash P k)
  | none => some (none, reduceHash 0xFCA86420)
def keysInN (P : Params) (ks : List (Option Str)) : List (Option (Option Str × Int)) := ks.map (keyN P)
def dicN (K : PySem.W.Frag) (a : Addr) : Option (List (Option (Option Str × Int))) := match K.lookup a with
  | some ⟨.type c, none, .dict es _, sl⟩ => (match decide (c = "dict") && sl.isEmpty with
    | true => some (es.toList.map keyOfN)
    | false => none)
  | _ => none
theorem nkeys_of {w : World} : ∀ {l : List DictEntry} {ks : List (Option Str)}, l.map keyOfN = keysInN w.params ks → ∀ e ∈ l, NKey w e
  | [], _, _, _, h => nomatch h
  | e :: r, [], h, _, _ => by cases h
  | e :: r, k :: ks, h, e', he => by
    have h1 : keyOfN e :: r.map keyOfN = keyN w.params k :: keysInN w.params ks := h
    injection h1 with h2 h3
    rcases List.mem_cons.mp he with rfl | he
    · unfold keyOfN at h2
      split at h2
      · rename_i x t q
        cases k with
        | none => cases (Prod.mk.inj (Option.some.inj h2)).1
        | some k =>
          obtain ⟨h5, h6⟩ := Prod.mk.inj (Option.some.inj h2)
          cases h5
          exact .inl ⟨x, t, q, h6⟩
      · rename_i q
        cases k with
        | none => exact .inr ⟨q, (Prod.mk.inj (Option.some.inj h2)).2⟩
        | some k => cases (Prod.mk.inj (Option.some.inj h2)).1
      · cases k <;> cases h2
    · exact nkeys_of h3 e' he
theorem dicN_ok {K : PySem.W.Frag} {w : World} {a : Addr} {ks : List (Option Str)} (h : dicN K a = some (keysInN w.params ks)) : ∃ es n, K.lookup a = some ⟨.type "dict", none, .dict es n, #[]⟩ ∧ ∀ e ∈ es, NKey w e := by
  unfold dicN at h
  cases q : K.lookup a with
  | none => rw [q] at h; cases h
  | some o =>
    obtain ⟨oc, od, dt, osl⟩ := o
    rw [q] at h
    cases oc with
    | type c =>
      cases od with
      | none =>
        cases dt with
        | dict es n =>
          have h1 : (match decide (c = "dict") && osl.isEmpty with
            | true => some (es.toList.map keyOfN)
            | false => none) = some (keysInN w.params ks) := h
          cases z : decide (c = "dict") && osl.isEmpty with
          | false => rw [z] at h1; cases h1
          | true =>
            rw [z] at h1
            obtain ⟨z1, z2⟩ := Bool.and_eq_true _ _ ▸ z
            have e1 : c = "dict" := of_decide_eq_true z1
            have e2 : osl = #[] := Array.isEmpty_iff.mp z2
            subst e1 e2
            exact ⟨es, n, rfl, fun e he => nkeys_of (Option.some.inj h1) e (Array.mem_toList_iff.mpr he)⟩
        | _ => cases h
      | some b => cases dt <;> cases h
    | _ => cases od <;> cases dt <;> cases h
/-- a table: its name, its keys in order, what is asked of it -/
structure TabN where
  x : Str
  ks : List (Option Str)
  kvs : List (Str × Str)
def TabN.vals (t : TabN) (K : PySem.W.Frag) : Bool := He.valsB K (He.ga K t.x) (t.kvs.map fun (q : Str × Str) => (q.1, He.Dv.str q.2)) && He.eqO (PySem.W.nsIn K mainGlobals t.x) (some (some (.ref (He.ga K t.x))))
abbrev AlN : Type := He.AlD × List (Option (List (Option (Option Str × Int))) × Bool)
def obsN (fa : List He.Fa) (fn : List He.DefD) (ts : List TabN) (K : PySem.W.Frag) : AlN := (He.obsD fa fn K, ts.map fun t => (dicN K (He.ga K t.x), t.vals K))
def valN (fn : List He.DefD) (ts : List TabN) (w : World) : AlN := (He.valD fn, ts.map fun t => (some (keysInN w.params t.ks), true))
def obsNG (n : Nat) (fa : List He.Fa) (fn : List He.DefD) (ts : List TabN) (g : Addr → Option Obj) : AlN := obsN fa fn ts (He.frG g (He.asD g n))
def SaysN (fa : List He.Fa) (fn : List He.DefD) (ts : List TabN) (w : World) (K : PySem.W.Frag) : Prop := obsN fa fn ts K = valN fn ts w
def hookN (n : Nat) (fa : List He.Fa) (fn : List He.DefD) (ts : List TabN) : PySem.W.Hook where
  α := AlN
  obs := fun s => obsNG n fa fn ts s.heap.get?
  val := fun w => valN fn ts w
  says := fun w h => ∃ K : PySem.W.Frag, K.In h ∧ SaysN fa fn ts w K
  of := fun _ _ e => ⟨_, He.frG_in, e⟩
  keeps := fun _ _ _ ⟨K, hK, c⟩ k => ⟨K, PySem.W.Frag.In.keeps hK k, c⟩
theorem obsNG_eq {n : Nat} {fa : List He.Fa} {fn : List He.DefD} {ts : List TabN} {g : Addr → Option Obj} {s : Shared} (h : ∀ a, g a = s.heap.get? a) : obsNG n fa fn ts g = (hookN n fa fn ts).obs s := by
  have e : g = s.heap.get? := funext h
  rw [e] <;> rfl
section
variable {fa : List He.Fa} {fn : List He.DefD} {ts : List TabN} {w : World} {K : PySem.W.Frag}
theorem SaysN.d (c : SaysN fa fn ts w K) : He.SaysD fa fn K := congrArg (fun z : AlN => z.1) c
theorem SaysN.tab {h : Heap} {mg : Str → Option Value} (X : K.In h) (G : h.Ns mainGlobals mg) (c : SaysN fa fn ts w K) (i : Nat) {t : TabN} (h : ts[i]? = some t := by rfl) : ∃ a, mg t.x = some (.ref a) ∧ KDn K w a t.kvs := by
  have e : ts.map (fun t => (dicN K (He.ga K t.x), t.vals K)) = ts.map fun t => (some (keysInN w.params t.ks), true) := congrArg (fun z : AlN => z.2) c
  have e2 : (ts.map fun t => (dicN K (He.ga K t.x), t.vals K))[i]? = (ts.map fun t => (some (keysInN w.params t.ks), true))[i]? := by rw [e]
  rw [List.getElem?_map, List.getElem?_map, h] at e2
  obtain ⟨e3, e4⟩ := Prod.mk.inj (Option.some.inj e2)
  obtain ⟨es, n, h1, h2⟩ := dicN_ok e3
  obtain ⟨e5, e6⟩ := Bool.and_eq_true _ _ ▸ (show (He.valsB K (He.ga K t.x) (t.kvs.map fun (q : Str × Str) => (q.1, He.Dv.str q.2)) && He.eqO (PySem.W.nsIn K mainGlobals t.x) (some (some (.ref (He.ga K t.x))))) = true from e4)
  refine ⟨He.ga K t.x, ?_, es, n, h1, h2, fun q hq => He.valsB_ok e5 (List.mem_map.mpr ⟨q, hq, rfl⟩)⟩
  exact PySem.W.mg_of X G (He.eqO_ok e6)
end
end
end BL
/-! B: keywords' argument lists, isinstance(x, (S, T)), is of bools, defs that call themselves. -/
namespace BL
noncomputable section
open PySem PySem.Spec PyProof.Rows L2
theorem units65 {k : Nat} {A : Around} (r : Room k A) : A.units + 65 < cLine := by have := r.un; omega
section
variable {X : Cx} {B : BC} {W : WX} {e : Expr} {m : M RV} {ms : M (List RV)} {kws : List Keyword} {nm : Option Str} {kpos : Pos}
theorem pk_imp {t t' : TA} (h : PK X kws t) (i : ∀ σ H Q, t' σ H Q → t σ H Q) : PK X kws t' := ⟨fun pos pins s σ H Q I q => h.run pos pins s σ H Q I (i _ _ _ q)⟩
theorem bk_nil : PK X [] (tA B W mNilA) := by
  refine pk_imp pk_nil fun σ H Q h => ?_
  obtain ⟨L, s, rfl, rfl, R, P⟩ := h
  exact P.fin (.refl R) ⟨.nil, List.nodup_nil⟩
theorem bk_cons (ha : PE X e (tB B W m)) (hr : PK X kws (tA B W ms)) : PK X (⟨nm, e, kpos⟩ :: kws) (tA B W (mConsA m ms)) := by
  refine pk_imp (pk_cons ha hr) fun σ H Q h => ?_
  refine (tG.bind (T := RRel) h).mono fun x H1 q => ?_
  obtain ⟨L, s0, s, r1, rfl, rfl, R0, A, h1, P⟩ := q
  refine (Post.bind (T := RRels) R0 A P).mono fun xs H2 q => ?_
  obtain ⟨s2, rs, rfl, A2, h2, P2⟩ := q
  refine P2.fin (A.trans A2) ⟨.cons (h1.at A2 A.rel) (RRels.weak A.x h2).1, ?_⟩
  cases r1 with
  | fresh p =>
    obtain ⟨a, rfl, o, n, z⟩ := h1
    refine List.nodup_cons.mpr ⟨fun hm => ?_, h2.2⟩
    have := freshA_mem h2.1 hm
    obtain ⟨u, e⟩ := o.there
    rw [this] at e
    cases e
  | val p => unfold freshA; exact h2.2
  | slot i => unfold freshA; exact h2.2
  | loan k => unfold freshA; exact h2.2
end
/-! ### all arguments in one list -/
theorem appA_nil {n : M (List RV)} : mAppA mNilA n = n := by
  funext r
  unfold mAppA mNilA M.bind M.pure
  dsimp only
  cases n r <;> rfl
theorem appA_cons {a : M RV} {m n : M (List RV)} : mAppA (mConsA a m) n = mConsA a (mAppA m n) := by
  funext r
  unfold mAppA mConsA M.bind M.pure
  dsimp only
  cases a r with
  | ok x r1 =>
    dsimp only
    cases m r1 with
    | ok xs r2 =>
      dsimp only
      cases n r2 <;> rfl
    | _ => rfl
  | _ => rfl
theorem pure_nil : (M.pure (List.map RV.val []) : M (List RV)) = mNilA := rfl
theorem pure_cons {p : PV} {ps : List PV} : (M.pure (List.map RV.val (p :: ps)) : M (List RV)) = mConsA (mVal p) (M.pure (ps.map RV.val)) := rfl
theorem appA_to {X : Cx} {B : BC} {W : WX} {e : Expr} {F : Fn} {a b : M (List RV)} (h : PE X e (tB B W (mCall F a))) (q : a = b) : PE X e (tB B W (mCall F b)) := q ▸ h
/-! ### is, is not of bools -/
def isBF (p q : PV) : Option Bool := match p, q with
  | .bl a, .bl b => some (a == b)
  | _, _ => none
def notBF (p q : PV) : Option Bool := match p, q with
  | .bl a, .bl b => some (!(a == b))
  | _, _ => none
theorem ok_isB {B : BC} : OkR2 B rIsB (asV isBF) := by
  intro L s p q x y z Q R cp cq e k
  unfold asV isBF at e
  split at e
  · rename_i a b
    cases e
    cases (show x = .bl a from cp)
    cases (show y = .bl b from cq)
    refine ⟨a, b, rfl, rfl, k s.w _ (.refl R) ?_⟩
    show V.bl (decide (a = b)) = V.bl (a == b)
    cases a <;> cases b <;> rfl
  · cases e
theorem ok_notB {B : BC} : OkR2 B rNotB (asV notBF) := by
  intro L s p q x y z Q R cp cq e k
  unfold asV notBF at e
  split at e
  · rename_i a b
    cases e
    cases (show x = .bl a from cp)
    cases (show y = .bl b from cq)
    refine ⟨a, b, rfl, rfl, k s.w _ (.refl R) ?_⟩
    show V.bl (!decide (a = b)) = V.bl (!(a == b))
    cases a <;> cases b <;> rfl
  · cases e
/-! ### isinstance(x, (S, T)) -/
def mIsT2 (S T : String) (m : M RV) : M RV := mUn (fun p => (isB S p).bind fun a => (isB T p).map fun b => .val (.bl (a || b))) m
section
variable {X : Cx} {B : BC} {W : WX} {e : Expr} {m : M RV} {p p2 p3 p4 pos : Pos} {kt : Nat} {S T : String} {sn tn : Str}
theorem be_isT2 (hK : X.K = B.K) (hg : Gl X "isinstance") (hm : X.mg "isinstance" = none) (hgS : Gl X sn) (hmS : X.mg sn = none) (hvS : bootBuiltins sn = some (.type S)) (hgT : Gl X tn) (hmT : X.mg tn = none) (hv : bootBuiltins tn = some (.type T)) (ha : PE X e (tB B W m))
    (hn1 : sn ≠ "__name__" := by decide) (hd1 : (sn == ("__debug__" : Str)) = false := by decide) (hn : tn ≠ "__name__" := by decide) (hd : (tn == ("__debug__" : Str)) = false := by decide)
    (s1 : starEach [e, .Tuple [.Name sn p2, .Name tn p3] kt p4] X.env = (false, eval e X.env) :: starEach [.Tuple [.Name sn p2, .Name tn p3] kt p4] X.env := by rfl)
    (s2 : starEach [.Tuple [.Name sn p2, .Name tn p3] kt p4] X.env = (false, eval (.Tuple [.Name sn p2, .Name tn p3] kt p4) X.env) :: starEach [] X.env := by rfl)
    (s3 : starEach [.Name sn p2, .Name tn p3] X.env = (false, eval (.Name sn p2) X.env) :: starEach [.Name tn p3] X.env := by rfl) (s4 : starEach [.Name tn p3] X.env = (false, eval (.Name tn p3) X.env) :: starEach [] X.env := by rfl)
    (hpl : (backTo pos (starEach [.Tuple [.Name sn p2, .Name tn p3] kt p4] X.env)).any (·.1) = false := by rfl) :
    PE X (.Call (.Name "isinstance" p) [e, .Tuple [.Name sn p2, .Name tn p3] kt p4] [] pos) (tB B W (mIsT2 S T m)) := by
  refine (pe_callB (r := rIsiT X.K) (id := "isinstance") call_isiT hg hm (by rfl) (pa_cons ha (pa_cons (pe_tup (pa_cons (pe_bltn (v := .ty S) hgS hmS hvS rfl hn1 hd1) (pa_cons (pe_bltn (v := .ty T) hgT hmT hv rfl hn hd) pa_nil s4) s3)) pa_nil s2) s1) (by decide) (by decide) s1 hpl).imp fun σ H Q h => ?_
  refine (tG.bind (T := RRel) h).mono fun x H1 q => ?_
  obtain ⟨L, s0, s, r1, rfl, rfl, R0, A, h1, P⟩ := q
  unfold look1 at P
  split at P
  · rename_i q e1
    have c := peek_con A.rel h1 e1
    dsimp only at P
    cases e3 : isB S q with
    | none =>
      rw [e3] at P
      exact P.elim
    | some b =>
      cases e4 : isB T q with
      | none =>
        rw [e3, e4] at P
        exact P.elim
      | some b2 =>
        rw [e3, e4] at P
        obtain ⟨t, e2, e3⟩ := Option.bind_eq_some_iff.mp e3
        obtain ⟨t', e2', e4⟩ := Option.bind_eq_some_iff.mp e4
        rw [e2] at e2'
        cases e2'
        refine ⟨show 2 ≤ sizeLine by rw [sizeLine_eq]; omega, fun a hn => ?_⟩
        have A2 := A.trans (A.rel.alloc hn (o := .tup [.ty S, .ty T]))
        have c2 := tyx_con (peek_con (A.rel.alloc hn (o := .tup [.ty S, .ty T])).rel ((h1.at (A.rel.alloc hn (o := .tup [.ty S, .ty T])) A.rel)) e1) e2
        refine ⟨x, a, [.ty S, .ty T], .type t, [.type S, .type T], b || b2, rfl, ?_, .cons (.ty S) (.cons (.ty T) .nil), ?_, ?_, P.fin A2 rfl⟩
        · unfold upd; simp
        · rw [hK]
          exact c2
        · unfold PySem.W.kitAny PySem.W.kitAny PySem.W.kitAny
          rw [kit_ty e3, kit_ty e4]
          cases b <;> cases b2 <;> rfl
  · exact P.elim
end
/-! ### defs that call themselves -/
def Fno : Fn := fun _ _ => .no
theorem plain_nof : Plain Fno := fun _ _ _ _ _ h => by cases h
theorem fng_no {P : Program} {w : World} {K : PySem.W.Frag} {mg : Str → Option Value} {base : Heap} {CX : CXT} {k n : Nat} {f : Addr} {fd : FuncData} {ps : List Str} {B : BC} (hn : n = ps.length) : FnG P w K mg base CX k f fd ps (spF B n Fno) :=
  ⟨fun vs H Q E h => hn ▸ h.1, fun A outer s H args us vs Q E _ _ _ _ _ h => by
    obtain ⟨_, L, as, st, w', _, _, P⟩ := h
    exact P.elim⟩
end
end BL
/-! B: starred items of displays and argument lists. -/
namespace BL
noncomputable section
open PySem PySem.Spec PyProof.Rows L2 StX
def mStarA (m : M RV) (ms : M (List RV)) : M (List RV) := m.bind fun x => fun r => match (peek r x).bind seqOf with
  | some xs => (ms.bind fun ys => M.pure (xs.map .val ++ ys)) r
  | none => .no
section
variable {X : Cx} {B : BC} {W : WX} {L : List Addr} {s0 s : BS} {e : Expr} {es : List Expr} {m : M RV} {ms : M (List RV)} {p : Pos}
theorem vals_rel {xs : List PV} {vs : List V} (h : Reps B.K s.w xs vs) : Paired (RRel B L s0 s) (xs.map .val) vs := by
  induction xs generalizing vs with
  | nil => cases (show vs = [] from h); exact .nil
  | cons a r ih =>
    obtain ⟨v, t, rfl, h1, h2⟩ := h
    exact .cons h1 (ih h2)
theorem vals_fresh : ∀ {xs : List PV} {vs : List V}, freshA (xs.map RV.val) vs = []
  | [], vs => by cases vs <;> rfl
  | a :: r, [] => rfl
  | a :: r, v :: t => vals_fresh (xs := r) (vs := t)
theorem ba_star (hK : X.K = B.K) (ha : PE X e (tB B W m)) (hr : PA X es (tA B W ms)) (hs : starEach (.Starred e p :: es) X.env = (true, eval e X.env) :: starEach es X.env := by rfl) : PA X (.Starred e p :: es) (tA B W (mStarA m ms)) := by
  refine (pa_star ha hr hs).imp fun σ H Q h => ?_
  refine (tG.bind (T := RRel) h).mono fun x H1 q => ?_
  obtain ⟨L, s0, s, r1, rfl, rfl, R0, A, h1, P⟩ := q
  cases e1 : peek s.r r1 with
  | none => rw [e1] at P; exact P.elim
  | some pv =>
    rw [e1] at P
    rw [Option.bind_some] at P
    cases e2 : seqOf pv with
    | none => rw [e2] at P; exact P.elim
    | some xs =>
      rw [e2] at P
      obtain ⟨a, vs, rfl, hq, r⟩ := con_seq (peek_con A.rel h1 e1) e2
      refine ⟨a, vs, rfl, by rw [hK]; exact hq.symm, ?_⟩
      refine (Post.bind (T := RRels) R0 A P).mono fun ys H2 q => ?_
      obtain ⟨s2, rs, rfl, A2, h2, P2⟩ := q
      have hv : RRels B L s0 s (xs.map .val) vs := ⟨vals_rel r, by rw [vals_fresh]; exact List.nodup_nil⟩
      have hv2 := hv.keep A2 A.rel
      refine P2.fin (A.trans A2) ⟨pair_app hv2.1 (RRels.weak A.x h2).1, ?_⟩
      rw [freshA_app (by rw [List.length_map]; exact r.length), vals_fresh, List.nil_append]
      exact (RRels.weak A.x h2).2
end
end
end BL
/-! B: dicts with int and text keys: d[k], d[k] = v, k in d, d.get. -/
namespace BL
noncomputable section
open PySem PySem.Spec PyProof.Rows L2
/-- some none: not there; none: outside -/
def dfind (k : Key) : List PV → List PV → Option (Option PV)
  | [], [] => some none
  | q :: ks, x :: xs => (keyP q).bind fun k' => @ite _ (k' = k) (Classical.propDecidable _) (some (some x)) (dfind k ks xs)
  | _, _ => none
def drep (k : Key) (y : PV) : List PV → List PV → List PV
  | q :: ks, x :: xs => (@ite _ (keyP q = some k) (Classical.propDecidable _) y x) :: drep k y ks xs
  | _, _ => []
def drepV (k : Key) (y : V) : List Key → List V → List V
  | q :: ks, x :: xs => (if q = k then y else x) :: drepV k y ks xs
  | _, _ => []
theorem dfind_ok {K : PySem.W.Frag} {w : Wd} {k : Key} : ∀ {ks xs : List PV} {kk : List Key} {vs : List V} {r : Option PV}, ks.map keyP = kk.map some → kk.length = vs.length → Reps K w xs vs → dfind k ks xs = some r →
    (r = none ∧ valV (kk.zip vs) k = none) ∨ ∃ x v, r = some x ∧ valV (kk.zip vs) k = some v ∧ Rep K w x v
  | [], [], [], vs, r, _, _, h, e => by
    cases e
    exact .inl ⟨rfl, rfl⟩
  | [], x :: xs, _, _, _, _, _, _, e => by cases e
  | q :: ks, [], _, _, _, _, _, _, e => by cases e
  | q :: ks, x :: xs, [], _, _, hk, _, _, _ => by cases hk
  | [], [], k' :: kk, _, _, hk, _, _, _ => by cases hk
  | q :: ks, x :: xs, k' :: kk, vs, r, hk, hl, h, e => by
    obtain ⟨v, vr, rfl, h1, h2⟩ := h
    rw [List.map_cons, List.map_cons] at hk
    injection hk with e1 e2
    unfold dfind at e
    rw [e1, Option.bind_some] at e
    split at e
    · rename_i hz
      cases e
      exact .inr ⟨x, v, rfl, by rw [List.zip_cons_cons]; exact valV_pos hz, h1⟩
    · rename_i hz
      rw [List.zip_cons_cons, valV_neg (p := (k', v)) hz]
      exact dfind_ok e2 (Nat.succ.inj hl) h2 e
theorem drep_ok {K : PySem.W.Frag} {w : Wd} {k : Key} {y : PV} {u : V} (hy : Rep K w y u) : ∀ {ks xs : List PV} {kk : List Key} {vs : List V}, ks.map keyP = kk.map some → kk.length = vs.length → Reps K w xs vs →
    Reps K w (drep k y ks xs) (drepV k u kk vs) ∧ (drepV k u kk vs).length = vs.length ∧ kk.zip (drepV k u kk vs) = (kk.zip vs).map fun kv => if kv.1 = k then (kv.1, u) else kv
  | [], xs, [], vs, _, hl, h => by
    have : vs = [] := List.eq_nil_of_length_eq_zero hl.symm
    subst this
    cases xs with
    | nil => exact ⟨rfl, rfl, rfl⟩
    | cons x xs => obtain ⟨v, r, e, _⟩ := h; cases e
  | [], _, _ :: _, _, hk, _, _ => by cases hk
  | _ :: _, _, [], _, hk, _, _ => by cases hk
  | q :: ks, xs, k' :: kk, vs, hk, hl, h => by
    cases vs with
    | nil => cases hl
    | cons v vr =>
      cases xs with
      | nil => cases (show v :: vr = [] from h)
      | cons x xs =>
        obtain ⟨v', vr', e, h1, h2⟩ := h
        cases e
        rw [List.map_cons, List.map_cons] at hk
        injection hk with e1 e2
        obtain ⟨i1, i2, i3⟩ := drep_ok (ks := ks) (xs := xs) (kk := kk) (vs := vr) hy e2 (Nat.succ.inj hl) h2
        refine ⟨?_, ?_, ?_⟩
        · unfold drep drepV
          rw [e1]
          by_cases z : k' = k
          · rw [if_pos z, if_pos (by rw [z])]
            exact ⟨u, _, rfl, hy, i1⟩
          · rw [if_neg z, if_neg (fun z' => z (Option.some.inj z'))]
            exact ⟨v, _, rfl, h1, i1⟩
        · unfold drepV
          rw [List.length_cons, List.length_cons, i2]
        · unfold drepV
          rw [List.zip_cons_cons, List.zip_cons_cons, List.map_cons, i3]
          by_cases z : k' = k
          · rw [if_pos z, if_pos z]
          · rw [if_neg z, if_neg z]
theorem dfind_keys {K : PySem.W.Frag} {k : Key} : ∀ {ks xs : List PV} {kk : List (List Key)} {r : Option PV}, ks.map keyT = kk.map some → ks ≠ [] → dfind k ks xs = some r → False
  | [], _, _, _, _, h, _ => h rfl
  | q :: ks, [], _, _, _, _, e => by cases e
  | q :: ks, x :: xs, [], _, hk, _, _ => by cases hk
  | q :: ks, x :: xs, k' :: kk, _, hk, _, e => by
    rw [List.map_cons, List.map_cons] at hk
    injection hk with e1 e2
    unfold dfind at e
    obtain ⟨z, e3, _⟩ := Option.bind_eq_some_iff.mp e
    cases q with
    | tup ys => cases e3
    | _ => cases e1
theorem key_kV {K : PySem.W.Frag} {w : Wd} {q : PV} {v : V} {k : Key} (h : Con K w q v) (e : keyP q = some k) : v = kV k := by
  cases q with
  | int i =>
    cases e
    exact h
  | str x =>
    cases e
    exact h
  | _ => cases e
theorem con_dicK {K : PySem.W.Frag} {w : Wd} {ks xs : List PV} {x : V} {k : Key} {r : Option PV} (h : Con K w (.dic ks xs) x) (e : dfind k ks xs = some r) :
    ∃ (a : Addr) (kk : List Key) (vs : List V), x = .ref a ∧ ks.map keyP = kk.map some ∧ kk.length = vs.length ∧ w.H a = some (.dK (kk.zip vs)) ∧ Reps K w xs vs := by
  obtain ⟨a, vs, rfl, hd, rr⟩ := h
  rcases hd with ⟨kk, e1, e2, hd⟩ | ⟨kk, e1, e2, hd⟩
  · exact ⟨a, kk, vs, rfl, e1, e2, hd, rr⟩
  · exact (dfind_keys (K := K) e1.1 e1.2 e).elim
/-- what is found, as the heap has it -/
theorem dget_con {K : PySem.W.Frag} {w : Wd} {ks xs : List PV} {x y : V} {q : PV} {k : Key} {r : Option PV} (h : Con K w (.dic ks xs) x) (hq : Con K w q y) (eq : keyP q = some k) (e : dfind k ks xs = some r) :
    ∃ (a : Addr) (o : Option V), x = .ref a ∧ DGet w.H a y o ∧ ((r = none ∧ o = none) ∨ ∃ p v, r = some p ∧ o = some v ∧ Rep K w p v) := by
  obtain ⟨a, kk, vs, rfl, e1, e2, hd, rr⟩ := con_dicK h e
  rw [key_kV hq eq]
  refine ⟨a, _, rfl, DGet.k hd, ?_⟩
  rcases dfind_ok e1 e2 rr e with ⟨h1, h2⟩ | ⟨p, v, h1, h2, h3⟩
  · exact .inl ⟨h1, h2⟩
  · exact .inr ⟨p, v, h1, h2, h3⟩
/-! ### d[k] -/
def rIxDic : R2 := fun x y H Q => ∃ a v, x = .ref a ∧ DGet H a y (some v) ∧ Q v H
theorem ix_dic {X : Cx} (hu : X.A.units + 1 < cLine) : IxR X rIxDic := by
  intro value slice pins s σ H x y v u Q I rx ry h hs
  obtain ⟨a, v0, rfl, g, q⟩ := h
  obtain rfl : v = Value.ref a := rx
  exact tail_any (dict_typeIs I g) PySem.F.slot_dict_getitem.lookup (d_getItem hu I g ry fun w' s3 I3 rw' => ⟨v0, H, I3, rw', q⟩) hs
def ixDF : PV → PV → Option RV
  | .dic ks xs, q => (keyP q).bind fun k => (dfind k ks xs).bind fun r => r.map .val
  | _, _ => none
theorem ok_ixD {B : BC} : OkR2 B rIxDic ixDF := by
  intro L s p q x y z Q R cp cq e k
  cases p with
  | dic ks xs =>
    obtain ⟨kk, e1, e⟩ := Option.bind_eq_some_iff.mp e
    obtain ⟨r, e2, e⟩ := Option.bind_eq_some_iff.mp e
    obtain ⟨p, rfl, rfl⟩ := Option.map_eq_some_iff.mp e
    obtain ⟨a, o, rfl, g, h⟩ := dget_con cp cq e1 e2
    rcases h with ⟨h, _⟩ | ⟨p', v, h1, h2, h3⟩
    · cases h
    · cases h1
      subst h2
      exact ⟨a, v, rfl, g, k s.w v (.refl R) h3⟩
  | _ => cases e
/-! ### k in d -/
def rInDic : R2 := fun x y H Q => ∃ a o, y = .ref a ∧ DGet H a x o ∧ Q (.bl o.isSome) H
def rNotInDic : R2 := fun x y H Q => ∃ a o, y = .ref a ∧ DGet H a x o ∧ Q (.bl (!o.isSome)) H
theorem op_inDic {X : Cx} (hu : X.A.units + 1 < cLine) : OpR X (compareOp .In) rInDic := by
  intro pins s σ H x y v u Q I rx ry h
  obtain ⟨a, o, rfl, g, q⟩ := h
  obtain rfl : u = Value.ref a := ry
  exact d_in hu I g rx fun s3 I3 => ⟨.bl o.isSome, H, I3, rfl, q⟩
theorem op_notInDic {X : Cx} (hu : X.A.units + 1 < cLine) : OpR X (compareOp .NotIn) rNotInDic := by
  intro pins s σ H x y v u Q I rx ry h
  obtain ⟨a, o, rfl, g, q⟩ := h
  obtain rfl : u = Value.ref a := ry
  exact d_notIn hu I g rx fun s3 I3 => ⟨.bl (!o.isSome), H, I3, rfl, q⟩
def inDF (q p : PV) : Option Bool := match p with
  | .dic ks xs => (keyP q).bind fun k => (dfind k ks xs).map fun r => r.isSome
  | _ => none
def notInDF (q p : PV) : Option Bool := (inDF q p).map (!·)
theorem ok_inDic {B : BC} : OkR2 B rInDic (asV inDF) := by
  intro L s p q x y z Q R cp cq e k
  cases q with
  | dic ks xs =>
    obtain ⟨b, e0, rfl⟩ := Option.map_eq_some_iff.mp e
    obtain ⟨kk, e1, e0⟩ := Option.bind_eq_some_iff.mp e0
    obtain ⟨r, e2, rfl⟩ := Option.map_eq_some_iff.mp e0
    obtain ⟨a, o, rfl, g, h⟩ := dget_con cq cp e1 e2
    refine ⟨a, o, rfl, g, ?_⟩
    rcases h with ⟨rfl, rfl⟩ | ⟨p', v, rfl, rfl, h3⟩
    · exact k s.w _ (.refl R) rfl
    · exact k s.w _ (.refl R) rfl
  | _ => cases e
theorem ok_notInDic {B : BC} : OkR2 B rNotInDic (asV notInDF) := by
  intro L s p q x y z Q R cp cq e k
  cases q with
  | dic ks xs =>
    obtain ⟨b, e5, rfl⟩ := Option.map_eq_some_iff.mp e
    obtain ⟨b', e6, rfl⟩ := Option.map_eq_some_iff.mp e5
    obtain ⟨kk, e1, e7⟩ := Option.bind_eq_some_iff.mp (show (keyP p).bind (fun k => (dfind k ks xs).map fun r => r.isSome) = some b' from e6)
    obtain ⟨r, e2, rfl⟩ := Option.map_eq_some_iff.mp e7
    obtain ⟨a, o, rfl, g, h⟩ := dget_con cq cp e1 e2
    refine ⟨a, o, rfl, g, ?_⟩
    rcases h with ⟨rfl, rfl⟩ | ⟨p', v, rfl, rfl, h3⟩
    · exact k s.w _ (.refl R) rfl
    · exact k s.w _ (.refl R) rfl
  | _ => cases e
/-! ### d.get(k), d.get(k, x) -/
def rGetDic : V → List V → Hp → VK → Prop := fun x xs H Q => ∃ a o, x = .ref a ∧ ((∃ y, xs = [y] ∧ DGet H a y o ∧ Q (o.getD .non) H) ∨ ∃ y z, xs = [y, z] ∧ DGet H a y o ∧ Q (o.getD z) H)
theorem mt_getDic {X : Cx} (hu : X.A.units + 1 < cLine) : MtR X "dict.get" rGetDic := by
  intro pins s σ H x xs v us Q I rx rxs h
  obtain ⟨a, o, rfl, h⟩ := h
  obtain rfl : v = Value.ref a := rx
  rcases h with ⟨y, rfl, g, q⟩ | ⟨y, z, rfl, g, q⟩
  · obtain ⟨u, rfl, ry⟩ := vals1 rxs
    exact d_get1 hu I g ry fun w' s3 I3 rw' => ⟨_, H, I3, rw', q⟩
  · obtain ⟨u, u2, rfl, ry, rz⟩ := vals2 rxs
    exact d_get2 hu I g ry rz fun w' s3 I3 rw' => ⟨_, H, I3, rw', q⟩
/-- a thing that nobody owns -/
def atP : PV → Bool
  | .lst _ => false
  | .dic _ _ => false
  | _ => true
theorem con_at {K : PySem.W.Frag} {w : Wd} {p : PV} {v : V} (h : Con K w p v) (e : atP p = true) : Rep K w p v := by
  cases p with
  | lst _ => cases e
  | dic _ _ => cases e
  | _ => exact h
def getDF : PV → List PV → Option RV
  | .dic ks xs, [q] => (keyP q).bind fun k => (dfind k ks xs).map fun r => .val (r.getD .non)
  | .dic ks xs, [q, d] => @ite _ (atP d = true) (Classical.propDecidable _) ((keyP q).bind fun k => (dfind k ks xs).map fun r => .val (r.getD d)) none
  | _, _ => none
theorem ok_getDic {B : BC} : OkSee B rGetDic getDF := by
  intro L s p ps x xs z Q R cp cs e k
  cases p with
  | dic ks ys =>
    match ps, cs, e with
    | [q], cs, e =>
      obtain ⟨y, rfl, cq⟩ := cs.one
      obtain ⟨kk, e1, e⟩ := Option.bind_eq_some_iff.mp e
      obtain ⟨r, e2, rfl⟩ := Option.map_eq_some_iff.mp e
      obtain ⟨a, o, rfl, g, h⟩ := dget_con cp cq e1 e2
      refine ⟨a, o, rfl, .inl ⟨y, rfl, g, ?_⟩⟩
      rcases h with ⟨rfl, rfl⟩ | ⟨p', v, rfl, rfl, h3⟩
      · exact k s.w _ (.refl R) rfl
      · exact k s.w _ (.refl R) h3
    | [q, d], cs, e =>
      obtain ⟨y, y2, rfl, cq, cd⟩ := cs.two
      have e : @ite _ (atP d = true) (Classical.propDecidable _) ((keyP q).bind fun k => (dfind k ks ys).map fun r => RV.val (r.getD d)) none = some z := e
      split at e
      · rename_i hd
        obtain ⟨kk, e1, e⟩ := Option.bind_eq_some_iff.mp e
        obtain ⟨r, e2, rfl⟩ := Option.map_eq_some_iff.mp e
        obtain ⟨a, o, rfl, g, h⟩ := dget_con cp cq e1 e2
        refine ⟨a, o, rfl, .inr ⟨y, y2, rfl, g, ?_⟩⟩
        rcases h with ⟨rfl, rfl⟩ | ⟨p', v, rfl, rfl, h3⟩
        · exact k s.w _ (.refl R) (con_at cd hd)
        · exact k s.w _ (.refl R) h3
      · cases e
    | [], _, e => cases e
    | _ :: _ :: _ :: _, _, e => cases e
  | _ => cases e
/-! ### d[k] = v -/
def rSetDic : TSet := fun o i v H Q => ∃ a H', o = .ref a ∧ DPut H a i v H' ∧ Q H'
theorem set_dic {X : Cx} (hu : X.A.units + 1 < cLine) : PSet X rSetDic := by
  intro pins s σ H o i v ov iv u Q I ro ri rv h
  obtain ⟨a, H', rfl, g, q⟩ := h
  obtain rfl : ov = Value.ref a := ro
  exact d_setItem hu I g ri rv fun s' I' => ⟨H', I', q⟩
def setDF : PV → PV → PV → Option PV
  | .dic ks xs, q, y => (keyP q).bind fun k => (dfind k ks xs).bind fun r => @ite _ (ks.length < lim) (Classical.propDecidable _) (match r with
    | some _ => some (.dic ks (drep k y ks xs))
    | none => some (.dic (ks ++ [q]) (xs ++ [y]))) none
  | _, _, _ => none
theorem core_setDic {B : BC} : CoreS B rSetDic setDF := by
  intro w a p q y p' i v Q c ci hy e k
  cases p with
  | dic ks xs =>
    obtain ⟨kk, e1, e⟩ := Option.bind_eq_some_iff.mp e
    obtain ⟨r, e2, e⟩ := Option.bind_eq_some_iff.mp e
    split at e
    · rename_i hz
      obtain ⟨b, kks, vs, eb, e3, e4, hd, rr⟩ := con_dicK c e2
      cases eb
      have hlen : ks.length = vs.length := by
        have := congrArg List.length e3
        rw [List.length_map, List.length_map] at this
        omega
      have hz2 : (kks.zip vs).length < sizeLine := by rw [List.length_zip, ← lim_eq]; omega
      refine ⟨a, _, rfl, by rw [key_kV ci e1]; exact DPut.k hd hz2, ?_⟩
      refine k _ (.inr ?_)
      rcases dfind_ok e3 e4 rr e2 with ⟨h1, h2⟩ | ⟨p1, v1, h1, h2, h3⟩
      · subst h1
        cases e
        refine ⟨_, _, vs ++ [v], rfl, fun H' h' => .inl ⟨kks ++ [kk], ?_, by rw [List.length_append, List.length_append, e4]; rfl, ?_⟩, rr.append (Reps.cons hy .nil)⟩
        · rw [List.map_append, List.map_append, e3, List.map_singleton, List.map_singleton, e1]
        · rw [h', putK_new v h2, List.zip_append e4]
          rfl
      · subst h1
        cases e
        obtain ⟨i1, i2, i3⟩ := drep_ok (k := kk) hy e3 e4 rr
        refine ⟨_, _, _, rfl, fun H' h' => .inl ⟨kks, e3, by rw [i2, e4], ?_⟩, i1⟩
        rw [h', i3]
        unfold putK
        rw [if_pos (by rw [valV_any, h2]; rfl)]
    · cases e
  | _ => cases e
end
end BL
/-! B: reversed(range(n)). -/
namespace BL
noncomputable section
open PySem PySem.Spec PyProof.Rows L2
theorem units1 {k : Nat} {A : Around} (r : Room k A) : A.units + 1 < cLine := by have := r.un; omega
def rev1F : PV → Option (List PV)
  | .int j => @ite _ (okB j = true) (Classical.propDecidable _) (some (rgIt (j - 1) j.toNat (-1))) none
  | _ => none
def itRev1 (m : M RV) : M ItD := m.bind fun x => fun r => match (peek r x).bind rev1F with
  | some xs => .ok ⟨xs, []⟩ r
  | none => .no
section
variable {X : Cx} {B : BC} {W : WX} {a tg : Expr} {m : M RV} {p p2 pos pos2 : Pos}
theorem bi_revRg1 (hg : Gl X "reversed") (hm : X.mg "reversed" = none) (hg2 : Gl X "range") (hm2 : X.mg "range" = none) (ha : PE X a (tB B W m)) (na : starEach [a] X.env = (false, eval a X.env) :: starEach [] X.env := by rfl)
    (hs : starEach [Expr.Call (.Name "range" p2) [a] [] pos2] X.env = (false, eval (.Call (.Name "range" p2) [a] [] pos2) X.env) :: starEach [] X.env := by rfl) :
    PI X tg (.Call (.Name "reversed" p) [.Call (.Name "range" p2) [a] [] pos2] [] pos) (tG RIt B W (itRev1 m)) := by
  refine ⟨fun pins s σ H R I h => (pi_revR (tg := tg) hg hm (prg_1 hg2 hm2 ha na) hs).run pins s σ H R I ?_⟩
  show tB B W m σ H fun x H1 => _
  refine (tG.bind (T := RRel) h).mono fun x H1 q => ?_
  obtain ⟨L, s0, s, r1, e1, rfl, R0, A, h1, P⟩ := q
  split at P
  · rename_i xs e2
    obtain ⟨ps, e2, e3⟩ := Option.bind_eq_some_iff.mp e2
    have c := peek_con A.rel h1 e2
    unfold rev1F at e3
    split at e3
    · rename_i j
      split at e3
      · rename_i hz
        cases e3
        cases (show x = .int j from c)
        obtain ⟨z1, z2⟩ := okB_of hz
        refine ⟨j, rfl, by decide, by decide, z1, z2, ?_⟩
        rw [Int.sub_zero]
        refine P.fin A ⟨fun _ => True, _, [], (by show Walk _ (rgIt (j - 1) j.toNat (-1)).length _ _; unfold rgIt; rw [List.length_map, List.length_range]; exact walk_rangeC), fun _ _ => trivial, Safe.nil (B := B), (fun h hm => nomatch hm), yok_fn fun i p e w => ?_⟩
        rw [rgIt_get e]
        by_cases h0 : 0 ≤ j
        · rw [show (0 : Int) + ((j.toNat : Nat) : Int) - 1 = j - 1 by omega]
          exact rfl
        · exfalso
          rw [show j.toNat = 0 by omega] at e
          simp [rgIt] at e
      · cases e3
    · cases e3
  · exact P.elim
end
end
end BL
/-! B: sorted of a list of pairs of ints. -/
namespace BL
noncomputable section
open PySem PySem.Spec PyProof.Rows L2
abbrev PrLe (x y : Int × Int) : Prop := x.1 < y.1 ∨ (x.1 = y.1 ∧ x.2 ≤ y.2)
def prP (p : Int × Int) : PV := .tup [.int p.1, .int p.2]
def toPr : PV → Option (Int × Int)
  | .tup [.int i, .int j] => some (i, j)
  | _ => none
def toPrs : List PV → Option (List (Int × Int))
  | [] => some []
  | x :: r => (toPr x).bind fun p => (toPrs r).map (p :: ·)
theorem toPr_eq {x : PV} {p : Int × Int} (h : toPr x = some p) : x = prP p := by
  unfold toPr at h
  split at h
  · cases h; rfl
  · cases h
theorem toPrs_eq : ∀ {xs : List PV} {ps : List (Int × Int)}, toPrs xs = some ps → xs = ps.map prP
  | [], ps, h => by cases h; rfl
  | x :: r, ps, h => by
    unfold toPrs at h
    obtain ⟨p, e1, h⟩ := Option.bind_eq_some_iff.mp h
    obtain ⟨q, e2, h⟩ := Option.map_eq_some_iff.mp h
    subst h
    rw [toPr_eq e1, toPrs_eq e2]
    rfl
theorem toPrs_map : ∀ ps : List (Int × Int), toPrs (ps.map prP) = some ps
  | [] => rfl
  | p :: r => by
    show (toPr (prP p)).bind (fun p => (toPrs (r.map prP)).map (p :: ·)) = _
    rw [toPrs_map r]
    rfl
def insP (x : Int × Int) : List (Int × Int) → List (Int × Int)
  | [] => [x]
  | y :: r => if PrLe x y then x :: y :: r else y :: insP x r
def sortP : List (Int × Int) → List (Int × Int)
  | [] => []
  | x :: r => insP x (sortP r)
theorem insP_perm (x : Int × Int) : ∀ l, (insP x l).Perm (x :: l)
  | [] => .refl _
  | y :: r => by
    unfold insP
    split
    · exact .refl _
    · exact ((insP_perm x r).cons y).trans (.swap ..)
theorem sortP_perm : ∀ l, (sortP l).Perm l
  | [] => .refl _
  | x :: r => (insP_perm x _).trans ((sortP_perm r).cons x)
theorem PrLe.trans {x y z : Int × Int} (a : PrLe x y) (b : PrLe y z) : PrLe x z := by unfold PrLe at *; omega
theorem insP_sorted (x : Int × Int) : ∀ {l : List (Int × Int)}, l.Pairwise PrLe → (insP x l).Pairwise PrLe
  | [], _ => List.pairwise_singleton ..
  | y :: r, h => by
    unfold insP
    split
    · rename_i hx
      refine List.pairwise_cons.mpr ⟨fun z hz => ?_, h⟩
      rcases List.mem_cons.mp hz with e | hz
      · subst e; exact hx
      · exact hx.trans ((List.pairwise_cons.mp h).1 z hz)
    · rename_i hx
      refine List.pairwise_cons.mpr ⟨fun z hz => ?_, insP_sorted x (List.pairwise_cons.mp h).2⟩
      rcases List.mem_cons.mp ((insP_perm x r).mem_iff.mp hz) with e | hz
      · subst e; unfold PrLe at *; omega
      · exact (List.pairwise_cons.mp h).1 z hz
theorem sortP_sorted : ∀ l, (sortP l).Pairwise PrLe
  | [] => .nil
  | x :: r => insP_sorted x (sortP_sorted r)
theorem sortP_uniq {l m : List (Int × Int)} (p : m.Perm l) (h : m.Pairwise PrLe) : m = sortP l :=
  (p.trans (sortP_perm l).symm).eq_of_pairwise (le := PrLe) (fun a b _ _ h1 h2 => by
    obtain ⟨a1, a2⟩ := a
    obtain ⟨b1, b2⟩ := b
    unfold PrLe at *
    dsimp only at *
    rw [show a1 = b1 by omega, show a2 = b2 by omega]) h (sortP_sorted l)
section
variable {X : Cx}
def rSortedQ (K : PySem.W.Frag) : List V → Hp → VK → Prop := fun vs H Q => ∃ (a : Addr) (xs : List V) (ps : List (Int × Int)), vs = [V.ref a] ∧ SqL K H a xs ∧ ps.length = xs.length ∧ (∀ (i : Nat) p x, ps[i]? = some p → xs[i]? = some x → ∃ t : Addr, x = V.ref t ∧ SqT K H t [.int p.1, .int p.2]) ∧
  ∀ (zs : List ((Int × Int) × V)) (q : Addr), zs.Perm (ps.zip xs) → (zs.map (·.1)).Pairwise PrLe → H q = none → Q (.ref q) (upd H q (.lst (zs.map (·.2))))
theorem pair_fun {h : Heap} {v : Value} {x y x' y' : Int} (a : Srt.IsPair h v x y) (b : Srt.IsPair h v x' y') : x = x' ∧ y = y' := by
  obtain ⟨a, o, t, u, n, e, ho, hc, hd⟩ := a
  obtain ⟨a', o', t', u', n', e', ho', hc', hd'⟩ := b
  rw [e] at e'
  cases e'
  rw [ho] at ho'
  cases ho'
  rw [hd] at hd'
  injection hd' with h1 _
  have := congrArg Array.toList h1
  simp at this
  exact ⟨this.1.1, this.2.1⟩
theorem cr_sortedQ : CallR X (.builtin "sorted") (rSortedQ X.K) := by
  intro pins s σ H vs us Q I r h
  obtain ⟨a, xs, ps, rfl, hs, hl, hx, q⟩ := h
  obtain ⟨its, rv, hL, hz⟩ := I.list hs
  obtain ⟨u, rfl, ru⟩ := vals1 r
  obtain rfl : u = Value.ref a := ru
  have at1 : ∀ (i : Nat) p x u, ps[i]? = some p → xs[i]? = some x → its[i]? = some u → Srt.IsPair s.heap u p.1 p.2 := by
    intro i p x u h1 h2 h3
    obtain ⟨t, rfl, ht⟩ := hx i p x h1 h2
    obtain ⟨u', h4, r⟩ := rv.get h2
    rw [h3] at h4
    cases h4
    obtain rfl : u = Value.ref t := r
    obtain ⟨is, rv2, ⟨o, ho, hc, n, hd⟩, _⟩ := I.tuple ht
    obtain ⟨u1, u2, rfl, ri, rj⟩ := vals2 rv2
    obtain ⟨t1, rfl⟩ := ri
    obtain ⟨t2, rfl⟩ := rj
    exact ⟨t, o, t1, t2, n, rfl, ho, hc, hd⟩
  have ex : ∀ v ∈ its, ∃ p : Int × Int, Srt.IsPair s.heap v p.1 p.2 := by
    intro v hv
    obtain ⟨i, hi, e⟩ := List.getElem_of_mem hv
    have hi2 : i < xs.length := by rw [rv.length]; exact hi
    exact ⟨ps[i]'(by omega), at1 i _ _ v (List.getElem?_eq_getElem _) (List.getElem?_eq_getElem hi2) (by rw [List.getElem?_eq_getElem hi, e])⟩
  obtain ⟨k, hk⟩ : ∃ k : Value → Int × Int, ∀ v ∈ its, Srt.IsPair s.heap v (k v).1 (k v).2 := by
    refine ⟨fun v => Classical.epsilon fun p : Int × Int => Srt.IsPair s.heap v p.1 p.2, fun v hv => ?_⟩
    exact Classical.epsilon_spec (ex v hv)
  refine SrtO.sorted_pairsO (k := k) hL.isList (by rw [← rv.length]; exact hz) hk fun h' d out e1 e2 kk hd hn => ?_
  obtain ⟨n, hn⟩ := hn
  have ll : xs.length = its.length := rv.length
  obtain ⟨l', p', m'⟩ := perm_lift (fun z : (Int × Int) × V × Value => z.2.2) e2.perm (ps.zip (xs.zip its)) (by
    rw [show (fun z : (Int × Int) × V × Value => z.2.2) = Prod.snd ∘ Prod.snd from rfl, ← List.map_map, List.map_snd_zip (by rw [List.length_zip]; omega), List.map_snd_zip (by omega)])
  have hz' : ∀ z ∈ l', RelV z.2.1 z.2.2 ∧ k z.2.2 = z.1 ∧ z.2.2 ∈ its := by
    intro z hz
    obtain ⟨j, hj⟩ := List.mem_iff_getElem?.mp (p'.mem_iff.mp hz)
    obtain ⟨h1, h2⟩ := List.getElem?_zip_eq_some.mp hj
    obtain ⟨h3, h4⟩ := List.getElem?_zip_eq_some.mp h2
    obtain ⟨u, h5, h6⟩ := rv.get h3
    rw [h4] at h5
    cases h5
    have hm := List.mem_of_getElem? h4
    obtain ⟨y1, y2⟩ := pair_fun (hk _ hm) (at1 j _ _ _ h1 h3 h4)
    refine ⟨h6, ?_, hm⟩
    rw [← Prod.eta (k z.2.2), y1, y2]
  have pz : (l'.map fun z => (z.1, z.2.1)).Perm (ps.zip xs) := by
    have := p'.map (fun z : (Int × Int) × V × Value => (z.1, z.2.1))
    have e : (ps.zip (xs.zip its)).map (fun z : (Int × Int) × V × Value => (z.1, z.2.1)) = ps.zip xs := by
      rw [show (fun z : (Int × Int) × V × Value => (z.1, z.2.1)) = Prod.map id Prod.fst from rfl, ← List.zip_map_right, List.map_fst_zip (by omega)]
    rw [e] at this
    exact this
  have srt : ((l'.map fun z => (z.1, z.2.1)).map (·.1)).Pairwise PrLe := by
    rw [← m', SrtO.Srtd, List.pairwise_map] at e1
    rw [List.map_map, List.pairwise_map]
    refine List.Pairwise.imp_of_mem (fun {x y} hx hy h => ?_) e1
    have h := SrtO.lexB_no.mp h
    rw [(hz' x hx).2.1, (hz' y hy).2.1] at h
    show PrLe x.1 y.1
    unfold PrLe
    omega
  have ev : (l'.map fun z => (z.1, z.2.1)).map (·.2) = l'.map fun z => z.2.1 := by rw [List.map_map]; rfl
  refine ⟨.ref d, upd H d (.lst ((l'.map fun z => (z.1, z.2.1)).map (·.2))), I.laid (t' := s.toks) kk hd ⟨?_, out, n, ?_, hn⟩, rfl, q _ d pz srt (I.hok.fresh hd)⟩
  · rw [ev, List.length_map, ← List.length_map (f := fun z : (Int × Int) × V × Value => z.2.2), m', e2.perm.length_eq, ← ll]
    exact hz
  · rw [ev, ← m']
    exact vals_maps (fun z : (Int × Int) × V × Value => z.2.1) (fun z => z.2.2) l' fun z hz => (hz' z hz).1
end
def sortedPF : List PV → Option RV
  | [.lst xs] => (toPrs xs).map fun ps => .fresh (.lst ((sortP ps).map prP))
  | _ => none
theorem ok_sortedP {B : BC} : OkRs B (rSortedQ B.K) sortedPF := by
  intro L s ps xs z Q R cp e k
  match ps, cp, e with
  | [.lst ys], cp, e =>
    obtain ⟨x, rfl, c1⟩ := cp.one
    have e : (toPrs ys).map (fun ps => RV.fresh (.lst ((sortP ps).map prP))) = some z := e
    obtain ⟨ns, e2, e⟩ := Option.map_eq_some_iff.mp e
    subst e
    have ey := toPrs_eq e2
    subst ey
    obtain ⟨a, vs, rfl, h, r⟩ := c1
    refine ⟨a, vs, ns, rfl, .inl (.inl h), ?_, fun i p x h1 h2 => ?_, fun zs q pz so hn => ?_⟩
    · have := r.length
      rw [List.length_map] at this
      exact this
    · obtain ⟨x', h3, h4⟩ := r.get (i := i) (p := prP p) (by rw [List.getElem?_map, h1]; rfl)
      rw [h2] at h3
      cases h3
      obtain ⟨t, us, rfl, ht, u1, r1, e1, rp1, u2, r2, e2, rp2, e3⟩ := h4
      subst e3 e2 e1
      cases rp1
      cases rp2
      exact ⟨t, rfl, .inl (.inl ht)⟩
    · have e1 : zs.map (·.1) = sortP ns := by
        refine sortP_uniq ?_ so
        have := pz.map (·.1)
        rw [List.map_fst_zip (by have := r.length; rw [List.length_map] at this; omega)] at this
        exact this
      have rs : Reps B.K s.w ((sortP ns).map prP) (zs.map (·.2)) := by
        rw [← e1]
        have key : ∀ ws : List ((Int × Int) × V), (∀ z ∈ ws, Rep B.K s.w (prP z.1) z.2) → Reps B.K s.w ((ws.map (·.1)).map prP) (ws.map (·.2)) := by
          intro ws
          induction ws with
          | nil => exact fun _ => rfl
          | cons w ws ih => exact fun h => .cons (h w (List.mem_cons_self ..)) (ih fun z hz => h z (List.mem_cons_of_mem _ hz))
        refine key zs fun z hz => ?_
        obtain ⟨j, hj⟩ := List.mem_iff_getElem?.mp (pz.mem_iff.mp hz)
        obtain ⟨h1, h2⟩ := List.getElem?_zip_eq_some.mp hj
        obtain ⟨x', h3, h4⟩ := r.get (i := j) (p := prP z.1) (by rw [List.getElem?_map, h1]; rfl)
        rw [h2] at h3
        cases h3
        exact h4
      exact k _ _ (R.alloc hn) (R.newList hn rs)
  | [], _, e => cases e
  | .non :: _, _, e | .bl _ :: _, _, e | .int _ :: _, _, e | .str _ :: _, _, e | .tup _ :: _, _, e | .dic _ _ :: _, _, e | .obj _ :: _, _, e | .exc _ :: _, _, e | .scr _ :: _, _, e => cases e
  | .lst _ :: _ :: _, _, e => cases e
end
end BL
/-! B: zip of two things, each a list or a tuple. -/
namespace BL
noncomputable section
open PySem PySem.Spec PyProof.Rows L2
def SqK (k : Bool) (K : PySem.W.Frag) (H : Hp) (a : Addr) (xs : List V) : Prop := match k with
  | true => SqL K H a xs
  | false => SqT K H a xs
def ItK (k : Bool) (h : Heap) (it l : Addr) (i : Nat) : Prop := match k with
  | true => h.IsListIter it l i
  | false => h.IsTupleIter it l i
def DtK (k : Bool) (h : Heap) (l : Addr) (items : Array Value) : Prop := match k with
  | true => h.IsList l items
  | false => h.IsTuple l items
def itO (k : Bool) (l : Addr) : Obj := match k with
  | true => { cls := .type "list_iterator", data := .fields #[.ref l, .int 0 0] }
  | false => { cls := .type "tuple_iterator", data := .fields #[.ref l, .int 0 0] }
theorem drawsK {prog : Program} {w : World} {A : Around} (k : Bool) (hh : A.handled = none) (it l : Addr) (hne : l ≠ it) (items : Array Value) :
    Draws prog w A it [it, l] items.size (fun i v => items[i]? = some v) (fun i h => ItK k h it l i ∧ DtK k h l items) := by
  cases k
  · exact Draws.tuple hh it l hne items
  · exact Draws.list hh it l hne items
theorem ItK.obj {k : Bool} {h : Heap} {it l : Addr} {i : Nat} (s : ItK k h it l i) : ∃ o, h.get? it = some o ∧ ∀ v, o.data ≠ .cell v := by
  cases k
  · obtain ⟨o, e, _, d⟩ := s
    exact ⟨o, e, fun v q => by rw [d] at q; cases q⟩
  · obtain ⟨o, e, _, d⟩ := s
    exact ⟨o, e, fun v q => by rw [d] at q; cases q⟩
theorem ItK.at {k : Bool} {h h' : Heap} {it l : Addr} {i : Nat} (s : ItK k h it l i) (e : ∀ o, h.get? it = some o → h'.get? it = some o) : ItK k h' it l i := by
  cases k
  · exact Heap.IsTupleIter.at s e
  · exact Heap.IsListIter.at s e
theorem ItK.lt {k : Bool} {h : Heap} {it l : Addr} {i : Nat} (s : ItK k h it l i) : it < h.objs.size := by
  obtain ⟨o, e, _⟩ := s.obj
  exact Heap.lt_size e
theorem DtK.lt {k : Bool} {h : Heap} {l : Addr} {items : Array Value} (s : DtK k h l items) : l < h.objs.size := by
  cases k
  · obtain ⟨o, e, _⟩ := s
    exact Heap.lt_size e
  · obtain ⟨o, e, _⟩ := s
    exact Heap.lt_size e
section
variable {X : Cx} {pins : List (Addr × Obj)} {σ : L2.St} {H : Hp} {s : Shared} {k : Bool} {a : Addr} {xs ys : List V}
theorem sqK_its (I : Inv X pins σ H s) (h : SqK k X.K H a xs) : ∃ its : List Value, Vals xs its ∧ DtK k s.heap a its.toArray := by
  cases k
  · obtain ⟨its, r, p, _⟩ := I.tuple h
    exact ⟨its, r, show s.heap.IsTuple a its.toArray from p⟩
  · obtain ⟨its, r, p, _⟩ := I.list h
    exact ⟨its, r, p.isList⟩
theorem sqK_inj (I : Inv X pins σ H s) (h : SqK k X.K H a xs) (h' : SqK k X.K H a ys) : xs = ys := by
  cases k
  · exact I.tuple_inj h h'
  · exact I.list_inj h h'
end
def ItzM (k l : Bool) (K : PySem.W.Frag) (a b : Addr) : It :=
  ⟨fun i H => ∃ (xs ys : List V) (x y : V), SqK k K H a xs ∧ SqK l K H b ys ∧ xs[i]? = some x ∧ ys[i]? = some y,
    fun i H v H' => ∃ T x y, v = .ref T ∧ H T = none ∧ H' = upd H T (.tup [x, y]) ∧ (∀ xs, SqK k K H a xs → xs[i]? = some x) ∧ ∀ ys, SqK l K H b ys → ys[i]? = some y,
    fun i H => ∃ xs ys : List V, SqK k K H a xs ∧ SqK l K H b ys ∧ (i = xs.length ∨ i = ys.length) ∧ i ≤ xs.length ∧ i ≤ ys.length⟩
def zsep {z TI TO i1 i2 a b : Addr} (D : ZipApart z TI TO i1 i2 a b) : ZipSep2 z TI TO i1 i2 [i1, a] [i2, b] where
  TIz := D.TIz
  TOz := D.TOz
  TITO := D.TITO
  TIi1 := D.TIi1
  mem1 := by simp
  zf1 := by simp [D.i1z.symm, D.l1z.symm]
  Tf1 := by simp [D.TOi1, D.l1TO.symm]
  TIi2 := D.TIi2
  mem2 := by simp
  zf2 := by simp [D.i2z.symm, D.l2z.symm]
  Tf2 := by simp [D.TOi2, D.l2TO.symm]
  sep1_2 := by simp [D.i12, D.l2i1.symm]
  sep2_1 := by simp [D.i12.symm, D.l1i2.symm]
section
variable {P : Program} {w : World} {K : PySem.W.Frag} {elts : List Expr} {kk : Nat} {tpos : Pos} {a b z TI TO i1 i2 : Addr} {k l : Bool}
/-- the five things of a zip -/
structure ZStM (k l : Bool) (z TI TO i1 i2 a b : Addr) (i : Nat) (h : Heap) : Prop where
  zz : IsZip h z TI TO .none
  ti : IsTupOf2 h TI (.ref i1) (.ref i2)
  to : ∃ x y, IsTupOf2 h TO x y
  s1 : ItK k h i1 a i
  s2 : ItK l h i2 b i
theorem five {c : Addr} (h : c ∈ [z, TI, TO, i1, i2]) : c = z ∨ c = TI ∨ c = TO ∨ c = i1 ∨ c = i2 := by simpa using h
theorem turn_zipM (D : ZipApart z TI TO i1 i2 a b) : Turn P w K (.Tuple elts kk tpos) (ItzM k l K a b) [z, TI, TO, i1, i2] z (ZStM k l z TI TO i1 i2 a b) where
  mem := by simp
  obj := fun i h st c hc => by
    obtain ⟨x, y, hTO⟩ := st.to
    rcases five hc with rfl | rfl | rfl | rfl | rfl
    · exact ⟨_, st.zz, fun v q => nomatch q⟩
    · exact ⟨_, st.ti, fun v q => nomatch q⟩
    · exact ⟨_, hTO, fun v q => nomatch q⟩
    · exact st.s1.obj
    · exact st.s2.obj
  keep := fun i h h' st kp => by
    obtain ⟨x, y, hTO⟩ := st.to
    exact ⟨kp z (by simp) _ st.zz, kp TI (by simp) _ st.ti, ⟨x, y, kp TO (by simp) _ hTO⟩, st.s1.at (kp i1 (by simp)), st.s2.at (kp i2 (by simp))⟩
  item := by
    intro X hP hw hK hc i pins s σ H E I hf st hg
    subst hP hw hK
    obtain ⟨x0, y0, hTO⟩ := st.to
    obtain ⟨xs, ys, x, y, hqx, hqy, hx, hy⟩ := hg
    obtain ⟨its, rv, p⟩ := sqK_its I hqx
    obtain ⟨its2, rv2, p2⟩ := sqK_its I hqy
    obtain ⟨u, hu, ru⟩ := rv.get hx
    obtain ⟨u2, hu2, ru2⟩ := rv2.get hy
    have hu : its.toArray[i]? = some u := by simpa using hu
    have hu2 : its2.toArray[i]? = some u2 := by simpa using hu2
    have hzl : z < s.heap.objs.size := Heap.lt_size st.zz
    refine wpAny_pyNext_zipD2_item (zsep D) (drawsK (prog := X.prog) (w := X.w) (A := X.A.in1) k (I.ok.hd hc) i1 a D.l1i1 its.toArray) (drawsK (prog := X.prog) (w := X.w) (A := X.A.in1) l (I.ok.hd hc) i2 b D.l2i2 its2.toArray) st.zz st.ti hTO ⟨st.s1, p⟩ ⟨st.s2, p2⟩ (Array.getElem?_eq_some_iff.mp hu).1 (Array.getElem?_eq_some_iff.mp hu2).1 fun v1 v2 h' tk e1 e2 hz' hTO' d1 d2 hT hsz kp => ?_
    have ev1 : v1 = u := Option.some.inj (e1.symm.trans hu)
    have ev2 : v2 = u2 := Option.some.inj (e2.symm.trans hu2)
    subst ev1 ev2
    refine ⟨_, rfl, wpAny_letOwnedTupleGo_zip (s := { s with heap := h', toks := tk }) hz' fun h2 hz2 sb => ?_⟩
    have nz : ∀ c, c ≠ z → h2.get? c = h'.get? c := fun c hcz => sb.2 c hcz
    have I1 : Inv X pins σ (upd H s.heap.objs.size (.tup [x, y])) { s with heap := h2, toks := tk } :=
      I.turnedNew (ch := [z, TI, TO, i1, i2]) (fun c o hb q => by
        have nn : ∀ d ∈ [z, TI, TO, i1, i2], c ≠ d := fun d hd e => hb (e ▸ hd)
        rw [nz c (nn z (by simp))]
        exact kp c o (nn z (by simp)) (nn TO (by simp)) (nn i1 (by simp)) (nn i2 (by simp)) q) hf (Nat.le_refl _)
        ⟨by show 2 ≤ sizeLine; decide, [v1, v2], .cons ru (.cons ru2 .nil), ⟨_, (nz _ (Nat.ne_of_gt hzl)).trans hT, rfl, _, rfl⟩⟩
    refine ⟨.ref s.heap.objs.size, _, I1, rfl, ⟨_, x, y, rfl, I.hok.fresh (Nat.le_refl _), rfl, fun l hl => by rw [sqK_inj I hl hqx]; exact hx, fun l hl => by rw [sqK_inj I hl hqy]; exact hy⟩, ⟨hz2, ?_, ⟨v1, v2, (nz _ D.TOz).trans hTO'⟩, d1.1.at fun o q => (nz _ D.i1z).trans q, d2.1.at fun o q => (nz _ D.i2z).trans q⟩, fun c hcm => ?_⟩
    · exact (nz _ D.TIz).trans (kp _ _ D.TIz D.TITO D.TIi1 D.TIi2 st.ti)
    · have hlt : c < s.heap.objs.size := by
        rcases five hcm with rfl | rfl | rfl | rfl | rfl
        · exact hzl
        · exact Heap.lt_size st.ti
        · exact Heap.lt_size hTO
        · exact st.s1.lt
        · exact st.s2.lt
      rw [upd_ne (Nat.ne_of_lt hlt)]
      exact (hf c hcm).1
  done := by
    intro X hP hw hK hc i pins s σ H E I hf st hg
    subst hP hw hK
    obtain ⟨x0, y0, hTO⟩ := st.to
    obtain ⟨xs, ys, hqx, hqy, hend, hl1, hl2⟩ := hg
    obtain ⟨its, rv, p⟩ := sqK_its I hqx
    obtain ⟨its2, rv2, p2⟩ := sqK_its I hqy
    have m1 : xs.length = its.toArray.size := rv.length
    have m2 : ys.length = its2.toArray.size := rv2.length
    refine wpAny_pyNext_zipD2_end (zsep D) (drawsK (prog := X.prog) (w := X.w) (A := X.A.in1) k (I.ok.hd hc) i1 a D.l1i1 its.toArray) (drawsK (prog := X.prog) (w := X.w) (A := X.A.in1) l (I.ok.hd hc) i2 b D.l2i2 its2.toArray) st.zz st.ti hTO ⟨st.s1, p⟩ ⟨st.s2, p2⟩ (by omega) (by omega) (by omega) fun h' tk kp => ?_
    refine ⟨rfl, I.turnedL (t' := tk) (ch := [z, TI, TO, i1, i2]) (fun c o hb q => ?_) hf⟩
    have nn : ∀ d ∈ [z, TI, TO, i1, i2], c ≠ d := fun d hd e => hb (e ▸ hd)
    exact kp c o (nn z (by simp)) (nn TO (by simp)) (nn i1 (by simp)) (nn i2 (by simp)) q
  self := fun A i s Q E st h => wpAny_pyIter_zip st.zz h
end
abbrev zM1 (k : Bool) (h : Heap) (a : Addr) : Heap := h.push (itO k a)
abbrev zM2 (k l : Bool) (h : Heap) (a b : Addr) : Heap := (zM1 k h a).push (itO l b)
abbrev zM3 (k l : Bool) (h : Heap) (a b : Addr) : Heap := (zM2 k l h a b).push { cls := .type "tuple", data := .seq #[.ref h.objs.size, .ref (zM1 k h a).objs.size] }
abbrev zM4 (k l : Bool) (h : Heap) (a b : Addr) : Heap := (zM3 k l h a b).push { cls := .type "tuple", data := .seq #[.none, .none] }
abbrev zM5 (k l : Bool) (h : Heap) (a b : Addr) : Heap := (zM4 k l h a b).push { cls := .type "zip", data := .fields #[.none, .bool false, .bool false, .ref (zM2 k l h a b).objs.size, .ref (zM3 k l h a b).objs.size] }
theorem meets_zipM (k l : Bool) (a b : Addr) (xs ys : Array Value) :
    Meets (Builtin.«zip.__new__» ⟨[.type "zip", .ref a, .ref b], []⟩) (fun _ R s => DtK k s.heap a xs ∧ DtK l s.heap b ys ∧ R (.ok (.ret (.ref (zM4 k l s.heap a b).objs.size))) { s with heap := zM5 k l s.heap a b }) :=
  .of_wp fun prog w A R s h => by
    obtain ⟨hp, g, d, tk, os⟩ := s
    obtain ⟨m1, m2, h⟩ := h
    have hsub := sub_zip
    cases k <;> cases l
    · have e1 : Heap.IsTuple (Shared.heap ⟨hp, g, d, tk, os⟩) a xs := m1
      have e2 : Heap.IsTuple (Shared.heap ⟨hp.push { cls := .type "tuple_iterator", data := .fields #[.ref a, .int 0 0] }, g, d, tk, os⟩) b ys := Heap.IsTuple.push m2 _
      wp_walk using wpAny_pyIter_tuple e1, wpAny_pyIter_tuple e2
      exact ⟨_, rfl, h⟩
    · have e1 : Heap.IsTuple (Shared.heap ⟨hp, g, d, tk, os⟩) a xs := m1
      have e2 : Heap.IsList (Shared.heap ⟨hp.push { cls := .type "tuple_iterator", data := .fields #[.ref a, .int 0 0] }, g, d, tk, os⟩) b ys := Heap.IsList.push m2 _
      wp_walk using wpAny_pyIter_tuple e1, wpAny_pyIter_list e2
      exact ⟨_, rfl, h⟩
    · have e1 : Heap.IsList (Shared.heap ⟨hp, g, d, tk, os⟩) a xs := m1
      have e2 : Heap.IsTuple (Shared.heap ⟨hp.push { cls := .type "list_iterator", data := .fields #[.ref a, .int 0 0] }, g, d, tk, os⟩) b ys := Heap.IsTuple.push m2 _
      wp_walk using wpAny_pyIter_list e1, wpAny_pyIter_tuple e2
      exact ⟨_, rfl, h⟩
    · have e1 : Heap.IsList (Shared.heap ⟨hp, g, d, tk, os⟩) a xs := m1
      have e2 : Heap.IsList (Shared.heap ⟨hp.push { cls := .type "list_iterator", data := .fields #[.ref a, .int 0 0] }, g, d, tk, os⟩) b ys := Heap.IsList.push m2 _
      wp_walk using wpAny_pyIter_list e1, wpAny_pyIter_list e2
      exact ⟨_, rfl, h⟩
theorem get_push {h : Heap} {o : Obj} {c : Addr} {n : Nat} (hn : h.objs.size = n) (hc : c = n) (hf : o.isFreed = false) : (h.push o).get? c = some o := by
  subst hc hn
  exact Heap.get?_push_size _ hf
theorem itO_free {k : Bool} {a : Addr} : (itO k a).isFreed = false := by cases k <;> rfl
theorem itO_it {k : Bool} {h : Heap} {c a : Addr} (e : h.get? c = some (itO k a)) : ItK k h c a 0 := by
  cases k
  · exact ⟨_, e, rfl, rfl⟩
  · exact ⟨_, e, rfl, rfl⟩
section
variable {prog : Program} {w : World} {A : Around} {E : Value → Shared → Prop} {s : Shared}
theorem call_zipM {k l : Bool} {a b : Addr} {xs ys : Array Value} {Q : Value → Shared → Prop} (h1 : DtK k s.heap a xs) (h2 : DtK l s.heap b ys)
    (q : ∀ h', ZStM k l (s.heap.objs.size + 4) (s.heap.objs.size + 2) (s.heap.objs.size + 3) s.heap.objs.size (s.heap.objs.size + 1) a b 0 h' → (∀ c o, s.heap.get? c = some o → h'.get? c = some o) → Q (.ref (s.heap.objs.size + 4)) { s with heap := h' }) :
    wpAny (model prog w) A (call (.type "zip") [.ref a, .ref b]) Q E s := by
  have z1 : (zM1 k s.heap a).objs.size = s.heap.objs.size + 1 := Heap.size_push ..
  have z2 : (zM2 k l s.heap a b).objs.size = s.heap.objs.size + 2 := (Heap.size_push ..).trans (congrArg (· + 1) z1)
  have z3 : (zM3 k l s.heap a b).objs.size = s.heap.objs.size + 3 := (Heap.size_push ..).trans (congrArg (· + 1) z2)
  have z4 : (zM4 k l s.heap a b).objs.size = s.heap.objs.size + 4 := (Heap.size_push ..).trans (congrArg (· + 1) z3)
  refine callType_new F.called_zip (by decide) (F.typeCall_zip_2 _ _) (F.newCall_zip_2 _ _) (fun obj => F.args_object_init_3 obj _ _) F.entry_zip_new (meets_zipM k l a b xs ys) ⟨h1, h2, ?_⟩
  have up : ∀ {g : Heap} {o o' : Obj} {c : Addr}, g.get? c = some o → (g.push o').get? c = some o := fun e => Heap.get?_push_of_some _ e
  have e5 : (zM5 k l s.heap a b).get? (s.heap.objs.size + 4) = some { cls := .type "zip", data := .fields #[.none, .bool false, .bool false, .ref (s.heap.objs.size + 2), .ref (s.heap.objs.size + 3)] } := by
    rw [get_push z4 rfl rfl, z2, z3]
  have e4 : (zM5 k l s.heap a b).get? (s.heap.objs.size + 3) = some { cls := .type "tuple", data := .seq #[.none, .none] } := up (get_push z3 rfl rfl)
  have e3 : (zM5 k l s.heap a b).get? (s.heap.objs.size + 2) = some { cls := .type "tuple", data := .seq #[.ref s.heap.objs.size, .ref (s.heap.objs.size + 1)] } := by
    refine up (up ?_)
    rw [get_push z2 rfl rfl, z1]
  have e2 : (zM5 k l s.heap a b).get? (s.heap.objs.size + 1) = some (itO l b) := up (up (up (get_push z1 rfl itO_free)))
  have e1 : (zM5 k l s.heap a b).get? s.heap.objs.size = some (itO k a) := up (up (up (up (get_push rfl rfl itO_free))))
  show _ ∧ _
  rw [z4]
  exact ⟨⟨_, e5, rfl⟩, q _ ⟨e5, e3, ⟨_, _, e4⟩, itO_it e1, itO_it e2⟩ fun c o x => up (up (up (up (up x))))⟩
end
def iZipM (K : PySem.W.Frag) (ta : TA) : TI := fun σ H R => ta σ H fun vs H1 => ∃ k l a b xs ys, vs = [.ref a, .ref b] ∧ SqK k K H1 a xs ∧ SqK l K H1 b ys ∧ R (ItzM k l K a b) H1
theorem pi_zipM {X : Cx} {e e2 : Expr} {ta : TA} {p pos tpos : Pos} {elts : List Expr} {kk : Nat} (hg : Gl X "zip") (hm : X.mg "zip" = none) (ha : PA X [e, e2] ta)
    (hs : starEach [e, e2] X.env = (false, eval e X.env) :: starEach [e2] X.env := by rfl) (hpl : (backTo pos (starEach [e2] X.env)).any (·.1) = false := by rfl) :
    PI X (.Tuple elts kk tpos) (.Call (.Name "zip" p) [e, e2] [] pos) (iZipM X.K ta) := by
  refine ⟨fun pins s σ H R I h => Call_ (ld_blt I hg hm boot_zip (callWith_type1 (thn (ha.run pos pins s σ H _ I h) fun us s1 ⟨vs, H1, I1, r1, q1⟩ => ?_) hs hpl))⟩
  obtain ⟨k, l, a, b, xs, ys, rfl, hqx, hqy, q⟩ := q1
  obtain ⟨u1, u2, rfl, r1, r2⟩ := vals2 r1
  obtain rfl : u1 = Value.ref a := r1
  obtain rfl : u2 = Value.ref b := r2
  obtain ⟨its, rv, p1⟩ := sqK_its I1 hqx
  obtain ⟨its2, rv2, p2⟩ := sqK_its I1 hqy
  refine call_zipM p1 p2 fun h' st kp => wpAny_pyIter_zip st.zz ?_
  refine ⟨s1.heap.objs.size + 4, _, _, _, H1, rfl, I1.kept (t' := s1.toks) kp, turn_zipM (PySem.W.ktu_apart s1.heap.objs.size a b p1.lt p2.lt), st, fun c hcm => ?_, q⟩
  have hle : s1.heap.objs.size ≤ c := by
    rcases five hcm with z | z | z | z | z
    · exact z ▸ Nat.le_add_right _ _
    · exact z ▸ Nat.le_add_right _ _
    · exact z ▸ Nat.le_add_right _ _
    · exact z ▸ Nat.le_refl _
    · exact z ▸ Nat.le_add_right _ _
  exact I1.fpOk hle (I1.hok.fresh hle)
theorem walk_zipM {k l : Bool} {K : PySem.W.Frag} {a b : Addr} {xs ys : List V} {n : Nat} (hn : n = min xs.length ys.length) : Walk (ItzM k l K a b) n (fun H => SqK k K H a xs ∧ SqK l K H b ys) (YPair (fun i => xs[i]?) (fun i => ys[i]?)) := by
  subst hn
  refine ⟨fun i _ hi q => ?_, fun _ q => ⟨xs, ys, q.1, q.2, by omega, by omega, by omega⟩, fun i H v H' _ q y => ?_⟩
  · have h1 : i < xs.length := by omega
    have h2 : i < ys.length := by omega
    exact ⟨xs, ys, xs[i], ys[i], q.1, q.2, by simp [h1], by simp [h2]⟩
  · obtain ⟨T, x, z, h1, h2, h3, h4, h5⟩ := y
    exact ⟨T, x, z, h1, h2, h3, h4 xs q.1, h5 ys q.2⟩
def itZipM (m n : M RV) : M ItD := m.bind fun x => n.bind fun y => fun r => match peek r x, peek r y with
  | some p, some q => (match seqOf p, seqOf q with
    | some xs, some ys => .ok ⟨zipP xs ys, lockOf r x ++ lockOf r y⟩ r
    | _, _ => .no)
  | _, _ => .no
section
variable {X : Cx} {B : BC} {W : WX} {e e2 tg : Expr} {m : M RV} {p pos tpos : Pos} {elts : List Expr} {kk : Nat}
theorem bi_zipM {n : M RV} (hK : X.K = B.K) (hg : Gl X "zip") (hm : X.mg "zip" = none) (he : PE X e (tB B W m)) (he2 : PE X e2 (tB B W n)) (hs : starEach [e, e2] X.env = (false, eval e X.env) :: starEach [e2] X.env := by rfl) (hs2 : starEach [e2] X.env = (false, eval e2 X.env) :: starEach [] X.env := by rfl)
    (hpl : (backTo pos (starEach [e2] X.env)).any (·.1) = false := by rfl) : PI X (.Tuple elts kk tpos) (.Call (.Name "zip" p) [e, e2] [] pos) (tG RIt B W (itZipM m n)) := by
  refine ⟨fun pins s σ H R I h => (pi_zipM (tpos := tpos) (elts := elts) (kk := kk) hg hm (pa_cons he (pa_cons he2 pa_nil hs2) hs) hs hpl).run pins s σ H R I ?_⟩
  refine (tG.bind (T := RRel) h).mono fun x H1 q => ?_
  obtain ⟨L, s0, s, r1, rfl, rfl, R0, A, h1, P⟩ := q
  refine (Post.bind (T := RRel) R0 A P).mono fun y H2 q => ?_
  obtain ⟨s2, r2, rfl, A2, h2, P⟩ := q
  have h1 := h1.at A2 A.rel
  have A := A.trans A2
  split at P
  · rename_i p q e1 e2
    split at P
    · rename_i xs ys e3 e4
      obtain ⟨a, vs, as, rfl, rs, sf, hq⟩ := seq_safe A.rel h1 e1 e3
      obtain ⟨b, us, bs, rfl, rs2, sf2, hq2⟩ := seq_safe A2.rel h2 e2 e4
      rw [hK]
      have kl : ∀ {H' : Hp}, (∀ c ∈ as ++ bs, H' c = s2.w.H c) → (∀ c ∈ as, H' c = s2.w.H c) ∧ ∀ c ∈ bs, H' c = s2.w.H c := fun h => ⟨fun c hc => h c (List.mem_append_left _ hc), fun c hc => h c (List.mem_append_right _ hc)⟩
      have hl : (zipP xs ys).length = min vs.length us.length := by rw [zipP_length, rs.length, rs2.length]
      have lv : ∀ h ∈ lockOf s2.r r1 ++ lockOf s2.r r2, isLive s2 h := fun h hm => (List.mem_append.mp hm).elim (lock_live A.rel h) (lock_live A2.rel h)
      have yo : Yok B s2 (YPair (fun i => vs[i]?) (fun i => us[i]?)) (zipP xs ys) := yok_pair (n := 0) fun i p e => by
        obtain ⟨x, y, g1, g2, rfl⟩ := zipP_get xs ys i p e
        obtain ⟨u1, k1, k2⟩ := rs.get g1
        obtain ⟨u2, k3, k4⟩ := rs2.get g2
        refine ⟨_, _, rfl, fun v hv => ?_, fun v hv => ?_⟩
        · rw [k1] at hv; cases hv; exact k2
        · rw [k3] at hv; cases hv; exact k4
      have hq : ∃ k, ∀ H', (∀ c ∈ as, H' c = s2.w.H c) → SqK k B.K H' a vs := by
        rcases hq with ⟨_, hq⟩ | ⟨_, hq⟩
        · exact ⟨true, hq⟩
        · exact ⟨false, hq⟩
      have hq2 : ∃ k, ∀ H', (∀ c ∈ bs, H' c = s2.w.H c) → SqK k B.K H' b us := by
        rcases hq2 with ⟨_, hq⟩ | ⟨_, hq⟩
        · exact ⟨true, hq⟩
        · exact ⟨false, hq⟩
      obtain ⟨k, hq⟩ := hq
      obtain ⟨l, hq2⟩ := hq2
      exact ⟨k, l, a, b, vs, us, rfl, hq _ fun _ _ => rfl, hq2 _ fun _ _ => rfl, P.fin A ⟨fun H => SqK k B.K H a vs ∧ SqK l B.K H b us, _, as ++ bs, (by show Walk _ (zipP xs ys).length _ _; exact walk_zipM hl), fun H' kk => ⟨hq H' (kl kk).1, hq2 H' (kl kk).2⟩, sf.append sf2, lv, yo⟩⟩
    · exact P.elim
  · exact P.elim
end
end
end BL
/-! B: repr of tuples with empty dicts in them. -/
namespace BL
noncomputable section
open PySem PySem.Spec PyProof.Rows L2
def shwN (p : PV) : Option PyData := match toN p with
  | some d => @ite _ (d.showable = true ∧ d.depth ≤ 64 ∧ d.shown.length ≤ lim) (Classical.propDecidable _) (some d) none
  | none => none
def reprWF : List PV → Option RV
  | [p] => ((shwP p).or (shwN p)).map fun d => .val (.str d.shown)
  | _ => none
def rReprN (K : PySem.W.Frag) : List V → Hp → VK → Prop := fun xs H Q => ∃ x d p w, xs = [x] ∧ Wd.H w = H ∧ Con K w p x ∧ toN p = some d ∧ d.showable = true ∧ d.depth ≤ 64 ∧ d.shown.length ≤ sizeLine ∧ Q (.str d.shown) H
theorem con_reads {X : Cx} {pins : List (Addr × Obj)} {σ : L2.St} {s : Shared} {w : Wd} (I : Inv X pins σ w.H s) {p : PV} {v : V} {u : Value} {d : PyData} (h : Con X.K w p v) (e : toN p = some d) (r : RelV v u) : ∃ as, Reads s.heap u d as ∧ sysModules ∉ as := by
  cases p with
  | lst xs => cases e
  | dic ks xs =>
    match ks, xs, e with
    | [], [], e =>
      cases e
      obtain ⟨a, vs, rfl, hd, rs⟩ := h
      cases r
      cases (show vs = [] from rs)
      exact dic0_reads I hd
    | _ :: _, _, e => cases e
    | [], _ :: _, e => cases e
  | _ => exact toN_reads I h e r
theorem call_reprN {X : Cx} {k : Nat} (hr : Room k X.A) (hG : Gd X.A) : CallR X (.builtin "repr") (rReprN X.K) := by
  intro pins s σ H xs us Q I r h
  obtain ⟨x, d, p, w, rfl, rfl, hc, hd, hs, hdp, hln, q⟩ := h
  obtain ⟨u, rfl, ru⟩ := vals1 r
  obtain ⟨as, rd, hn⟩ := con_reads I hc hd ru
  have hun := hr.un
  have un : X.A.units + (d.depth + 1) < cLine := by omega
  have end' : ∀ {a : Addr}, Reads s.heap (.ref a) d as → wpAny (model X.prog X.w) X.A (call (.builtin "repr") [.ref a]) (EP X pins σ Q) X.xe s := fun rd => repr_of_reads' rd hs (fun _ => hn) hG un (fun b o e => e) (fun h' u tk hk => ⟨.str _, w.H, I.kept hk, ⟨_, rfl⟩, q⟩) hln
  cases rd with
  | none => exact PySem.P.repr_of_none ⟨.str "None", w.H, I.tok _, ⟨_, rfl⟩, q⟩
  | bool b => exact PySem.P.repr_of_bool ⟨.str _, w.H, I.tok _, ⟨_, rfl⟩, q⟩
  | int i t => exact PySem.P.repr_of_int (by simpa [PyData.showable] using hs) ⟨.str _, w.H, I.tok _, ⟨_, rfl⟩, q⟩
  | str z t => exact PySem.P.repr_of_str ⟨.str _, w.H, I.tok _, ⟨_, rfl⟩, q⟩ (by simpa [PyData.shown] using hln)
  | list a1 a2 a3 a4 => exact end' (.list a1 a2 a3 a4)
  | tuple a1 a2 a3 a4 => exact end' (.tuple a1 a2 a3 a4)
  | dict a1 a2 a3 a4 a5 => exact end' (.dict a1 a2 a3 a4 a5)
theorem call_reprW {X : Cx} {k : Nat} (hr : Room k X.A) (hG : Gd X.A) : CallR X (.builtin "repr") (fun xs H Q => rRepr X.K xs H Q ∨ rReprN X.K xs H Q) := (call_reprB hr hG).or (call_reprN hr hG)
theorem ok_reprW {B : BC} : OkRs B (fun xs H Q => rRepr B.K xs H Q ∨ rReprN B.K xs H Q) reprWF := by
  intro L s ps xs z Q R cp e k
  match ps, cp, e with
  | [p], cp, e =>
    have e : ((shwP p).or (shwN p)).map (fun d => RV.val (.str d.shown)) = some z := e
    cases e1 : shwP p with
    | some d =>
      rw [e1] at e
      exact .inl (ok_repr L s [p] xs z Q R cp (by show (shwP p).map _ = _; rw [e1]; exact e) k)
    | none =>
      rw [e1] at e
      have e : (shwN p).map (fun d => RV.val (.str d.shown)) = some z := e
      obtain ⟨d, e2, rfl⟩ := Option.map_eq_some_iff.mp e
      obtain ⟨x, rfl, c1⟩ := cp.one
      unfold shwN at e2
      split at e2
      · rename_i d' e3
        split at e2
        · rename_i hz
          cases e2
          exact .inr ⟨x, d, p, s.w, rfl, rfl, c1, e3, hz.1, hz.2.1, by rw [← lim_eq]; exact hz.2.2, OkRs.l R k rfl⟩
        · cases e2
      · cases e2
  | [], _, e => cases e
  | _ :: _ :: _, _, e => cases e
/-! ### x in (a tuple of ints) -/
def inTF : PV → PV → Option Bool
  | .int i, .tup xs => (toInts xs).map fun ns => @decide (i ∈ ns) (Classical.propDecidable _)
  | p, q => inF p q
theorem inV_ints {i : Int} : ∀ ns : List Int, inV (.int i) (ns.map V.int) = @decide (i ∈ ns) (Classical.propDecidable _)
  | [] => (@decide_eq_false _ (Classical.propDecidable _) (List.not_mem_nil)).symm
  | n :: ns => by
    have ih := inV_ints (i := i) ns
    unfold inV at ih ⊢
    rw [List.map_cons, List.any_cons, ih]
    have e : eqV (.int n) (.int i) = decide (n = i) := by
      show (n == i) = _
      by_cases h : n = i
      · subst h; simp
      · rw [decide_eq_false h]; simp [h]
    rw [e]
    by_cases h : n = i
    · subst h
      rw [decide_eq_true rfl, Bool.true_or]
      exact (@decide_eq_true _ (Classical.propDecidable _) (List.mem_cons_self ..)).symm
    · rw [decide_eq_false h, Bool.false_or]
      by_cases h2 : i ∈ ns
      · rw [@decide_eq_true _ (Classical.propDecidable _) h2, @decide_eq_true _ (Classical.propDecidable _) (List.mem_cons_of_mem _ h2)]
      · rw [@decide_eq_false _ (Classical.propDecidable _) h2, @decide_eq_false _ (Classical.propDecidable _) (fun z => by
          rcases List.mem_cons.mp z with z | z
          · exact h z.symm
          · exact h2 z)]
theorem flat_ints : ∀ ns : List Int, (ns.map V.int).all flatV = true
  | [] => rfl
  | n :: ns => by rw [List.map_cons, List.all_cons, flat_ints ns]; rfl
theorem op_inT {X : Cx} (hu : X.A.units + 65 < cLine) : OpR X (compareOp .In) (fun x y H Q => rIn X.K false x y H Q ∨ rInD X.K x y H Q) := op_in_seq.or (op_inD hu)
theorem ok_inT {B : BC} : OkR2 B (fun x y H Q => rIn B.K false x y H Q ∨ rInD B.K x y H Q) (asV inTF) := by
  intro L s p q x y z Q R cp cq e k
  unfold asV inTF at e
  split at e
  · rename_i i xs
    obtain ⟨b, e0, rfl⟩ := Option.map_eq_some_iff.mp e
    obtain ⟨ns, e1, rfl⟩ := Option.map_eq_some_iff.mp e0
    cases (show x = .int i from cp)
    obtain ⟨a, vs, rfl, hq, rs⟩ := con_tup cq
    rw [toInts_reps rs e1] at hq
    refine .inl ⟨a, _, rfl, .inr hq, rfl, flat_ints ns, ?_⟩
    rw [if_neg Bool.false_ne_true, inV_ints]
    exact k s.w _ (.refl R) rfl
  · exact .inr (ok_in L s p q x y z Q R cp cq e k)
end
end BL
/-! B: a text walked sign by sign; texts joined. -/
namespace BL
noncomputable section
open PySem PySem.Spec PyProof.Rows L2
def signP (c : Nat) : PV := .str ⟨#[c]⟩
def itStr (m : M RV) : M ItD := m.bind fun x => fun r => match peek r x with
  | some (.str z) => .ok ⟨z.cps.toList.map signP, []⟩ r
  | _ => .no
theorem yok_str {B : BC} {s : BS} {z : Str} : Yok B s (fun i H v H' => H' = H ∧ ∃ c, z.cps[i]? = some c ∧ v = .str ⟨#[c]⟩) (z.cps.toList.map signP) := by
  intro L s' i p x H' R k e y
  obtain ⟨rfl, c, e1, rfl⟩ := y
  refine ⟨s'.w, rfl, .refl R, ?_⟩
  rw [List.getElem?_map, Array.getElem?_toList, e1] at e
  cases e
  exact rfl
section
variable {X : Cx} {B : BC} {W : WX} {e tg : Expr} {m : M RV}
theorem bi_str (he : PE X e (tB B W m)) : PI X tg e (tG RIt B W (itStr m)) := by
  refine ⟨fun pins s σ H R I h => (pi_str (tg := tg) he).run pins s σ H R I ?_⟩
  refine (tG.bind (T := RRel) h).mono fun x H1 q => ?_
  obtain ⟨L, s0, s, r1, e1, rfl, R0, A, h1, P⟩ := q
  split at P
  · rename_i z e2
    have c := peek_con A.rel h1 e2
    have c : x = .str z := c
    subst c
    exact ⟨z, rfl, P.fin A ⟨_, _, [], (by show Walk _ (z.cps.toList.map signP).length _ _; rw [List.length_map, Array.length_toList]; exact walk_str), fun _ _ => trivial, (fun a h => nomatch h), (fun h hm => nomatch hm), yok_str⟩⟩
  · exact P.elim
end
/-! ### join -/
def joinF : PV → List PV → Option RV
  | .str a, [q] => (seqOf q).bind fun xs => (toStrs xs).bind fun ys => @ite _ ((ys.map (·.length)).sum + ys.length * a.length ≤ 16777216) (Classical.propDecidable _) (some (.val (.str (Txt.join a ys)))) none
  | _, _ => none
def rJoin (K : PySem.W.Frag) : V → List V → Hp → VK → Prop := fun x xs H Q => ∃ a p, ∃ ys : List Str, x = .str a ∧ xs = [.ref p] ∧ (SqL K H p (ys.map V.str) ∨ SqT K H p (ys.map V.str)) ∧ (ys.map (·.length)).sum + ys.length * a.length ≤ 16777216 ∧ Q (.str (Txt.join a ys)) H
theorem mt_joinB {X : Cx} : MtR X "str.join" (rJoin X.K) := mt_join
theorem ok_join {B : BC} : OkSee B (rJoin B.K) joinF := by
  intro L s p ps x xs z Q R cp cs e k
  cases p with
  | str a =>
    match ps, cs, e with
    | [q], cs, e =>
      obtain ⟨y, rfl, cq⟩ := cs.one
      obtain ⟨ys, e1, e⟩ := Option.bind_eq_some_iff.mp e
      obtain ⟨ns, e2, e⟩ := Option.bind_eq_some_iff.mp e
      split at e
      · rename_i hz
        cases e
        obtain ⟨b, vs, rfl, h, r⟩ := con_seq cq e1
        rw [toStrs_reps r e2] at h
        cases (show x = .str a from cp)
        exact ⟨a, b, ns, rfl, rfl, h, hz, k s.w _ (.refl R) rfl⟩
      · cases e
    | [], _, e => cases e
    | _ :: _ :: _, _, e => cases e
  | _ => cases e
end
end BL
/-! B: comprehensions of dicts with int and text keys. -/
namespace BL
noncomputable section
open PySem PySem.Spec PyProof.Rows L2
def compDM (vs : List Nat) (tg : PV → M Unit) (tt : M Bool) (tk tv : M RV) : List PV → PV → M PV
  | [], acc => M.pure acc
  | p :: ps, acc => fun r => match tg p r with
    | .ok _ r1 => (match tt r1 with
      | .ok true r2 => (match tk r2 with
        | .ok (.val q) r3 => (match tv r3 with
          | .ok (.val y) r4 => if plainSl vs r4 = true then (match setDF acc q y with
            | some acc' => compDM vs tg tt tk tv ps acc' (wipeE vs r4)
            | none => .no) else .no
          | _ => .no)
        | _ => .no)
      | .ok false r2 => if plainSl vs r2 = true then compDM vs tg tt tk tv ps acc (wipeE vs r2) else .no
      | _ => .no)
    | _ => .no
def mDc (it : M ItD) (vs : List Nat) (tg : PV → M Unit) (tt : M Bool) (tk tv : M RV) : M RV := it.bind fun d => fun r =>
  if plainSl vs (lockE d.lk r) = true then (match compDM vs tg tt tk tv d.items (.dic [] []) (wipeE vs (lockE d.lk r)) with
    | .ok acc r' => .ok (.fresh acc) (unlE d.lk (restE vs (lockE d.lk r) r'))
    | _ => .no)
  else .no
section
variable {J : It} {n : Nat} {G : Hp → Prop} {Y : Nat → Hp → V → Hp → Prop}
theorem dc_it (w : Walk J n G Y) {g : TG} {tt : TT} {tk tv : TE} {vs : List Nat} {σ : L2.St} {H1 : Hp} {D : Addr} {Qd : Hp → Prop} (Pv : Nat → Hp → Prop) (h0 : Pv 0 (upd H1 D (.dK []))) (hG : ∀ i H, i ≤ n → Pv i H → G H)
    (hs : ∀ i x H H', i < n → Pv i H → Y i H x H' → g x (wipe σ vs) H' fun σ2 H2 => wipe σ2 vs = wipe σ vs ∧ tt σ2 H2 fun b H3 =>
      if b = true then tk σ2 H3 fun y H4 => tv σ2 H4 fun z H5 => ∃ kvs k, y = kV k ∧ H5 D = some (.dK kvs) ∧ kvs.length < sizeLine ∧ Pv (i + 1) (upd H5 D (.dK (putK kvs k z))) else Pv (i + 1) H3) (hd : ∀ H, Pv n H → Qd H) :
    ∃ W : Nat → Nat → Hp → Prop, (∃ m, W 0 m (upd H1 D (.dK []))) ∧ ∀ i m H, W i m H →
      (J.stop i H ∧ Qd H) ∨ (J.go i H ∧ ∃ Nx : Hp → Prop, (∀ H', Nx H' → ∃ m', m' < m ∧ W (i + 1) m' H') ∧ ∀ x H', J.yld i H x H' → g x (wipe σ vs) H' fun σ2 H2 => wipe σ2 vs = wipe σ vs ∧ tt σ2 H2 fun b H3 =>
        if b = true then tk σ2 H3 fun y H4 => tv σ2 H4 fun z H5 => ∃ kvs k, y = kV k ∧ H5 D = some (.dK kvs) ∧ kvs.length < sizeLine ∧ Nx (upd H5 D (.dK (putK kvs k z))) else Nx H3) := by
  refine ⟨fun i m H => m = n - i ∧ i ≤ n ∧ Pv i H, ⟨n, rfl, Nat.zero_le _, h0⟩, fun i m H hw => ?_⟩
  obtain ⟨rfl, hi, p⟩ := hw
  have gh := hG i H hi p
  rcases Nat.lt_or_ge i n with hlt | hge
  · exact .inr ⟨w.goes i H hlt gh, Pv (i + 1), fun H' p' => ⟨n - (i + 1), by omega, rfl, hlt, p'⟩, fun x H' y => hs i x H H' hlt p (w.yields i H x H' hlt gh y)⟩
  · have e : i = n := by omega
    subst e
    exact .inl ⟨w.stops H gh, hd H p⟩
end
section
variable {B : BC} {W : WX} {L : List Addr} {s0 s : BS} {g : TG} {mt : PV → M Unit} {tt : M Bool} {tk tv : M RV} {vs : List Nat}
theorem setDF_key {acc q y p : PV} (h : setDF acc q y = some p) : ∃ ks xs k, acc = .dic ks xs ∧ keyP q = some k := by
  unfold setDF at h
  split at h
  · obtain ⟨k, e, _⟩ := Option.bind_eq_some_iff.mp h
    exact ⟨_, _, k, rfl, e⟩
  · cases h
/-- one turn -/
theorem compD_turn {a : Addr} {acc : PV} {rest : List PV} {p : PV} {v : V} {r' : Env} {res : PV} {Pn : Hp → Prop} (ok : OkGw B vs g mt) (x : Ex B L s0 s) (hw : wipe s.s vs = s.s) (h : Rep B.K s.w p v) (hD : RRel B L s0 s (.fresh acc) (.ref a))
    (e : compDM vs mt tt tk tv (p :: rest) acc s.r = .ok res r')
    (k : ∀ s3 acc', Ex B L s0 s3 → s3.s = s.s → RRel B L s0 s3 (.fresh acc') (.ref a) → compDM vs mt tt tk tv rest acc' s3.r = .ok res r' → Pn s3.w.H) :
    g v s.s s.w.H fun σ2 H2 => wipe σ2 vs = s.s ∧ tT B WF tt σ2 H2 fun b H3 => if b = true then tB B WF tk σ2 H3 fun y H4 => tB B WF tv σ2 H4 fun z H5 => ∃ kvs k, y = kV k ∧ H5 a = some (.dK kvs) ∧ kvs.length < sizeLine ∧ Pn (upd H5 a (.dK (putK kvs k z))) else Pn H3 := by
  refine ok L s s p v _ x.rel (Ex.refl x.rel) h ?_
  unfold compDM at e
  cases e1 : mt p s.r with
  | exc c r1 => rw [e1] at e; cases e
  | no => rw [e1] at e; cases e
  | ok u r1 =>
    rw [e1] at e
    dsimp only at e ⊢
    intro σ2 w1 x1 hσ
    rw [hw] at hσ
    refine ⟨hσ, L, ⟨r1, σ2, w1⟩, rfl, rfl, x1.rel, ?_⟩
    dsimp only
    cases e2 : tt r1 with
    | exc c r2 => rw [e2] at e; cases e
    | no => rw [e2] at e; cases e
    | ok b r2 =>
      rw [e2] at e
      intro w2 b' x2 hb
      cases (show b = b' from hb)
      cases b with
      | false =>
        dsimp only at e
        rw [if_neg Bool.false_ne_true]
        split at e
        · exact k (wipeS vs ⟨r2, σ2, w2⟩) acc (wipe_ex (x.trans (x1.trans x2))) hσ (wipe_fresh (keep_fresh (x1.trans x2) x.rel hD)) e
        · cases e
      | true =>
        dsimp only at e
        rw [if_pos rfl]
        refine ⟨L, ⟨r2, σ2, w2⟩, rfl, rfl, x2.rel, ?_⟩
        dsimp only
        cases e3 : tk r2 with
        | exc c r3 => rw [e3] at e; cases e
        | no => rw [e3] at e; cases e
        | ok zq r3 =>
          rw [e3] at e
          cases zq with
          | fresh q => cases e
          | slot q => cases e
          | loan q => cases e
          | val q =>
            dsimp only at e
            intro w3 qv x3 hq
            have hq : Rep B.K w3 q qv := hq
            refine ⟨L, ⟨r3, σ2, w3⟩, rfl, rfl, x3.rel, ?_⟩
            dsimp only
            cases e4 : tv r3 with
            | exc c r4 => rw [e4] at e; cases e
            | no => rw [e4] at e; cases e
            | ok zy r4 =>
              rw [e4] at e
              cases zy with
              | fresh y => cases e
              | slot y => cases e
              | loan y => cases e
              | val y =>
                dsimp only at e
                intro w4 yv x4 hy
                have hy : Rep B.K w4 y yv := hy
                split at e
                · cases e5 : setDF acc q y with
                  | none => rw [e5] at e; cases e
                  | some acc' =>
                    rw [e5] at e
                    dsimp only at e
                    have xx := x1.trans (x2.trans (x3.trans x4))
                    have x5 := x.trans xx
                    have hD5 := keep_fresh xx x.rel hD
                    obtain ⟨b, eb, o5, nh, zz⟩ := id hD5
                    cases eb
                    have hq4 : Rep B.K w4 q qv := x4.rep x3.rel hq
                    obtain ⟨ks, xs, kk, ea, ek⟩ := setDF_key e5
                    have eqv : qv = kV kk := key_kV (Con.of_rep hq4) ek
                    have core := core_setDic (B := B) w4 a acc q y acc' qv yv (fun H' => Pn H') (Con.of_orep o5) (Con.of_rep hq4) hy e5 fun o hN => by
                      obtain ⟨x6, hD6⟩ := mut_fresh (s := ⟨r4, σ2, w4⟩) x5 hD5 hN
                      exact k (wipeS vs ⟨r4, σ2, mutW w4 a o⟩) acc' (wipe_ex x6) hσ (wipe_fresh hD6) e
                    obtain ⟨a', H', ea', hput, hp⟩ := core
                    cases ea'
                    rcases hput with ⟨kvs, k2, h1, h2, h3, h4⟩ | ⟨kvs, k2, b2, h1, h2, _⟩
                    · subst h4
                      exact ⟨kvs, k2, h2, h1, h3, hp⟩
                    · rw [eqv] at h2
                      cases kk <;> cases h2
                · cases e
/-- the whole comprehension -/
theorem dc_ok {σ : L2.St} {H : Hp} {mi : M ItD} {Q : VK} (ok : OkGw B vs g mt) (h : tB B W (mDc mi vs mt tt tk tv) σ H Q) : tDc (tG RIt B W mi) g (tT B WF tt) (tB B WF tk) (tB B WF tv) vs σ H Q := by
  refine (tG.bind (T := RIt) h).mono fun J H1 q => ?_
  obtain ⟨L, s0, s, d, rfl, rfl, R0, A, ⟨G, Y, as, wk, hG, hsafe, hlive, yok⟩, P⟩ := q
  intro D hn
  have RL : Rel B L ⟨lockE d.lk s.r, s.s, s.w⟩ := lock_rel A.rel
  have RW := wipe_rel (vs := vs) RL
  have AD := RW.alloc hn (o := .dK [])
  have hD0 : RRel B L (wipeS vs ⟨lockE d.lk s.r, s.s, s.w⟩) ⟨wipeE vs (lockE d.lk s.r), wipe s.s vs, ⟨upd s.w.H D (.dK []), s.w.F, s.w.O⟩⟩ (.fresh (.dic [] [])) (.ref D) := RW.newDict hn
  split at P
  case isFalse => exact P.elim
  rename_i hpl
  cases eM : compDM vs mt tt tk tv d.items (.dic [] []) (wipeE vs (lockE d.lk s.r)) with
  | exc c r' => rw [eM] at P; exact P.elim
  | no => rw [eM] at P; exact P.elim
  | ok res r' =>
    rw [eM] at P
    dsimp only at P
    refine dc_it wk (fun i H => ∃ s2 acc, s2.w.H = H ∧ Ex B L (wipeS vs ⟨lockE d.lk s.r, s.s, s.w⟩) s2 ∧ s2.s = wipe s.s vs ∧ RRel B L (wipeS vs ⟨lockE d.lk s.r, s.s, s.w⟩) s2 (.fresh acc) (.ref D) ∧ compDM vs mt tt tk tv (d.items.drop i) acc s2.r = .ok res r') ⟨_, _, rfl, AD.x, rfl, hD0, eM⟩ ?_ ?_ ?_
    · rintro i H _ ⟨s2, acc, rfl, x, _, _, _⟩
      refine hG _ fun a ha => ?_
      obtain ⟨⟨o, e⟩, safe⟩ := hsafe a ha
      rw [e]
      refine x.st.keep a o e fun z => ?_
      rcases z with ⟨h, l, e2⟩ | z
      · have e3 : adr L s h = some a := (same_lock d.lk s.r).adr (wipe_adr e2)
        obtain ⟨l1, n1⟩ := live_lock (wipe_live l)
        rcases safe with n | ⟨y, hm, ey⟩
        · exact n (.inl ⟨h, l1, e3⟩)
        · have := A.rel.inj y h a ey e3
          subst this
          exact n1 hm
      · rcases safe with n | ⟨y, hm, ey⟩
        · exact n (.inr z)
        · obtain ⟨q, o'⟩ := held_orep A.rel ey
          exact o'.2.1 z
    · rintro i v H H' hi ⟨s2, acc, rfl, x, es, hD, eC⟩ hy
      have ei : d.items[i]? = some d.items[i] := List.getElem?_eq_getElem hi
      rw [List.drop_eq_getElem_cons hi] at eC
      obtain ⟨w', rfl, A2, hr⟩ := yok L s2 i _ v H' x.rel (fun q u h => (x.rep RW h)) ei hy
      have T := compD_turn (B := B) (L := L) (s := ⟨s2.r, s2.s, w'⟩) (a := D) (Pn := fun H => ∃ s2 acc, s2.w.H = H ∧ Ex B L (wipeS vs ⟨lockE d.lk s.r, s.s, s.w⟩) s2 ∧ s2.s = wipe s.s vs ∧ RRel B L (wipeS vs ⟨lockE d.lk s.r, s.s, s.w⟩) s2 (.fresh acc) (.ref D) ∧ compDM vs mt tt tk tv (d.items.drop (i + 1)) acc s2.r = .ok res r')
        ok (x.trans A2.x) (by show wipe s2.s vs = s2.s; rw [es, wipe_idem]) hr (keep_fresh A2.x x.rel hD) eC fun s3 acc' x3 e3 hD3 eC3 => ⟨s3, acc', rfl, x3, e3.trans es, hD3, eC3⟩
      have T : g v s2.s w'.H _ := T
      rw [es] at T
      exact T
    · rintro H ⟨s2, acc, rfl, x, es, hD, eC⟩
      rw [List.drop_of_length_le (Nat.le_refl _)] at eC
      cases eC
      have x1 := rest_ex RL hpl x es
      have x2 := unl_ex hlive A.x x1
      refine P.fin (s := ⟨unlE d.lk (restE vs (lockE d.lk s.r) s2.r), s.s, s2.w⟩) ⟨x2, A.e⟩ ?_
      refine unl_rr (s2 := ⟨restE vs (lockE d.lk s.r) s2.r, s.s, s2.w⟩) ?_
      obtain ⟨b, eb, o, n, z⟩ := hD
      exact ⟨b, eb, o, fun ⟨y, hy⟩ => n ⟨y, rest_adr (s := ⟨lockE d.lk s.r, s.s, s.w⟩) hpl es hy⟩, A.x.none z⟩
end
section
variable {X : Cx} {B : BC} {W : WX} {tg iter kx vx c : Expr} {g : TG} {mi : M ItD} {mt : PV → M Unit} {tt : M Bool} {tk tv : M RV} {scope : Scope} {own : List (Str × Nat)} {pos spos : Pos} {ifs : List Expr}
theorem be_dc (hc : X.calm = true) (hN : X.N.Nodup) (hi : PI X tg iter (tG RIt B W mi)) (ok : BlkOk X.N X.env.scope scope own) {vs : List Nat} (hvs : own.map (·.2) = vs) (og : OkGw B vs g mt)
    (hg : ∀ (s : Shared) (H : Hp) (C : Addr) (cl : List (Str × Addr)) (fp : List Addr), PG (X.blk s H scope (compEnvC scope cl C X.env) fp) tg g) (ht : ∀ (s : Shared) (H : Hp) (C : Addr) (cl : List (Str × Addr)) (fp : List Addr), PTs (X.blk s H scope (compEnvC scope cl C X.env) fp) ifs (tT B WF tt))
    (hk : ∀ (s : Shared) (H : Hp) (C : Addr) (cl : List (Str × Addr)) (fp : List Addr), PE (X.blk s H scope (compEnvC scope cl C X.env) fp) kx (tB B WF tk))
    (he : ∀ (s : Shared) (H : Hp) (C : Addr) (cl : List (Str × Addr)) (fp : List Addr), PE (X.blk s H scope (compEnvC scope cl C X.env) fp) vx (tB B WF tv)) (hs : ∀ x, foldedSetIterable iter X.env x = pure x := by intro _; rfl) :
    PE X (.DictComp kx vx [⟨tg, iter, ifs, 0⟩] scope pos) (tB B W (mDc mi vs mt tt tk tv)) :=
  (pe_dc hc hN hi ok hg ht hk he hs).imp fun σ H Q h => by rw [hvs]; exact dc_ok og h
end
end
end BL
/-! B: dict(pairs), the keys different tuples. -/
namespace BL
noncomputable section
open PySem PySem.Spec PyProof.Rows L2
def rDictPT (K : PySem.W.Frag) : List V → Hp → VK → Prop := fun xs H Q => ∃ (a : Addr) (vs : List V) (kvs : List (List Key × V)), xs = [.ref a] ∧ SqL K H a vs ∧ vs.length = kvs.length ∧
  (∀ (i : Nat) v kv, vs[i]? = some v → kvs[i]? = some kv → ∃ p b : Addr, v = .ref p ∧ SqT K H p [.ref b, kv.2] ∧ H b = some (.tup (kv.1.map kV))) ∧ (kvs.map (·.1)).Nodup ∧ ∀ p, H p = none → Q (.ref p) (upd H p (.dT kvs))
theorem stored_all {K : Type} [DecidableEq K] : ∀ (ps acc : List (K × Addr × Value)), ((acc ++ ps).map (·.1)).Nodup → storedAllH acc ps = acc ++ ps
  | [], acc, _ => by rw [List.append_nil]; rfl
  | p :: ps, acc, h => by
    have hn : atKey acc p.1 = none := by
      unfold atKey
      rw [Option.map_eq_none_iff, List.find?_eq_none]
      intro x hx
      have hx : x ∈ acc := hx
      rw [List.map_append, List.nodup_append] at h
      have := h.2.2 x.1 (List.mem_map.mpr ⟨x, hx, rfl⟩) p.1 (List.mem_map.mpr ⟨p, List.mem_cons_self .., rfl⟩)
      simpa using this
    show storedAllH (storedH acc p.1 p.2.1 p.2.2) ps = _
    rw [storedH_new hn, stored_all ps _ (by rw [List.append_assoc]; exact h), List.append_assoc]
    rfl
section
variable {X : Cx}
theorem cr_dictPT (hc : X.calm = true) (hu : X.A.units + 3 < cLine) : CallR X (.type "dict") (rDictPT X.K) := by
  intro pins s σ H xs us Q I r h
  obtain ⟨a, vs, kvs, rfl, hs, hl, hx, hnd, q⟩ := h
  obtain ⟨u, rfl, ru⟩ := vals1 r
  obtain rfl : u = Value.ref a := ru
  obtain ⟨its, rv, ⟨o, n, ho, hc0, hd0, hdat⟩, hz⟩ := I.list hs
  have hll : vs.length = its.length := rv.length
  have at1 : ∀ i, i < kvs.length → ∃ (p b : Addr) (y : Value), its[i]? = some (.ref p) ∧ IsTup s.heap p #[.ref b, y] ∧ (∃ kv, kvs[i]? = some kv ∧ RelV kv.2 y ∧ H b = some (.tup (kv.1.map kV))) := by
    intro i hi
    have h1 : vs[i]? = some (vs[i]'(by omega)) := List.getElem?_eq_getElem _
    have h2 : kvs[i]? = some kvs[i] := List.getElem?_eq_getElem hi
    obtain ⟨p, b, e1, e2, e3⟩ := hx i _ _ h1 h2
    obtain ⟨u, e4, r4⟩ := rv.get h1
    rw [e1] at r4
    obtain rfl : u = Value.ref p := r4
    obtain ⟨ws, rw2, ht, _⟩ := I.tuple e2
    obtain ⟨u1, u2, rfl, r5, r6⟩ := vals2 rw2
    obtain rfl : u1 = Value.ref b := r5
    exact ⟨p, b, u2, e4, ht, _, h2, r6, e3⟩
  obtain ⟨F, hF⟩ : ∃ F : Nat → Addr × Addr × Value, ∀ i, i < kvs.length → its[i]? = some (.ref (F i).1) ∧ IsTup s.heap (F i).1 #[.ref (F i).2.1, (F i).2.2] ∧ (∃ kv, kvs[i]? = some kv ∧ RelV kv.2 (F i).2.2 ∧ H (F i).2.1 = some (.tup (kv.1.map kV))) := by
    refine ⟨fun i => Classical.epsilon fun t : Addr × Addr × Value => its[i]? = some (.ref t.1) ∧ IsTup s.heap t.1 #[.ref t.2.1, t.2.2] ∧ (∃ kv, kvs[i]? = some kv ∧ RelV kv.2 t.2.2 ∧ H t.2.1 = some (.tup (kv.1.map kV))), fun i hi => ?_⟩
    obtain ⟨p, b, y, h1, h2, h3⟩ := at1 i hi
    exact Classical.epsilon_spec (p := fun t : Addr × Addr × Value => its[i]? = some (.ref t.1) ∧ IsTup s.heap t.1 #[.ref t.2.1, t.2.2] ∧ (∃ kv, kvs[i]? = some kv ∧ RelV kv.2 t.2.2 ∧ H t.2.1 = some (.tup (kv.1.map kV)))) ⟨(p, b, y), h1, h2, h3⟩
  obtain ⟨ps, hps⟩ : ∃ ps : List (List Key × Addr × Value), ps = (List.range kvs.length).map fun i => (((kvs[i]?).map (·.1)).getD [], (F i).2.1, (F i).2.2) := ⟨_, rfl⟩
  obtain ⟨prs, hprs⟩ : ∃ prs : List (Value × Value), prs = (List.range kvs.length).map fun i => (.ref (F i).2.1, (F i).2.2) := ⟨_, rfl⟩
  have psl : ps.length = kvs.length := by simp [hps]
  have prl : prs.length = kvs.length := by simp [hprs]
  have psg : ∀ i, i < kvs.length → ps[i]? = some (((kvs[i]?).map (·.1)).getD [], (F i).2.1, (F i).2.2) := fun i hi => by simp [hps, hi]
  have keys : ps.map (·.1) = kvs.map (·.1) := by
    refine List.ext_getElem? fun i => ?_
    rw [List.getElem?_map, List.getElem?_map]
    rcases Nat.lt_or_ge i kvs.length with hi | hi
    · rw [psg i hi, List.getElem?_eq_getElem hi]
      rfl
    · rw [List.getElem?_eq_none (by omega), List.getElem?_eq_none hi]
      rfl
  have hpi : PairItems s.heap its.toArray (fun i => (F i).1) prs := by
    refine ⟨by rw [List.size_toArray, prl]; omega, fun j k v hj => ?_⟩
    have hjl : j < kvs.length := by rw [← prl]; exact (List.getElem?_eq_some_iff.mp hj).1
    have e : (Value.ref (F j).2.1, (F j).2.2) = (k, v) := by simpa [hprs, hjl] using hj
    cases e
    obtain ⟨h1, h2, _⟩ := hF j hjl
    exact ⟨by simpa using h1, .inl h2⟩
  refine call_dict_pairsH (knd := tupleKind (mixKind X.prog X.w)) (ps := ps) (PairArg.list a its.toArray (fun i => (F i).1) prs) (I.ok.hd hc) (tupleKind_room_in1 (A := X.A.in1) (by show X.A.units + 1 + 1 < cLine; omega)) ⟨⟨o, n, ho, hc0, hd0, hdat⟩, hpi⟩ ⟨by rw [psl, prl], fun i key v hr => ?_⟩ (fun h' hk x hm => ?_) (by rw [prl]; omega) fun h' tk hd' hk => ?_
  · have hil : i < kvs.length := by rw [← prl]; exact (List.getElem?_eq_some_iff.mp hr).1
    have e : (Value.ref (F i).2.1, (F i).2.2) = (key, v) := by
      have hr : prs[i]? = some (key, v) := hr
      simpa [hprs, hil] using hr
    cases e
    exact ⟨_, _, psg i hil, rfl⟩
  · obtain ⟨i, hi, rfl⟩ := List.mem_iff_getElem.mp hm
    rw [psl] at hi
    have e := psg i hi
    rw [List.getElem?_eq_getElem (by rw [psl]; exact hi)] at e
    rw [Option.some.inj e]
    obtain ⟨_, _, kv, h1, h2, h3⟩ := hF i hi
    rw [h1]
    obtain ⟨o1, it1, n1, g1, g2, g3, g4⟩ := key_of I.hok h3
    exact ⟨o1, it1, n1, hk _ _ (Nat.ne_of_lt (Heap.lt_size g1)) List.not_mem_nil g1, g2, g3, g4⟩
  · rw [stored_all ps [] (by rw [List.nil_append, keys]; exact hnd), List.nil_append] at hd'
    obtain ⟨od, es, ep, g1, g2, g3, g4, _, g6⟩ := hd'
    have hm : (s.heap.objs.size == sysModules) = false := beq_eq_false_iff_ne.mpr (Nat.ne_of_gt I.big)
    refine ⟨.ref s.heap.objs.size, upd H s.heap.objs.size (.dT kvs), I.laid (t' := tk) (fun b o e => hk b o List.not_mem_nil e) (Nat.le_refl _) ⟨by omega, hm, ps, ?_, od, es, ep, g1, g2, g3, g4, g6⟩, rfl, q _ (I.hok.fresh (Nat.le_refl _))⟩
    have fresh : H s.heap.objs.size = none := I.hok.fresh (Nat.le_refl _)
    have gen : ∀ (l : List (List Key × V)) (m : List (List Key × Addr × Value)), l.length = m.length → (∀ (i : Nat) (p : List Key × V) (q : List Key × Addr × Value), l[i]? = some p → m[i]? = some q → p.1 = q.1 ∧ (upd H s.heap.objs.size (.dT kvs)) q.2.1 = some (.tup (p.1.map kV)) ∧ RelV p.2 q.2.2) →
        Paired (fun (p : List Key × V) (q : List Key × Addr × Value) => p.1 = q.1 ∧ (upd H s.heap.objs.size (.dT kvs)) q.2.1 = some (.tup (p.1.map kV)) ∧ RelV p.2 q.2.2) l m := by
      intro l
      induction l with
      | nil =>
        intro m hm _
        cases m with
        | nil => exact .nil
        | cons _ _ => cases hm
      | cons p l ih =>
        intro m hm h
        cases m with
        | nil => cases hm
        | cons q m => exact .cons (h 0 p q rfl rfl) (ih m (Nat.succ.inj hm) fun i p q h1 h2 => h (i + 1) p q (by simpa using h1) (by simpa using h2))
    refine gen kvs ps psl.symm fun i p q' h1 h2 => ?_
    have hi := (List.getElem?_eq_some_iff.mp h1).1
    rw [psg i hi] at h2
    cases h2
    obtain ⟨_, _, kv, e1, e2, e3⟩ := hF i hi
    rw [h1] at e1
    cases e1
    rw [h1]
    refine ⟨rfl, ?_, e2⟩
    rw [upd_ne (fun z => by rw [z, fresh] at e3; cases e3)]
    exact e3
end
def toPT : PV → Option (List Key × PV × PV)
  | .tup [q, y] => (keyT q).bind fun k => @ite _ (atP y = true) (Classical.propDecidable _) (some (k, q, y)) none
  | _ => none
def toPTs : List PV → Option (List (List Key × PV × PV))
  | [] => some []
  | x :: r => (toPT x).bind fun p => (toPTs r).map (p :: ·)
def dictPF : List PV → Option RV
  | [.lst xs] => (toPTs xs).bind fun ts => @ite _ ((ts.map (·.1)).Nodup ∧ ts ≠ []) (Classical.propDecidable _) (some (.fresh (.dic (ts.map (·.2.1)) (ts.map (·.2.2))))) none
  | _ => none
theorem keyP_all {K : PySem.W.Frag} {w : Wd} : ∀ {ks : List PV} {us : List V} {kk : List Key}, Reps K w ks us → ks.mapM keyP = some kk → us = kk.map kV
  | [], us, kk, h, e => by
    cases (show us = [] from h)
    cases e
    rfl
  | q :: ks, us, kk, h, e => by
    obtain ⟨v, r, rfl, h1, h2⟩ := h
    rw [List.mapM_cons] at e
    cases e1 : keyP q with
    | none => rw [e1] at e; cases e
    | some k =>
      rw [e1] at e
      cases e2 : ks.mapM keyP with
      | none => rw [e2] at e; cases e
      | some kk' =>
        rw [e2] at e
        cases e
        rw [key_kV (Con.of_rep h1) e1, keyP_all h2 e2]
        rfl
theorem keyT_rep {K : PySem.W.Frag} {w : Wd} {q : PV} {v : V} {k : List Key} (h : Rep K w q v) (e : keyT q = some k) : ∃ b, v = .ref b ∧ w.H b = some (.tup (k.map kV)) := by
  cases q with
  | tup xs =>
    obtain ⟨b, us, rfl, h1, r⟩ := h
    rw [keyP_all r e] at h1
    exact ⟨b, rfl, h1⟩
  | _ => cases e
theorem toPTs_reps {K : PySem.W.Frag} {w : Wd} : ∀ {xs : List PV} {vs : List V} {ts : List (List Key × PV × PV)}, Reps K w xs vs → toPTs xs = some ts →
    ∃ us : List V, Reps K w (ts.map (·.2.2)) us ∧ vs.length = us.length ∧ us.length = ts.length ∧ (ts.map (·.2.1)).map keyT = (ts.map (·.1)).map some ∧ ∀ (i : Nat) v kv, vs[i]? = some v → ((ts.map (·.1)).zip us)[i]? = some kv → ∃ p b : Addr, v = .ref p ∧ w.H p = some (.tup [.ref b, kv.2]) ∧ w.H b = some (.tup (kv.1.map kV))
  | [], vs, ts, h, e => by
    cases e
    cases (show vs = [] from h)
    exact ⟨[], rfl, rfl, rfl, rfl, fun i v kv h => by simp at h⟩
  | x :: xs, vs, ts, h, e => by
    obtain ⟨v, r, rfl, h1, h2⟩ := h
    unfold toPTs at e
    obtain ⟨t, e1, e⟩ := Option.bind_eq_some_iff.mp e
    obtain ⟨ts', e2, e⟩ := Option.map_eq_some_iff.mp e
    subst e
    obtain ⟨us, i1, i2, i3, i4, i5⟩ := toPTs_reps h2 e2
    unfold toPT at e1
    split at e1
    · rename_i q y
      obtain ⟨k, e3, e1⟩ := Option.bind_eq_some_iff.mp e1
      split at e1
      · cases e1
        obtain ⟨p, ws, rfl, h3, u1, r1, rfl, rq, u2, r2, rfl, ry, hn⟩ := h1
        cases (show r2 = [] from hn)
        obtain ⟨b, rfl, hb⟩ := keyT_rep rq e3
        refine ⟨u2 :: us, .cons ry i1, by rw [List.length_cons, List.length_cons, i2], by rw [List.length_cons, List.length_cons, i3], by rw [List.map_cons, List.map_cons, List.map_cons, List.map_cons, i4, e3], fun i v kv g1 g2 => ?_⟩
        cases i with
        | zero =>
          cases g1
          cases g2
          exact ⟨p, b, rfl, h3, hb⟩
        | succ i => exact i5 i v kv (by simpa using g1) (by simpa using g2)
      · cases e1
    · cases e1
theorem ok_dictPT {B : BC} : OkRs B (rDictPT B.K) dictPF := by
  intro L s ps xs z Q R cp e k
  match ps, cp, e with
  | [.lst ys], cp, e =>
    obtain ⟨x, rfl, c1⟩ := cp.one
    obtain ⟨ts, e1, e⟩ := Option.bind_eq_some_iff.mp (show (toPTs ys).bind (fun ts => @ite _ ((ts.map (·.1)).Nodup ∧ ts ≠ []) (Classical.propDecidable _) (some (RV.fresh (.dic (ts.map (·.2.1)) (ts.map (·.2.2))))) none) = some z from e)
    split at e
    · rename_i hz
      cases e
      obtain ⟨a, vs, rfl, h, r⟩ := c1
      obtain ⟨us, i1, i2, i3, i4, i5⟩ := toPTs_reps r e1
      have hl2 : (ts.map (·.1)).length = us.length := by rw [List.length_map, i3]
      refine ⟨a, vs, (ts.map (·.1)).zip us, rfl, .inl (.inl h), by rw [List.length_zip, hl2, Nat.min_self, i2], fun i v kv g1 g2 => ?_, by rw [List.map_fst_zip (by omega)]; exact hz.1, fun p hn => ?_⟩
      · obtain ⟨p, b, j1, j2, j3⟩ := i5 i v kv g1 g2
        exact ⟨p, b, j1, .inl (.inl j2), j3⟩
      · refine k _ _ (R.alloc hn) ⟨p, rfl, ⟨R.notF hn, R.notO hn, .inr ⟨_, _, us, rfl, .inr ⟨ts.map (·.1), ⟨i4, fun z => hz.2 (List.map_eq_nil_iff.mp z)⟩, hl2, upd_same⟩, (R.alloc hn (o := .dT _)).x.reps R i1⟩⟩, R.notHeld hn, hn⟩
    · cases e
  | [], _, e => cases e
  | .non :: _, _, e | .bl _ :: _, _, e | .int _ :: _, _, e | .str _ :: _, _, e | .tup _ :: _, _, e | .dic _ _ :: _, _, e | .obj _ :: _, _, e | .exc _ :: _, _, e | .scr _ :: _, _, e => cases e
  | .lst _ :: _ :: _, _, e => cases e
theorem units3 {k : Nat} {A : Around} (hr : Room k A) : A.units + 3 < cLine := by have := hr.un; omega
end
end BL
/-! B: sorted(set(t)), t a tuple of ints. -/
namespace BL
noncomputable section
open PySem PySem.Spec PyProof.Rows L2
def insU (x : Int) : List Int → List Int
  | [] => [x]
  | y :: r => if x < y then x :: y :: r else if x = y then y :: r else y :: insU x r
def sortU : List Int → List Int
  | [] => []
  | x :: r => insU x (sortU r)
theorem insU_mem (x z : Int) : ∀ l, z ∈ insU x l ↔ z = x ∨ z ∈ l
  | [] => by simp [insU]
  | y :: r => by
    unfold insU
    split
    · simp
    · split
      · rename_i h1 h2
        subst h2
        simp
      · rw [List.mem_cons, insU_mem x z r, List.mem_cons]
        constructor
        · rintro (h | h | h)
          · exact .inr (.inl h)
          · exact .inl h
          · exact .inr (.inr h)
        · rintro (h | h | h)
          · exact .inr (.inl h)
          · exact .inl h
          · exact .inr (.inr h)
theorem sortU_mem (z : Int) : ∀ l, z ∈ sortU l ↔ z ∈ l
  | [] => .rfl
  | x :: r => by
    show z ∈ insU x (sortU r) ↔ _
    rw [insU_mem, sortU_mem z r, List.mem_cons]
theorem insU_lt (x : Int) : ∀ {l : List Int}, l.Pairwise (· < ·) → (insU x l).Pairwise (· < ·)
  | [], _ => List.pairwise_singleton ..
  | y :: r, h => by
    obtain ⟨h1, h2⟩ := List.pairwise_cons.mp h
    unfold insU
    split
    · rename_i hx
      refine List.pairwise_cons.mpr ⟨fun z hz => ?_, h⟩
      rcases List.mem_cons.mp hz with e | hz
      · omega
      · have := h1 z hz
        omega
    · split
      · exact h
      · rename_i g1 g2
        refine List.pairwise_cons.mpr ⟨fun z hz => ?_, insU_lt x h2⟩
        rcases (insU_mem x z r).mp hz with e | hz
        · omega
        · exact h1 z hz
theorem sortU_lt : ∀ l, (sortU l).Pairwise (· < ·)
  | [] => .nil
  | x :: r => insU_lt x (sortU_lt r)
theorem lt_uniq : ∀ {l m : List Int}, l.Pairwise (· < ·) → m.Pairwise (· < ·) → (∀ k, k ∈ l ↔ k ∈ m) → l = m
  | [], [], _, _, _ => rfl
  | [], y :: m, _, _, h => by
    have := (h y).mpr (List.mem_cons_self ..)
    cases this
  | x :: l, [], _, _, h => by
    have := (h x).mp (List.mem_cons_self ..)
    cases this
  | x :: l, y :: m, hl, hm, h => by
    obtain ⟨a1, a2⟩ := List.pairwise_cons.mp hl
    obtain ⟨b1, b2⟩ := List.pairwise_cons.mp hm
    have e : x = y := by
      rcases List.mem_cons.mp ((h x).mp (List.mem_cons_self ..)) with e | hx
      · exact e
      · rcases List.mem_cons.mp ((h y).mpr (List.mem_cons_self ..)) with e | hy
        · exact e.symm
        · have := a1 y hy
          have := b1 x hx
          omega
    subst e
    rw [lt_uniq a2 b2 fun k => ?_]
    constructor
    · intro hk
      rcases List.mem_cons.mp ((h k).mp (List.mem_cons_of_mem _ hk)) with e | z
      · have := a1 k hk
        omega
      · exact z
    · intro hk
      rcases List.mem_cons.mp ((h k).mpr (List.mem_cons_of_mem _ hk)) with e | z
      · have := b1 k hk
        omega
      · exact z
section
variable {X : Cx}
def rSetT (w : World) (K : PySem.W.Frag) : List V → Hp → VK → Prop := fun vs H Q => ∃ (a : Addr) (ns : List Int), vs = [.ref a] ∧ SqT K H a (ns.map V.int) ∧ ns.length ≤ 1000 ∧
  ∀ (q : Addr) (c : Nat), H q = none → c ≤ ns.length → Q (.ref q) (upd H q (SetO w q (fun j => decide (j ∈ ns)) c))
theorem cr_setT (hc : X.calm = true) : CallR X (.type "set") (rSetT X.w X.K) := by
  intro pins s σ H vs us Q I r h
  obtain ⟨a, ns, rfl, hq, hl, q⟩ := h
  obtain ⟨u, rfl, ru⟩ := vals1 r
  obtain rfl : u = Value.ref a := ru
  obtain ⟨its, rv, pt, hz⟩ := I.tuple hq
  have hi : IntsAre its.toArray.toList ns := ints_of_vals rv
  refine call_set_tupI ns (I.ok.hd hc) (show s.heap.IsTuple a its.toArray from pt) hi (by unfold scanBound; omega) fun h' tk c R1 hcn k => ?_
  have hn : H s.heap.objs.size = none := I.hok.fresh (Nat.le_refl _)
  exact ⟨.ref _, upd H s.heap.objs.size (SetO X.w s.heap.objs.size (fun j => decide (j ∈ ns)) c), I.laid (t' := tk) k (Nat.le_refl _) (setO_new R1), rfl, q _ c hn hcn⟩
end
def uniqF : List PV → Option RV
  | [.tup xs] => (toInts xs).bind fun ns => @ite _ (ns.length < 64) (Classical.propDecidable _) (some (.fresh (.lst ((sortU ns).map .int)))) none
  | _ => none
theorem ok_uniq {w : World} {B : BC} : OkRs B (fun xs H Q => rSetT w B.K xs H fun v H1 => rSortedSet w [v] H1 Q) uniqF := by
  intro L s ps xs z Q R cp e k
  match ps, cp, e with
  | [.tup ys], cp, e =>
    obtain ⟨x, rfl, c1⟩ := cp.one
    obtain ⟨ns, e1, e⟩ := Option.bind_eq_some_iff.mp (show (toInts ys).bind (fun ns => @ite _ (ns.length < 64) (Classical.propDecidable _) (some (RV.fresh (.lst ((sortU ns).map .int)))) none) = some z from e)
    split at e
    · rename_i hz
      cases e
      obtain ⟨a, vs, rfl, h, r⟩ := c1
      rw [toInts_reps r e1] at h
      refine ⟨a, ns, rfl, .inl (.inl h), by omega, fun q c hn hc => ⟨q, _, c, rfl, upd_same, by omega, fun ms p h1 h2 h3 hp => ?_⟩⟩
      have A1 := R.alloc hn (o := SetO w q (fun j => decide (j ∈ ns)) c)
      rw [lt_uniq h1 (sortU_lt ns) fun k => by rw [h2, sortU_mem, decide_eq_true_eq]]
      have A2 := A1.rel.alloc (p := p) hp (o := .lst ((sortU ns).map V.int))
      refine k ⟨upd (upd s.w.H q (SetO w q (fun j => decide (j ∈ ns)) c)) p (.lst ((sortU ns).map V.int)), s.w.F, s.w.O⟩ _ (A1.trans A2) ?_
      exact (A1.rel.newList hp (reps_ints (sortU ns))).weak A1.x
    · cases e
  | [], _, e => cases e
  | .non :: _, _, e | .bl _ :: _, _, e | .int _ :: _, _, e | .str _ :: _, _, e | .lst _ :: _, _, e | .dic _ _ :: _, _, e | .obj _ :: _, _, e | .exc _ :: _, _, e | .scr _ :: _, _, e => cases e
  | .tup _ :: _ :: _, _, e => cases e
section
variable {X : Cx} {B : BC} {W : WX} {p p2 pos pos2 : Pos} {e : Expr} {ms : M (List RV)}
theorem be_uniq (hK : X.K = B.K) (hc : X.calm = true) (hg : Gl X "sorted") (hm : X.mg "sorted" = none) (hg2 : Gl X "set") (hm2 : X.mg "set" = none) (ha : PA X [e] (tA B W ms))
    (he : starEach [e] X.env = (false, eval e X.env) :: starEach [] X.env := by rfl) (hpl : (backTo pos2 (starEach [] X.env)).any (·.1) = false := by rfl)
    (he2 : starEach [.Call (.Name "set" p2) [e] [] pos2] X.env = (false, eval (.Call (.Name "set" p2) [e] [] pos2) X.env) :: starEach [] X.env := by rfl) (hpl2 : (backTo pos (starEach [] X.env)).any (·.1) = false := by rfl) :
    PE X (.Call (.Name "sorted" p) [.Call (.Name "set" p2) [e] [] pos2] [] pos) (tB B W (mBlt uniqF ms)) := by
  refine (pe_callB (cr_sortedSet hc) hg hm PyProof.Rows.boot_sorted (pa_cons (pe_callTy (cr_setT hc) hg2 hm2 PyProof.Rows.boot_set ha (by decide) (by decide) he hpl) pa_nil he2) (by decide) (by decide) he2 hpl2).imp fun σ H Q h => ?_
  refine (tG.bind (T := RRels) h).mono fun x H1 q => ?_
  obtain ⟨L, s0, s, r1, rfl, rfl, R0, A, h1, P⟩ := q
  have z := P.lookN (rr := fun xs H Q => rSetT X.w B.K xs H fun v H1 => rSortedSet X.w [v] H1 Q) ok_uniq A h1
  rw [hK]
  exact z
end
end
end BL
/-! B: dicts with tuples as keys: d[k], d[k] = v, k in d, d.get. -/
namespace BL
noncomputable section
open PySem PySem.Spec PyProof.Rows L2
/-! ### the empty dict is both -/
section
variable {X : Cx} {pins : List (Addr × Obj)} {σ : L2.St} {H : Hp} {s : Shared} {a : Addr}
theorem inv_T (I : Inv X pins σ H s) (e : H a = some (.dK [])) : Inv X pins σ (upd H a (.dT [])) s := by
  obtain ⟨_, hs, vs, kv, o, es, ep, h1, h2, h3, _, h4, _⟩ := (show ObjOk X.prog X.w H s.heap a (.dK []) from I.hok a _ e)
  cases kv
  have he : es.toList = [] := List.eq_nil_of_length_eq_zero (by simpa using h4.length)
  exact I.write (x := a) (e := a) (o := .dT []) (h' := s.heap) (t' := s.toks) (by rw [e]; trivial) (.inl rfl) (fun _ _ _ hu => hu) ⟨o, h1⟩ ⟨Nat.zero_le _, hs, [], .nil, o, es, ep, h1, h2, h3, he, List.nodup_nil⟩
theorem inv_K (I : Inv X pins σ (upd H a (.dT [])) s) (e : H a = some (.dK [])) : Inv X pins σ H s := by
  obtain ⟨_, hs, xs, pr, o, es, ep, h1, h2, h3, h4, _⟩ := (show ObjOk X.prog X.w (upd H a (.dT [])) s.heap a (.dT []) from I.hok a _ upd_same)
  cases pr
  have he : es = #[] := by
    have h4 : es.toList = [] := h4
    exact Array.toList_eq_nil_iff.mp h4
  subst he
  have J := I.write (x := a) (e := a) (o := .dK []) (h' := s.heap) (t' := s.toks) (by rw [upd_same]; trivial) (.inl rfl) (fun _ _ _ hu => hu) ⟨o, h1⟩ ⟨Nat.zero_le _, hs, [], .nil, o, #[], ep, h1, h2, h3, (fun i hi => absurd hi (by simp)), .nil, List.nodup_nil⟩
  rw [upd_upd] at J
  have eH : upd H a (.dK []) = H := by
    funext b
    by_cases h : b = a
    · subst h
      rw [upd_same, e]
    · rw [upd_ne h]
  rw [eH] at J
  exact J
end
/-! ### contents -/
def dfindT (k : List Key) : List PV → List PV → Option (Option PV)
  | [], [] => some none
  | q :: ks, x :: xs => (keyT q).bind fun k' => @ite _ (k' = k) (Classical.propDecidable _) (some (some x)) (dfindT k ks xs)
  | _, _ => none
def drepT (k : List Key) (y : PV) : List PV → List PV → List PV
  | q :: ks, x :: xs => (@ite _ (keyT q = some k) (Classical.propDecidable _) y x) :: drepT k y ks xs
  | _, _ => []
def drepTV (k : List Key) (y : V) : List (List Key) → List V → List V
  | q :: ks, x :: xs => (if q = k then y else x) :: drepTV k y ks xs
  | _, _ => []
theorem dfindT_ok {K : PySem.W.Frag} {w : Wd} {k : List Key} : ∀ {ks xs : List PV} {kk : List (List Key)} {vs : List V} {r : Option PV}, ks.map keyT = kk.map some → kk.length = vs.length → Reps K w xs vs → dfindT k ks xs = some r →
    (r = none ∧ valV (kk.zip vs) k = none) ∨ ∃ x v, r = some x ∧ valV (kk.zip vs) k = some v ∧ Rep K w x v
  | [], [], [], vs, r, _, _, h, e => by
    cases e
    exact .inl ⟨rfl, rfl⟩
  | [], x :: xs, _, _, _, _, _, _, e => by cases e
  | q :: ks, [], _, _, _, _, _, _, e => by cases e
  | q :: ks, x :: xs, [], _, _, hk, _, _, _ => by cases hk
  | [], [], k' :: kk, _, _, hk, _, _, _ => by cases hk
  | q :: ks, x :: xs, k' :: kk, vs, r, hk, hl, h, e => by
    obtain ⟨v, vr, rfl, h1, h2⟩ := h
    rw [List.map_cons, List.map_cons] at hk
    injection hk with e1 e2
    unfold dfindT at e
    rw [e1, Option.bind_some] at e
    split at e
    · rename_i hz
      cases e
      exact .inr ⟨x, v, rfl, by rw [List.zip_cons_cons]; exact valV_pos hz, h1⟩
    · rename_i hz
      rw [List.zip_cons_cons, valV_neg (p := (k', v)) hz]
      exact dfindT_ok e2 (Nat.succ.inj hl) h2 e
theorem drepT_ok {K : PySem.W.Frag} {w : Wd} {k : List Key} {y : PV} {u : V} (hy : Rep K w y u) : ∀ {ks xs : List PV} {kk : List (List Key)} {vs : List V}, ks.map keyT = kk.map some → kk.length = vs.length → Reps K w xs vs →
    Reps K w (drepT k y ks xs) (drepTV k u kk vs) ∧ (drepTV k u kk vs).length = vs.length ∧ kk.zip (drepTV k u kk vs) = (kk.zip vs).map fun kv => if kv.1 = k then (kv.1, u) else kv
  | [], xs, [], vs, _, hl, h => by
    have : vs = [] := List.eq_nil_of_length_eq_zero hl.symm
    subst this
    cases xs with
    | nil => exact ⟨rfl, rfl, rfl⟩
    | cons x xs => obtain ⟨v, r, e, _⟩ := h; cases e
  | [], _, _ :: _, _, hk, _, _ => by cases hk
  | _ :: _, _, [], _, hk, _, _ => by cases hk
  | q :: ks, xs, k' :: kk, vs, hk, hl, h => by
    cases vs with
    | nil => cases hl
    | cons v vr =>
      cases xs with
      | nil => cases (show v :: vr = [] from h)
      | cons x xs =>
        obtain ⟨v', vr', e, h1, h2⟩ := h
        cases e
        rw [List.map_cons, List.map_cons] at hk
        injection hk with e1 e2
        obtain ⟨i1, i2, i3⟩ := drepT_ok (ks := ks) (xs := xs) (kk := kk) (vs := vr) hy e2 (Nat.succ.inj hl) h2
        refine ⟨?_, ?_, ?_⟩
        · unfold drepT drepTV
          rw [e1]
          by_cases z : k' = k
          · rw [if_pos z, if_pos (by rw [z])]
            exact ⟨u, _, rfl, hy, i1⟩
          · rw [if_neg z, if_neg (fun z' => z (Option.some.inj z'))]
            exact ⟨v, _, rfl, h1, i1⟩
        · unfold drepTV
          rw [List.length_cons, List.length_cons, i2]
        · unfold drepTV
          rw [List.zip_cons_cons, List.zip_cons_cons, List.map_cons, i3]
          by_cases z : k' = k
          · rw [if_pos z, if_pos z]
          · rw [if_neg z, if_neg z]
theorem dfindT_keys {k : List Key} : ∀ {ks xs : List PV} {kk : List Key} {r : Option PV}, ks.map keyP = kk.map some → ks ≠ [] → dfindT k ks xs = some r → False
  | [], _, _, _, _, h, _ => h rfl
  | q :: ks, [], _, _, _, _, e => by cases e
  | q :: ks, x :: xs, [], _, hk, _, _ => by cases hk
  | q :: ks, x :: xs, k' :: kk, _, hk, _, e => by
    rw [List.map_cons, List.map_cons] at hk
    injection hk with e1 e2
    unfold dfindT at e
    obtain ⟨z, e3, _⟩ := Option.bind_eq_some_iff.mp e
    cases q with
    | tup ys => cases e1
    | _ => cases e3
/-- a dict with tuples as keys, or an empty one -/
def DicT (H : Hp) (a : Addr) (kvs : List (List Key × V)) : Prop := H a = some (.dT kvs) ∨ (kvs = [] ∧ H a = some (.dK []))
theorem con_dicT {K : PySem.W.Frag} {w : Wd} {ks xs : List PV} {x : V} {k : List Key} {r : Option PV} (h : Con K w (.dic ks xs) x) (e : dfindT k ks xs = some r) :
    ∃ (a : Addr) (kk : List (List Key)) (vs : List V), x = .ref a ∧ ks.map keyT = kk.map some ∧ kk.length = vs.length ∧ DicT w.H a (kk.zip vs) ∧ Reps K w xs vs := by
  obtain ⟨a, vs, rfl, hd, rr⟩ := h
  rcases hd with ⟨kk, e1, e2, hd⟩ | ⟨kk, e1, e2, hd⟩
  · cases ks with
    | nil =>
      have hk : kk = [] := by
        cases kk with
        | nil => rfl
        | cons _ _ => cases e1
      subst hk
      have hv : vs = [] := List.eq_nil_of_length_eq_zero e2.symm
      subst hv
      exact ⟨a, [], [], rfl, rfl, rfl, .inr ⟨rfl, hd⟩, rr⟩
    | cons q ks => exact (dfindT_keys e1 (List.cons_ne_nil _ _) e).elim
  · exact ⟨a, kk, vs, rfl, e1.1, e2, .inl hd, rr⟩
theorem key_tup {K : PySem.W.Frag} {w : Wd} {q : PV} {y : V} {k : List Key} (h : Con K w q y) (e : keyT q = some k) : ∃ b, y = .ref b ∧ w.H b = some (.tup (k.map kV)) := by
  cases q with
  | tup xs => exact keyT_rep h e
  | _ => cases e
def DGetT (H : Hp) (a : Addr) (y : V) (o : Option V) : Prop := ∃ (kvs : List (List Key × V)) (k : List Key) (b : Addr), DicT H a kvs ∧ y = .ref b ∧ H b = some (.tup (k.map kV)) ∧ o = valV kvs k
theorem dgetT_con {K : PySem.W.Frag} {w : Wd} {ks xs : List PV} {x y : V} {q : PV} {k : List Key} {r : Option PV} (h : Con K w (.dic ks xs) x) (hq : Con K w q y) (eq : keyT q = some k) (e : dfindT k ks xs = some r) :
    ∃ (a : Addr) (o : Option V), x = .ref a ∧ DGetT w.H a y o ∧ ((r = none ∧ o = none) ∨ ∃ p v, r = some p ∧ o = some v ∧ Rep K w p v) := by
  obtain ⟨a, kk, vs, rfl, e1, e2, hd, rr⟩ := con_dicT h e
  obtain ⟨b, rfl, hb⟩ := key_tup hq eq
  refine ⟨a, _, rfl, ⟨_, k, b, hd, rfl, hb, rfl⟩, ?_⟩
  rcases dfindT_ok e1 e2 rr e with ⟨h1, h2⟩ | ⟨p, v, h1, h2, h3⟩
  · exact .inl ⟨h1, h2⟩
  · exact .inr ⟨p, v, h1, h2, h3⟩
/-! ### the kit's rules, for an empty dict too -/
section
variable {X : Cx} {pins : List (Addr × Obj)} {σ : L2.St} {H : Hp} {s : Shared} {a : Addr} {y v : V} {o : Option V}
theorem tup_ne {b : Addr} {k : List V} (h : H b = some (.tup k)) (e : H a = some (.dK [])) : b ≠ a := fun z => by
  rw [z, e] at h
  cases h
theorem getT_cases (I : Inv X pins σ H s) (g : DGetT H a y o) : ∃ H', Inv X pins σ H' s ∧ DGet H' a y o ∧ ∀ s', Inv X pins σ H' s' → Inv X pins σ H s' := by
  obtain ⟨kvs, k, b, hd, rfl, hb, rfl⟩ := g
  rcases hd with hd | ⟨rfl, hd⟩
  · exact ⟨H, I, DGet.t hd hb, fun _ z => z⟩
  · exact ⟨_, inv_T I hd, DGet.t upd_same (by rw [upd_ne (tup_ne hb hd)]; exact hb), fun _ z => inv_K z hd⟩
end
/-! ### d[k] -/
def rIxT : R2 := fun x y H Q => ∃ a v, x = .ref a ∧ DGetT H a y (some v) ∧ Q v H
theorem ix_dicT {X : Cx} (hu : X.A.units + 1 < cLine) : IxR X rIxT := by
  intro value slice pins s σ H x y v u Q I rx ry h hs
  obtain ⟨a, v0, rfl, g, q⟩ := h
  obtain rfl : v = Value.ref a := rx
  obtain ⟨H', I', g', back⟩ := getT_cases I g
  exact tail_any (dict_typeIs I' g') PySem.F.slot_dict_getitem.lookup (d_getItem hu I' g' ry fun w' s3 I3 rw' => ⟨v0, H, back _ I3, rw', q⟩) hs
def ixTF : PV → PV → Option RV
  | .dic ks xs, q => (keyT q).bind fun k => (dfindT k ks xs).bind fun r => r.map .val
  | _, _ => none
theorem ok_ixT {B : BC} : OkR2 B rIxT ixTF := by
  intro L s p q x y z Q R cp cq e k
  cases p with
  | dic ks xs =>
    obtain ⟨kk, e1, e⟩ := Option.bind_eq_some_iff.mp e
    obtain ⟨r, e2, e⟩ := Option.bind_eq_some_iff.mp e
    obtain ⟨p, rfl, rfl⟩ := Option.map_eq_some_iff.mp e
    obtain ⟨a, o, rfl, g, h⟩ := dgetT_con cp cq e1 e2
    rcases h with ⟨h, _⟩ | ⟨p', v, h1, h2, h3⟩
    · cases h
    · cases h1
      subst h2
      exact ⟨a, v, rfl, g, k s.w v (.refl R) h3⟩
  | _ => cases e
/-! ### k in d -/
def rInT : R2 := fun x y H Q => ∃ a o, y = .ref a ∧ DGetT H a x o ∧ Q (.bl o.isSome) H
def rNotInT : R2 := fun x y H Q => ∃ a o, y = .ref a ∧ DGetT H a x o ∧ Q (.bl (!o.isSome)) H
theorem op_inTk {X : Cx} (hu : X.A.units + 1 < cLine) : OpR X (compareOp .In) rInT := by
  intro pins s σ H x y v u Q I rx ry h
  obtain ⟨a, o, rfl, g, q⟩ := h
  obtain rfl : u = Value.ref a := ry
  obtain ⟨H', I', g', back⟩ := getT_cases I g
  exact d_in hu I' g' rx fun s3 I3 => ⟨.bl o.isSome, H, back _ I3, rfl, q⟩
theorem op_notInTk {X : Cx} (hu : X.A.units + 1 < cLine) : OpR X (compareOp .NotIn) rNotInT := by
  intro pins s σ H x y v u Q I rx ry h
  obtain ⟨a, o, rfl, g, q⟩ := h
  obtain rfl : u = Value.ref a := ry
  obtain ⟨H', I', g', back⟩ := getT_cases I g
  exact d_notIn hu I' g' rx fun s3 I3 => ⟨.bl (!o.isSome), H, back _ I3, rfl, q⟩
def inTkF (q p : PV) : Option Bool := match p with
  | .dic ks xs => (keyT q).bind fun k => (dfindT k ks xs).map fun r => r.isSome
  | _ => none
theorem ok_inTk {B : BC} : OkR2 B rInT (asV inTkF) := by
  intro L s p q x y z Q R cp cq e k
  cases q with
  | dic ks xs =>
    obtain ⟨b, e0, rfl⟩ := Option.map_eq_some_iff.mp e
    obtain ⟨kk, e1, e0⟩ := Option.bind_eq_some_iff.mp e0
    obtain ⟨r, e2, rfl⟩ := Option.map_eq_some_iff.mp e0
    obtain ⟨a, o, rfl, g, h⟩ := dgetT_con cq cp e1 e2
    refine ⟨a, o, rfl, g, ?_⟩
    rcases h with ⟨rfl, rfl⟩ | ⟨p', v, rfl, rfl, h3⟩
    · exact k s.w _ (.refl R) rfl
    · exact k s.w _ (.refl R) rfl
  | _ => cases e
/-! ### d.get(k), d.get(k, x) -/
def rGetT : V → List V → Hp → VK → Prop := fun x xs H Q => ∃ a o, x = .ref a ∧ ((∃ y, xs = [y] ∧ DGetT H a y o ∧ Q (o.getD .non) H) ∨ ∃ y z, xs = [y, z] ∧ DGetT H a y o ∧ Q (o.getD z) H)
theorem mt_getT {X : Cx} (hu : X.A.units + 1 < cLine) : MtR X "dict.get" rGetT := by
  intro pins s σ H x xs v us Q I rx rxs h
  obtain ⟨a, o, rfl, h⟩ := h
  obtain rfl : v = Value.ref a := rx
  rcases h with ⟨y, rfl, g, q⟩ | ⟨y, z, rfl, g, q⟩
  · obtain ⟨u, rfl, ry⟩ := vals1 rxs
    obtain ⟨H', I', g', back⟩ := getT_cases I g
    exact d_get1 hu I' g' ry fun w' s3 I3 rw' => ⟨_, H, back _ I3, rw', q⟩
  · obtain ⟨u, u2, rfl, ry, rz⟩ := vals2 rxs
    obtain ⟨H', I', g', back⟩ := getT_cases I g
    exact d_get2 hu I' g' ry rz fun w' s3 I3 rw' => ⟨_, H, back _ I3, rw', q⟩
/-- a method that only looks, its arguments values -/
def seeV (f : PV → List PV → Option RV) (o : RV) (rs : List RV) : M RV := fun r => match peek r o, valsOf rs with
  | some p, some ps => (match f p ps with | some z => .ok z r | none => .no)
  | _, _ => .no
def OkSeeV (B : BC) (r : V → List V → Hp → VK → Prop) (f : PV → List PV → Option RV) : Prop := ∀ (L : List Addr) (s : BS) (p : PV) (ps : List PV) (x : V) (xs : List V) (z : RV) (Q : VK), Rel B L s → Con B.K s.w p x → Reps B.K s.w ps xs → f p ps = some z →
  (∀ w' v, At B L s ⟨s.r, s.s, w'⟩ → RRel B L s ⟨s.r, s.s, w'⟩ z v → Q v w'.H) → r x xs s.w.H Q
theorem mt_seeV {B : BC} {T : String} {r : V → List V → Hp → VK → Prop} {f : PV → List PV → Option RV} (c : OkSeeV B r f) : OkMt B T r (seeV f) := by
  intro W L s0 s o x rs vs Q A h hs P
  unfold seeV at P
  split at P
  · rename_i p ps e1 e2
    split at P
    · rename_i z e3
      exact c L s p ps x vs z Q A.rel (peek_con A.rel h e1) (valsOf_reps hs.1 e2) e3 fun w' v A' hr => P.fin (A.trans A') (hr.weak A.x)
    · exact P.elim
  · exact P.elim
theorem con_rep {K : PySem.W.Frag} {w : Wd} {p : PV} {v : V} (h : Rep K w p v) : Con K w p v := Con.of_rep h
def getTF : PV → List PV → Option RV
  | .dic ks xs, [q] => (keyT q).bind fun k => (dfindT k ks xs).map fun r => .val (r.getD .non)
  | .dic ks xs, [q, d] => (keyT q).bind fun k => (dfindT k ks xs).map fun r => .val (r.getD d)
  | _, _ => none
theorem ok_getT {B : BC} : OkSeeV B rGetT getTF := by
  intro L s p ps x xs z Q R cp cs e k
  cases p with
  | dic ks ys =>
    match ps, cs, e with
    | [q], cs, e =>
      obtain ⟨y, r', rfl, cq, hn⟩ := cs
      cases (show r' = [] from hn)
      obtain ⟨kk, e1, e⟩ := Option.bind_eq_some_iff.mp e
      obtain ⟨r, e2, rfl⟩ := Option.map_eq_some_iff.mp e
      obtain ⟨a, o, rfl, g, h⟩ := dgetT_con cp (Con.of_rep cq) e1 e2
      refine ⟨a, o, rfl, .inl ⟨y, rfl, g, ?_⟩⟩
      rcases h with ⟨rfl, rfl⟩ | ⟨p', v, rfl, rfl, h3⟩
      · exact k s.w _ (.refl R) rfl
      · exact k s.w _ (.refl R) h3
    | [q, d], cs, e =>
      obtain ⟨y, r', rfl, cq, y2, r2, rfl, cd, hn⟩ := cs
      cases (show r2 = [] from hn)
      obtain ⟨kk, e1, e⟩ := Option.bind_eq_some_iff.mp e
      obtain ⟨r, e2, rfl⟩ := Option.map_eq_some_iff.mp e
      obtain ⟨a, o, rfl, g, h⟩ := dgetT_con cp (Con.of_rep cq) e1 e2
      refine ⟨a, o, rfl, .inr ⟨y, y2, rfl, g, ?_⟩⟩
      rcases h with ⟨rfl, rfl⟩ | ⟨p', v, rfl, rfl, h3⟩
      · exact k s.w _ (.refl R) cd
      · exact k s.w _ (.refl R) h3
    | [], _, e => cases e
    | _ :: _ :: _ :: _, _, e => cases e
  | _ => cases e
/-! ### d[k] = v -/
def rSetTk : TSet := fun o i v H Q => ∃ (a b : Addr) (kvs : List (List Key × V)) (k : List Key), o = .ref a ∧ i = .ref b ∧ DicT H a kvs ∧ H b = some (.tup (k.map kV)) ∧ kvs.length < sizeLine ∧ Q (upd H a (.dT (putK kvs k v)))
theorem set_dicT {X : Cx} (hu : X.A.units + 1 < cLine) : PSet X rSetTk := by
  intro pins s σ H o i v ov iv u Q I ro ri rv h
  obtain ⟨a, b, kvs, k, rfl, rfl, hd, hb, hl, q⟩ := h
  obtain rfl : ov = Value.ref a := ro
  rcases hd with hd | ⟨rfl, hd⟩
  · exact d_setItem hu I (DPut.t hd hb hl) ri rv fun s' I' => ⟨_, I', q⟩
  · refine d_setItem hu (inv_T I hd) (DPut.t upd_same (by rw [upd_ne (tup_ne hb hd)]; exact hb) hl) ri rv fun s' I' => ⟨_, I', ?_⟩
    rw [upd_upd]
    exact q
def setTF : PV → PV → PV → Option PV
  | .dic ks xs, q, y => (keyT q).bind fun k => (dfindT k ks xs).bind fun r => @ite _ (ks.length < lim) (Classical.propDecidable _) (match r with
    | some _ => some (.dic ks (drepT k y ks xs))
    | none => some (.dic (ks ++ [q]) (xs ++ [y]))) none
  | _, _, _ => none
theorem core_setDicT {B : BC} : CoreS B rSetTk setTF := by
  intro w a p q y p' i v Q c ci hy e k
  cases p with
  | dic ks xs =>
    obtain ⟨kk, e1, e⟩ := Option.bind_eq_some_iff.mp e
    obtain ⟨r, e2, e⟩ := Option.bind_eq_some_iff.mp e
    split at e
    · rename_i hz
      obtain ⟨b, kks, vs, eb, e3, e4, hd, rr⟩ := con_dicT c e2
      cases eb
      obtain ⟨bt, rfl, hb⟩ := key_tup ci e1
      have hlen : ks.length = vs.length := by
        have := congrArg List.length e3
        rw [List.length_map, List.length_map] at this
        omega
      have hz2 : (kks.zip vs).length < sizeLine := by rw [List.length_zip, ← lim_eq]; omega
      refine ⟨a, bt, _, kk, rfl, rfl, hd, hb, hz2, ?_⟩
      refine k _ (.inr ?_)
      rcases dfindT_ok e3 e4 rr e2 with ⟨h1, h2⟩ | ⟨p1, v1, h1, h2, h3⟩
      · subst h1
        cases e
        refine ⟨_, _, vs ++ [v], rfl, fun H' h' => .inr ⟨kks ++ [kk], ⟨?_, by simp⟩, by rw [List.length_append, List.length_append, e4]; rfl, ?_⟩, rr.append (Reps.cons hy .nil)⟩
        · rw [List.map_append, List.map_append, e3, List.map_singleton, List.map_singleton, e1]
        · rw [h', putK_new v h2, List.zip_append e4]
          rfl
      · subst h1
        cases e
        obtain ⟨i1, i2, i3⟩ := drepT_ok (k := kk) hy e3 e4 rr
        have hne : ks ≠ [] := by
          rintro rfl
          cases xs with
          | nil => cases e2
          | cons _ _ => cases e2
        refine ⟨_, _, _, rfl, fun H' h' => .inr ⟨kks, ⟨e3, hne⟩, by rw [i2, e4], ?_⟩, i1⟩
        rw [h', i3]
        unfold putK
        rw [if_pos (by rw [valV_any, h2]; rfl)]
    · cases e
  | _ => cases e
end
end BL
/-! B: sorted of a list of pairs (list of ints, tuple of ints). -/
namespace BL
noncomputable section
open PySem PySem.Spec PyProof.Rows L2
abbrev Kr := List Int × List Int
abbrev KrLe (x y : Kr) : Prop := x.1 < y.1 ∨ (x.1 = y.1 ∧ x.2 ≤ y.2)
def krP (p : Kr) : PV := .tup [.lst (p.1.map .int), .tup (p.2.map .int)]
def krD (p : Kr) : PyData := .tuple [.list (p.1.map .int), .tuple (p.2.map .int)]
def toKr : PV → Option Kr
  | .tup [.lst a, .tup b] => (toInts a).bind fun x => (toInts b).map fun y => (x, y)
  | _ => none
def toKrs : List PV → Option (List Kr)
  | [] => some []
  | x :: r => (toKr x).bind fun p => (toKrs r).map (p :: ·)
theorem toInts_eq : ∀ {xs : List PV} {ns : List Int}, toInts xs = some ns → xs = ns.map .int
  | [], ns, h => by cases h; rfl
  | x :: r, ns, h => by
    cases x with
    | int i =>
      obtain ⟨q, e2, h⟩ := Option.map_eq_some_iff.mp (show (toInts r).map (i :: ·) = some ns from h)
      subst h
      rw [toInts_eq e2]
      rfl
    | _ => cases h
theorem toKr_eq {x : PV} {p : Kr} (h : toKr x = some p) : x = krP p := by
  unfold toKr at h
  split at h
  · obtain ⟨a, e1, h⟩ := Option.bind_eq_some_iff.mp h
    obtain ⟨b, e2, h⟩ := Option.map_eq_some_iff.mp h
    subst h
    rw [toInts_eq e1, toInts_eq e2]
    rfl
  · cases h
theorem toKr_krP (p : Kr) : toKr (krP p) = some p := by
  show (toInts (p.1.map PV.int)).bind _ = _
  rw [toInts_map, Option.bind_some, toInts_map]
  rfl
theorem toKrs_eq : ∀ {xs : List PV} {ps : List Kr}, toKrs xs = some ps → xs = ps.map krP
  | [], ps, h => by cases h; rfl
  | x :: r, ps, h => by
    unfold toKrs at h
    obtain ⟨p, e1, h⟩ := Option.bind_eq_some_iff.mp h
    obtain ⟨q, e2, h⟩ := Option.map_eq_some_iff.mp h
    subst h
    rw [toKr_eq e1, toKrs_eq e2]
    rfl
theorem toKrs_map : ∀ ps : List Kr, toKrs (ps.map krP) = some ps
  | [] => rfl
  | p :: r => by
    show (toKr (krP p)).bind (fun p => (toKrs (r.map krP)).map (p :: ·)) = _
    rw [toKrs_map r, toKr_krP]
    rfl
theorem KrLe.trans {x y z : Kr} (a : KrLe x y) (b : KrLe y z) : KrLe x z := by
  rcases a with a | ⟨a1, a2⟩
  · rcases b with b | ⟨b1, b2⟩
    · exact .inl (List.lt_trans a b)
    · exact .inl (b1 ▸ a)
  · rcases b with b | ⟨b1, b2⟩
    · exact .inl (a1 ▸ b)
    · exact .inr ⟨a1.trans b1, List.le_trans a2 b2⟩
theorem KrLe.total (x y : Kr) : KrLe x y ∨ KrLe y x := by
  by_cases h1 : x.1 < y.1
  · exact .inl (.inl h1)
  · by_cases h2 : y.1 < x.1
    · exact .inr (.inl h2)
    · have e : x.1 = y.1 := List.le_antisymm (List.not_lt.mp h2) (List.not_lt.mp h1)
      rcases List.le_total x.2 y.2 with h | h
      · exact .inl (.inr ⟨e, h⟩)
      · exact .inr (.inr ⟨e.symm, h⟩)
theorem KrLe.anti {x y : Kr} (a : KrLe x y) (b : KrLe y x) : x = y := by
  obtain ⟨x1, x2⟩ := x
  obtain ⟨y1, y2⟩ := y
  rcases a with a | ⟨a1, a2⟩
  · rcases b with b | ⟨b1, b2⟩
    · exact absurd (List.lt_trans a b) (List.lt_irrefl _)
    · have b1 : y1 = x1 := b1
      rw [b1] at a
      exact absurd a (List.lt_irrefl _)
  · rcases b with b | ⟨b1, b2⟩
    · have a1 : x1 = y1 := a1
      rw [a1] at b
      exact absurd b (List.lt_irrefl _)
    · have a1 : x1 = y1 := a1
      have e : x2 = y2 := List.le_antisymm a2 b2
      rw [a1, e]
def insK (x : Kr) : List Kr → List Kr
  | [] => [x]
  | y :: r => if KrLe x y then x :: y :: r else y :: insK x r
def sortK : List Kr → List Kr
  | [] => []
  | x :: r => insK x (sortK r)
theorem insK_perm (x : Kr) : ∀ l, (insK x l).Perm (x :: l)
  | [] => .refl _
  | y :: r => by
    unfold insK
    split
    · exact .refl _
    · exact ((insK_perm x r).cons y).trans (.swap ..)
theorem sortK_perm : ∀ l, (sortK l).Perm l
  | [] => .refl _
  | x :: r => (insK_perm x _).trans ((sortK_perm r).cons x)
theorem insK_sorted (x : Kr) : ∀ {l : List Kr}, l.Pairwise KrLe → (insK x l).Pairwise KrLe
  | [], _ => List.pairwise_singleton ..
  | y :: r, h => by
    unfold insK
    split
    · rename_i hx
      refine List.pairwise_cons.mpr ⟨fun z hz => ?_, h⟩
      rcases List.mem_cons.mp hz with e | hz
      · subst e; exact hx
      · exact KrLe.trans hx ((List.pairwise_cons.mp h).1 z hz)
    · rename_i hx
      refine List.pairwise_cons.mpr ⟨fun z hz => ?_, insK_sorted x (List.pairwise_cons.mp h).2⟩
      rcases List.mem_cons.mp ((insK_perm x r).mem_iff.mp hz) with e | hz
      · subst e; exact (KrLe.total _ _).resolve_left hx
      · exact (List.pairwise_cons.mp h).1 z hz
theorem sortK_sorted : ∀ l, (sortK l).Pairwise KrLe
  | [] => .nil
  | x :: r => insK_sorted x (sortK_sorted r)
theorem sortK_uniq {l m : List Kr} (p : m.Perm l) (h : m.Pairwise KrLe) : m = sortK l :=
  (p.trans (sortK_perm l).symm).eq_of_pairwise (le := KrLe) (fun a b _ _ h1 h2 => KrLe.anti h1 h2) h (sortK_sorted l)
theorem alike_kr (p q : Kr) : PySem.W.alike (krD p) (krD q) = true := by
  show PySem.W.alike (.tuple [.list (p.1.map .int), .tuple (p.2.map .int)]) (.tuple [.list (q.1.map .int), .tuple (q.2.map .int)]) = true
  simp [PySem.W.alike, PySem.W.alikeAll, PySem.W.alike_ints]
theorem lt_kr (p q : Kr) : PySem.W.dataLt (krD p) (krD q) = decide (p.1 < q.1 ∨ (p.1 = q.1 ∧ p.2 < q.2)) := by
  unfold krD
  rw [PySem.W.dataLt_pair (by simp [PySem.W.alike, PySem.W.alike_ints]) (by simp [PySem.W.alike, PySem.W.alike_ints]), PySem.W.dataLt_list, PySem.W.dataLt_tuple]
  have e1 := PySem.W.dataLt_ints p.1 q.1
  have e2 := PySem.W.dataLt_ints p.2 q.2
  unfold PySem.W.rowLt at e1 e2
  rw [e1, e2]
  simp only [PyData.eqv, eqv_ints, decide_eq_true_eq]
  by_cases h1 : p.1 = q.1 <;> by_cases h2 : p.2 = q.2 <;> simp [h1, h2, List.lt_irrefl]
theorem le_kr {β : Type} (k : β → Kr) : PySem.W.dataLe false (fun b => krD (k b)) = fun p q => decide (KrLe (k p) (k q)) := by
  funext p q
  show (!PySem.W.dataLt (krD (k q)) (krD (k p))) = _
  rw [lt_kr]
  by_cases h : (k q).1 < (k p).1 ∨ ((k q).1 = (k p).1 ∧ (k q).2 < (k p).2)
  · have h' : ¬ KrLe (k p) (k q) := by
      rintro (z | ⟨z1, z2⟩)
      · rcases h with h | ⟨h1, _⟩
        · exact List.lt_irrefl _ (List.lt_trans z h)
        · rw [h1] at z
          exact List.lt_irrefl _ z
      · rcases h with h | ⟨_, h2⟩
        · rw [z1] at h
          exact List.lt_irrefl _ h
        · exact List.not_lt.mpr z2 h2
    simp [h, h']
  · have h' : KrLe (k p) (k q) := by
      rcases KrLe.total (k p) (k q) with z | z
      · exact z
      · rcases z with z | ⟨z1, z2⟩
        · exact absurd (.inl z) h
        · refine .inr ⟨z1.symm, List.not_lt.mp fun y => h (.inr ⟨z1, y⟩)⟩
    simp [h, h']
section
variable {X : Cx}
def rSortedK (K : PySem.W.Frag) : List V → Hp → VK → Prop := fun vs H Q => ∃ (a : Addr) (xs : List V) (ks : List Kr), vs = [V.ref a] ∧ SqL K H a xs ∧ ks.length = xs.length ∧ (∀ (i : Nat) k x, ks[i]? = some k → xs[i]? = some x → Dp K H x (krD k)) ∧
  ∀ (zs : List (V × Kr)) (q : Addr), zs.Perm (xs.zip ks) → (zs.map (·.2)).Pairwise KrLe → H q = none → Q (.ref q) (upd H q (.lst (zs.map (·.1))))
theorem each_of {α β : Type} {R : α → β → Prop} : ∀ {as : List α} {bs : List β}, as.length = bs.length → (∀ (i : Nat) a b, as[i]? = some a → bs[i]? = some b → R a b) → PySem.W.EachIs R as bs
  | [], [], _, _ => .nil
  | [], _ :: _, h, _ => by cases h
  | _ :: _, [], h, _ => by cases h
  | a :: as, b :: bs, h, k => .cons (k 0 a b rfl rfl) (each_of (Nat.succ.inj h) fun i x y h1 h2 => k (i + 1) x y (by simpa using h1) (by simpa using h2))
theorem each_vals {β : Type} {f : β → V} : ∀ {us : List Value} {bs : List β}, PySem.W.EachIs (fun u b => RelV (f b) u) us bs → Vals (bs.map f) us
  | _, _, .nil => .nil
  | _, _, .cons h t => .cons h (each_vals t)
theorem depth_kr (k : Kr) : (krD k).depth ≤ 8 := by
  unfold krD
  simp [PyData.depth, PyData.depthAll, PySem.W.depth_ints]
theorem cr_sortedK (hu : X.A.units + 65 < cLine) : CallR X (.builtin "sorted") (rSortedK X.K) := by
  intro pins s σ H vs us Q I r h
  obtain ⟨a, xs, ks, rfl, hs, hl, hx, q⟩ := h
  obtain ⟨its, rv, hL, hz⟩ := I.list hs
  obtain ⟨u, rfl, ru⟩ := vals1 r
  obtain rfl : u = Value.ref a := ru
  have ll : xs.length = its.length := rv.length
  have zl : (xs.zip ks).length = its.length := by rw [List.length_zip]; omega
  have at1 : ∀ (i : Nat) u b, its[i]? = some u → (xs.zip ks)[i]? = some b → RelV b.1 u ∧ ∃ as, Reads s.heap u (krD b.2) as := by
    intro i u b h1 h2
    obtain ⟨h3, h4⟩ := List.getElem?_zip_eq_some.mp h2
    obtain ⟨u', h5, h6⟩ := rv.get h3
    rw [h1] at h5
    cases h5
    exact ⟨h6, Dp.reads I _ _ _ (hx i _ _ h4 h3) h6⟩
  refine PySem.W.sorted_data (R := fun u (b : V × Kr) => RelV b.1 u) (bs := xs.zip ks) (enc := fun b => krD b.2) hL.isList (each_of zl.symm fun i u b h1 h2 => (at1 i u b h1 h2).1) (each_of zl.symm fun i u b h1 h2 => (at1 i u b h1 h2).2)
    (PySem.W.AllAlike.of fun b b' => alike_kr b.2 b'.2) (PySem.W.Sortable.tuples fun b => ⟨_, _, rfl⟩) (by rw [zl, ← ll]; exact hz) (fun b _ => by have := depth_kr b.2; omega) fun out ho eo => ?_
  rw [le_kr] at eo
  obtain ⟨c, hc⟩ := PyProof.Rows.sortedAll_at s.heap its out.toArray
  have pz : ((xs.zip ks).mergeSort fun p q => decide (KrLe p.2 q.2)).Perm (xs.zip ks) := List.mergeSort_perm _ _
  have srt : (((xs.zip ks).mergeSort fun p q => decide (KrLe p.2 q.2)).map (·.2)).Pairwise KrLe := by
    rw [List.pairwise_map]
    refine (List.pairwise_mergeSort (le := fun (p q : V × Kr) => decide (KrLe p.2 q.2)) (fun x y z h1 h2 => decide_eq_true (KrLe.trans (of_decide_eq_true h1) (of_decide_eq_true h2))) (fun x y => by
      rcases KrLe.total x.2 y.2 with h | h
      · simp [h]
      · simp [h]) _).imp fun h => of_decide_eq_true h
  refine ⟨.ref _, upd H (s.heap.objs.size + 1) (.lst (((xs.zip ks).mergeSort fun p q => decide (KrLe p.2 q.2)).map (·.1))), I.laid (t' := s.toks) (fun _ _ => PyProof.Rows.sortedAll_old) (Nat.le_succ _) ⟨?_, out, c, each_vals eo, hc⟩, rfl, q _ _ pz srt (I.hok.fresh (Nat.le_succ _))⟩
  rw [List.length_map, pz.length_eq, zl, ← ll]
  exact hz
end
def sortedKF : List PV → Option RV
  | [.lst xs] => (toKrs xs).map fun ps => .fresh (.lst ((sortK ps).map krP))
  | _ => none
theorem toD_kr (k : Kr) : toD (krP k) = some (krD k) := by
  have e : ∀ l : List Int, toDs (l.map PV.int) = some (l.map PyData.int) := by
    intro l
    induction l with
    | nil => rfl
    | cons x r ih =>
      show (match toD (.int x), toDs (r.map PV.int) with | some d, some ds => some (d :: ds) | _, _ => none) = _
      rw [ih]
      rfl
  have e1 : toD (.lst (k.1.map PV.int)) = some (.list (k.1.map .int)) := by
    show (toDs (k.1.map PV.int)).map PyData.list = _
    rw [e]
    rfl
  have e2 : toD (.tup (k.2.map PV.int)) = some (.tuple (k.2.map .int)) := by
    show (toDs (k.2.map PV.int)).map PyData.tuple = _
    rw [e]
    rfl
  show (toDs [.lst (k.1.map PV.int), .tup (k.2.map PV.int)]).map PyData.tuple = _
  have e3 : toDs [.lst (k.1.map PV.int), .tup (k.2.map PV.int)] = some [.list (k.1.map .int), .tuple (k.2.map .int)] := by
    show (match toD (.lst (k.1.map PV.int)), (match toD (.tup (k.2.map PV.int)), toDs [] with | some d, some ds => some (d :: ds) | _, _ => none) with | some d, some ds => some (d :: ds) | _, _ => none) = _
    rw [e1, e2]
    rfl
  rw [e3]
  rfl
theorem ok_sortedK {B : BC} : OkRs B (rSortedK B.K) sortedKF := by
  intro L s ps xs z Q R cp e k
  match ps, cp, e with
  | [.lst ys], cp, e =>
    obtain ⟨x, rfl, c1⟩ := cp.one
    have e : (toKrs ys).map (fun ps => RV.fresh (.lst ((sortK ps).map krP))) = some z := e
    obtain ⟨ns, e2, e⟩ := Option.map_eq_some_iff.mp e
    subst e
    have ey := toKrs_eq e2
    subst ey
    obtain ⟨a, vs, rfl, h, r⟩ := c1
    have hlen : ns.length = vs.length := by
      have := r.length
      rw [List.length_map] at this
      exact this
    refine ⟨a, vs, ns, rfl, .inl (.inl h), hlen, fun i p x h1 h2 => ?_, fun zs q pz so hn => ?_⟩
    · obtain ⟨x', h3, h4⟩ := r.get (i := i) (p := krP p) (by rw [List.getElem?_map, h1]; rfl)
      rw [h2] at h3
      cases h3
      exact toD_con (Con.of_rep h4) (toD_kr p)
    · have e1 : zs.map (·.2) = sortK ns := by
        refine sortK_uniq ?_ so
        have := pz.map (·.2)
        rw [List.map_snd_zip (by omega)] at this
        exact this
      have rs : Reps B.K s.w ((sortK ns).map krP) (zs.map (·.1)) := by
        rw [← e1]
        have key : ∀ ws : List (V × Kr), (∀ z ∈ ws, Rep B.K s.w (krP z.2) z.1) → Reps B.K s.w ((ws.map (·.2)).map krP) (ws.map (·.1)) := by
          intro ws
          induction ws with
          | nil => exact fun _ => rfl
          | cons w ws ih => exact fun h => .cons (h w (List.mem_cons_self ..)) (ih fun z hz => h z (List.mem_cons_of_mem _ hz))
        refine key zs fun z hz => ?_
        obtain ⟨j, hj⟩ := List.mem_iff_getElem?.mp (pz.mem_iff.mp hz)
        obtain ⟨h1, h2⟩ := List.getElem?_zip_eq_some.mp hj
        obtain ⟨x', h3, h4⟩ := r.get (i := j) (p := krP z.2) (by rw [List.getElem?_map, h2]; rfl)
        rw [h1] at h3
        cases h3
        exact h4
      exact k _ _ (R.alloc hn) (R.newList hn rs)
  | [], _, e => cases e
  | .non :: _, _, e | .bl _ :: _, _, e | .int _ :: _, _, e | .str _ :: _, _, e | .tup _ :: _, _, e | .dic _ _ :: _, _, e | .obj _ :: _, _, e | .exc _ :: _, _, e | .scr _ :: _, _, e => cases e
  | .lst _ :: _ :: _, _, e => cases e
end
end BL
namespace BL
noncomputable section
open PySem PySem.Spec PyProof.Rows L2
/-! B, the plain side: weakest preconditions of mirrors; equations for simp only. -/
section
variable {α β : Type} {Q : α → Env → Prop} {E : Nat → Env → Prop} {r : Env}
end
section
variable {sl : List Slot} {ln : List (Stt × PV)} {st : List Inst} {r : Env} {E : Nat → Env → Prop}
def slV (i : Nat) : Slot → Option RV
  | .val p => some (.val p)
  | .own _ _ => some (.slot i)
  | .loan k => some (.loan k)
  | .no => none
theorem slV_val {i : Nat} {p : PV} : slV i (.val p) = some (.val p) := id rfl
theorem slV_own {i : Nat} {l : Bool} {p : PV} : slV i (.own l p) = some (.slot i) := id rfl
theorem slV_loan {i k : Nat} : slV i (.loan k) = some (.loan k) := id rfl
theorem peek_val' {p : PV} : peek r (.val p) = some p := id rfl
theorem peek_fresh' {p : PV} : peek r (.fresh p) = some p := id rfl
def slP (ln : List (Stt × PV)) : Slot → Option PV
  | .val p => some p
  | .own _ p => some p
  | .loan k => (ln[k]?).map (·.2)
  | .no => none
theorem slP_val {p : PV} : slP ln (.val p) = some p := id rfl
theorem slP_own {l : Bool} {p : PV} : slP ln (.own l p) = some p := id rfl
theorem slP_loan {k : Nat} : slP ln (.loan k) = (ln[k]?).map (·.2) := id rfl
theorem peek_slot' {i : Nat} : peek ⟨sl, ln, st⟩ (.slot i) = (sl[i]?).bind (slP ln) := by
  show slotC ⟨sl, ln, st⟩ i = _
  unfold slotC
  show (match sl[i]? with | some (.val p) => _ | some (.own _ p) => _ | some (.loan k) => _ | _ => _) = _
  cases sl[i]? with
  | none => rfl
  | some x => cases x <;> rfl
theorem peek_loan' {k : Nat} : peek ⟨sl, ln, st⟩ (.loan k) = (ln[k]?).map (·.2) := id rfl
def blOf : PV → Option Bool
  | .bl b => some b
  | _ => none
theorem blOf_bl {b : Bool} : blOf (.bl b) = some b := id rfl
theorem valsOf_nil' : valsOf [] = some [] := id rfl
theorem valsOf_cons' {p : PV} {rs : List RV} : valsOf (.val p :: rs) = (valsOf rs).map (p :: ·) := id rfl
theorem peeks_nil' : peeks r [] = some [] := id rfl
theorem peeks_cons' {x : RV} {xs : List RV} : peeks r (x :: xs) = (peek r x).bind fun p => (peeks r xs).map (p :: ·) := by
  show (match peek r x, peeks r xs with | some p, some ps => _ | _, _ => _) = _
  cases peek r x with
  | none => rfl
  | some p => cases peeks r xs <;> rfl
def one1 {α : Type} : List α → Option α
  | [t] => some t
  | _ => none
theorem one1_of {α : Type} {t : α} : one1 [t] = some t := id rfl
def loL (k : Nat) : Stt × PV → Option (Stt × PV × Hold)
  | (.live, p) => some (.live, p, .loan k)
  | (.lock, p) => some (.lock, p, .loan k)
  | _ => none
def loS (ln : List (Stt × PV)) (i : Nat) : Slot → Option (Stt × PV × Hold)
  | .own false p => some (.live, p, .slot i)
  | .own true p => some (.lock, p, .slot i)
  | .loan k => (ln[k]?).bind (loL k)
  | _ => none
theorem loanOf_slot {i : Nat} : loanOf ⟨sl, ln, st⟩ (.slot i) = (sl[i]?).bind (loS ln i) := by
  show (match sl[i]? with | some (.own false p) => _ | some (.own true p) => _ | some (.loan k) => _ | _ => _) = _
  cases sl[i]? with
  | none => rfl
  | some x =>
    cases x with
    | own l p => cases l <;> rfl
    | loan k =>
      show loanLn ⟨sl, ln, st⟩ k = (ln[k]?).bind _
      unfold loanLn
      show (match ln[k]? with | some (.live, p) => _ | some (.lock, p) => _ | _ => _) = (ln[k]?).bind _
      cases ln[k]? with
      | none => rfl
      | some x =>
        obtain ⟨t, p⟩ := x
        cases t <;> rfl
    | _ => rfl
theorem loS_own {i : Nat} {p : PV} : loS ln i (.own false p) = some (.live, p, .slot i) := id rfl
theorem loS_lock {i : Nat} {p : PV} : loS ln i (.own true p) = some (.lock, p, .slot i) := id rfl
theorem loL_live {k : Nat} {p : PV} : loL k (.live, p) = some (.live, p, .loan k) := id rfl
theorem loL_lock {k : Nat} {p : PV} : loL k (.lock, p) = some (.lock, p, .loan k) := id rfl
theorem loS_loan {i k : Nat} : loS ln i (.loan k) = (ln[k]?).bind (loL k) := id rfl
theorem loanOf_loan {k : Nat} : loanOf ⟨sl, ln, st⟩ (.loan k) = (ln[k]?).bind (loL k) := by
  show loanLn ⟨sl, ln, st⟩ k = _
  unfold loanLn
  show (match ln[k]? with | some (.live, p) => _ | some (.lock, p) => _ | _ => _) = _
  cases ln[k]? with
  | none => rfl
  | some x =>
    obtain ⟨t, p⟩ := x
    cases t <;> rfl
theorem putB_slot {t : Stt} {p : PV} {i : Nat} : putB ⟨sl, ln, st⟩ t p (.slot i) = ⟨sl.set i (slotOf t p), ln, st⟩ := id rfl
theorem putB_loan {t : Stt} {p : PV} {k : Nat} : putB ⟨sl, ln, st⟩ t p (.loan k) = ⟨sl, ln.set k (t, p), st⟩ := id rfl
theorem slotOf_live {p : PV} : slotOf .live p = .own false p := id rfl
theorem slotOf_lock {p : PV} : slotOf .lock p = .own true p := id rfl
theorem slotOf_froz {p : PV} : slotOf .froz p = .val p := id rfl
/-! methods -/
/-! statements -/
theorem isSlot_val {p : PV} : isSlot (.val p) = false := id rfl
theorem isSlot_fresh {p : PV} : isSlot (.fresh p) = false := id rfl
theorem isSlot_loan {k : Nat} : isSlot (.loan k) = false := id rfl
/-! what is walked -/
def lkL (k : Nat) : Stt × PV → List Hold
  | (.live, _) => [.loan k]
  | _ => []
def lkS (ln : List (Stt × PV)) (i : Nat) : Slot → List Hold
  | .own false _ => [.slot i]
  | .loan k => (ln[k]?).elim [] (lkL k)
  | _ => []
theorem lockOf_val' {p : PV} : lockOf r (.val p) = [] := id rfl
theorem lockOf_fresh' {p : PV} : lockOf r (.fresh p) = [] := id rfl
theorem lockLn' {k : Nat} : lockLn ⟨sl, ln, st⟩ k = (ln[k]?).elim [] (lkL k) := by
  unfold lockLn
  show (match ln[k]? with | some (.live, _) => _ | _ => _) = _
  cases ln[k]? with
  | none => rfl
  | some x =>
    obtain ⟨t, p⟩ := x
    cases t <;> rfl
theorem lockOf_loan' {k : Nat} : lockOf ⟨sl, ln, st⟩ (.loan k) = (ln[k]?).elim [] (lkL k) := lockLn'
theorem lockOf_slot' {i : Nat} : lockOf ⟨sl, ln, st⟩ (.slot i) = (sl[i]?).elim [] (lkS ln i) := by
  show (match sl[i]? with | some (.own false _) => _ | some (.loan k) => _ | _ => _) = _
  cases sl[i]? with
  | none => rfl
  | some x =>
    cases x with
    | own l p => cases l <;> rfl
    | loan k => exact lockLn'
    | _ => rfl
theorem elim_some {α β : Type} {a : α} {b : β} {f : α → β} : (some a).elim b f = f a := id rfl
theorem lkS_own {i : Nat} {p : PV} : lkS ln i (.own false p) = [.slot i] := id rfl
theorem lkS_lock {i : Nat} {p : PV} : lkS ln i (.own true p) = [] := id rfl
theorem lkS_val {i : Nat} {p : PV} : lkS ln i (.val p) = [] := id rfl
theorem lkS_loan {i k : Nat} : lkS ln i (.loan k) = (ln[k]?).elim [] (lkL k) := id rfl
theorem lkL_live {k : Nat} {p : PV} : lkL k (.live, p) = [.loan k] := id rfl
theorem lkL_lock {k : Nat} {p : PV} : lkL k (.lock, p) = [] := id rfl
theorem lkL_froz {k : Nat} {p : PV} : lkL k (.froz, p) = [] := id rfl
theorem lockE_nil' : lockE [] r = r := id rfl
theorem unlE_nil' : unlE [] r = r := id rfl
theorem lockE_cons {h : Hold} {lk : List Hold} : lockE (h :: lk) r = lockE lk (lock1 r h) := id rfl
theorem unlE_cons {h : Hold} {lk : List Hold} : unlE (h :: lk) r = unlE lk (unl1 r h) := id rfl
theorem lock1_slot {i : Nat} : lock1 ⟨sl, ln, st⟩ (.slot i) = ⟨sl.modify i lockS, ln, st⟩ := id rfl
theorem lock1_loan {k : Nat} : lock1 ⟨sl, ln, st⟩ (.loan k) = ⟨sl, ln.modify k lockT, st⟩ := id rfl
theorem unl1_slot {i : Nat} : unl1 ⟨sl, ln, st⟩ (.slot i) = ⟨sl.modify i unlS, ln, st⟩ := id rfl
theorem unl1_loan {k : Nat} : unl1 ⟨sl, ln, st⟩ (.loan k) = ⟨sl, ln.modify k unlT, st⟩ := id rfl
theorem mod_0 {α : Type} {a : α} {l : List α} {f : α → α} : (a :: l).modify 0 f = f a :: l := id rfl
theorem mod_s {α : Type} {a : α} {l : List α} {f : α → α} {n : Nat} : (a :: l).modify (n + 1) f = a :: l.modify n f := id rfl
theorem lockS_own {l : Bool} {p : PV} : lockS (.own l p) = .own true p := id rfl
theorem unlS_own {l : Bool} {p : PV} : unlS (.own l p) = .own false p := id rfl
theorem lockS_val {p : PV} : lockS (.val p) = .val p := id rfl
theorem unlS_val {p : PV} : unlS (.val p) = .val p := id rfl
theorem lockT_live {p : PV} : lockT (.live, p) = (.lock, p) := id rfl
theorem unlT_lock {p : PV} : unlT (.lock, p) = (.live, p) := id rfl
def intOf : PV → Option Int
  | .int i => some i
  | _ => none
theorem intOf_int {i : Int} : intOf (.int i) = some i := id rfl
theorem plain_nil : plainSl [] r = true := id rfl
def plS : Slot → Bool
  | .own _ _ => false
  | _ => true
theorem plain_cons {i : Nat} {vs : List Nat} : plainSl (i :: vs) ⟨sl, ln, st⟩ = ((sl[i]?).elim true plS && plainSl vs ⟨sl, ln, st⟩) := by
  show ((!isOwn sl[i]?) && _) = _
  cases sl[i]? with
  | none => rfl
  | some x => cases x <;> rfl
theorem plS_no : plS .no = true := id rfl
theorem plS_val {p : PV} : plS (.val p) = true := id rfl
theorem plS_loan {k : Nat} : plS (.loan k) = true := id rfl
theorem wipe_nil : wipeE [] r = r := id rfl
theorem wipe_cons {i : Nat} {vs : List Nat} : wipeE (i :: vs) ⟨sl, ln, st⟩ = ⟨(wipeSl vs sl).set i .no, ln, st⟩ := by
  first | rfl | (unfold wipeE; rfl)
end
section
variable {Q : RV → List (Stt × PV) → List Inst → Prop} {E : Nat → List (Stt × PV) → List Inst → Prop}
theorem argSl_nil {k : Nat} : argSl k [] = [] := id rfl
theorem argSl_val {k : Nat} {p : PV} {as : List Arg} : argSl k (.val p :: as) = .val p :: argSl k as := id rfl
theorem argSl_loan {k : Nat} {t : Stt} {p : PV} {as : List Arg} : argSl k (.loan t p :: as) = .loan k :: argSl (k + 1) as := id rfl
theorem argLn_nil : argLn [] = [] := id rfl
theorem argLn_val {p : PV} {as : List Arg} : argLn (.val p :: as) = argLn as := id rfl
theorem argLn_loan {t : Stt} {p : PV} {as : List Arg} : argLn (.loan t p :: as) = (t, p) :: argLn as := id rfl
theorem finF_next {r : Env} : finF (.ok .next r) = .ok (.val .non) r.ln r.st := id rfl
theorem finF_ret {z : RV} {r : Env} : finF (.ok (.ret z) r) = finRV z r := id rfl
theorem finRV_val {p : PV} {r : Env} : finRV (.val p) r = .ok (.val p) r.ln r.st := id rfl
theorem finRV_fresh {p : PV} {r : Env} : finRV (.fresh p) r = .ok (.fresh p) r.ln r.st := id rfl
def finS (sl : List Slot) (ln : List (Stt × PV)) (st : List Inst) : Slot → FRes
  | .own false p => .ok (.fresh p) ln st
  | .val p => .ok (.val p) ln st
  | .loan k => finRV (.loan k) ⟨sl, ln, st⟩
  | _ => .no
theorem finRV_slot {sl : List Slot} {ln : List (Stt × PV)} {st : List Inst} {i : Nat} : finRV (.slot i) ⟨sl, ln, st⟩ = (sl[i]?).elim .no (finS sl ln st) := by
  show (match sl[i]? with | some (.own false p) => _ | some (.val p) => _ | some (.loan k) => _ | _ => _) = _
  cases sl[i]? with
  | none => rfl
  | some x =>
    cases x with
    | own l p => cases l <;> rfl
    | _ => rfl
theorem finS_own {sl : List Slot} {ln : List (Stt × PV)} {st : List Inst} {p : PV} : finS sl ln st (.own false p) = .ok (.fresh p) ln st := id rfl
theorem finS_val {sl : List Slot} {ln : List (Stt × PV)} {st : List Inst} {p : PV} : finS sl ln st (.val p) = .ok (.val p) ln st := id rfl
theorem rep_0 {α : Type} {x : α} : List.replicate 0 x = [] := id rfl
theorem rep_s {α : Type} {x : α} {n : Nat} : List.replicate (n + 1) x = x :: List.replicate n x := id rfl
theorem app_nil' {α : Type} {l : List α} : [] ++ l = l := id rfl
theorem app_cons' {α : Type} {a : α} {l m : List α} : (a :: l) ++ m = a :: (l ++ m) := id rfl
theorem map_nil' {α β : Type} {f : α → β} : [].map f = [] := id rfl
theorem map_cons' {α β : Type} {a : α} {l : List α} {f : α → β} : (a :: l).map f = f a :: l.map f := id rfl
theorem get_0 {α : Type} {a : α} {l : List α} : (a :: l)[0]? = some a := id rfl
theorem get_s {α : Type} {a : α} {l : List α} {n : Nat} : (a :: l)[n + 1]? = l[n]? := id (by simp)
theorem set_0 {α : Type} {a b : α} {l : List α} : (a :: l).set 0 b = b :: l := id rfl
theorem set_s {α : Type} {a b : α} {l : List α} {n : Nat} : (a :: l).set (n + 1) b = a :: l.set n b := id rfl
theorem take_0 {α : Type} {l : List α} : l.take 0 = [] := id (by simp)
theorem take_s {α : Type} {a : α} {l : List α} {n : Nat} : (a :: l).take (n + 1) = a :: l.take n := id rfl
theorem drop_0 {α : Type} {l : List α} : l.drop 0 = l := id rfl
theorem drop_s {α : Type} {a : α} {l : List α} {n : Nat} : (a :: l).drop (n + 1) = l.drop n := id rfl
theorem bind_some' {α β : Type} {a : α} {f : α → Option β} : (some a).bind f = f a := id rfl
theorem map_some' {α β : Type} {a : α} {f : α → β} : (some a).map f = some (f a) := id rfl
theorem len_nil' {α : Type} : ([] : List α).length = 0 := id rfl
theorem len_cons' {α : Type} {a : α} {l : List α} : (a :: l).length = l.length + 1 := id rfl
end
end
end BL
namespace BL.BLo
noncomputable section
open PySem PySem.Spec PyProof.Rows L2
/-! B, the plain side: weakest preconditions of mirrors; equations for simp only. -/
def WP {α : Type} (x : Res α) (Q : α → Env → Prop) (E : Nat → Env → Prop) : Prop := match x with
  | .ok a r => Q a r
  | .exc c r => E c r
  | .no => False
def E0 : Nat → Env → Prop := fun _ _ => False
def FP (x : FRes) (Q : RV → List (Stt × PV) → List Inst → Prop) (E : Nat → List (Stt × PV) → List Inst → Prop) : Prop := match x with
  | .ok z ln st => Q z ln st
  | .exc c ln st => E c ln st
  | .no => False
def G0 : Nat → List (Stt × PV) → List Inst → Prop := fun _ _ _ => False
def Kp {α : Type} (P : α → Prop) (a : α) : Prop := P a
theorem kp {α : Type} {P : α → Prop} {a : α} (h : P a) : Kp P a := h
def FPk (x : FRes) (Q : RV → List (Stt × PV) → List Inst → Prop) (E : Nat → List (Stt × PV) → List Inst → Prop) : Prop := FP x Q E
def wO {α : Type} (o : Option α) (k : α → Prop) : Prop := match o with
  | some a => k a
  | none => False
def wC (c P : Prop) : Prop := c ∧ P
def wI (b : Bool) (A B : Prop) : Prop := (b = true → A) ∧ (b = false → B)
def wT (b c : Bool) (A B : Prop) : Prop := b = c ∧ (c = true → A) ∧ (c = false → B)
def seqK (f : Fl) (A B : Prop) : Prop := match f with
  | .next => A
  | _ => B
def loopK (f : Fl) (A B : Prop) (C : RV → Prop) : Prop := match f with
  | .next => A
  | .cont => A
  | .brk => B
  | .ret z => C z
section
variable {α β : Type} {Q : α → Env → Prop} {E : Nat → Env → Prop} {r : Env}
theorem wO_some {a : α} {k : α → Prop} : wO (some a) k = k a := id rfl
theorem wO_map {o : Option β} {f : β → α} {k : α → Prop} : wO (o.map f) k = wO o fun b => k (f b) := by cases o <;> rfl
theorem wO_bind {o : Option β} {f : β → Option α} {k : α → Prop} : wO (o.bind f) k = wO o fun b => wO (f b) k := by cases o <;> rfl
theorem wC_of {c P : Prop} (h : c) : wC c P = P := by unfold wC; exact propext ⟨And.right, fun p => ⟨h, p⟩⟩
theorem wC_true {P : Prop} : wC True P = P := wC_of trivial
theorem wI_true {A B : Prop} : wI true A B = A := by unfold wI; simp
theorem wI_false {A B : Prop} : wI false A B = B := by unfold wI; simp
theorem wI_not {b : Bool} {A B : Prop} : wI (!b) A B = wI b B A := by unfold wI; cases b <;> simp
theorem wI_dec {c : Prop} {d : Decidable c} {A B : Prop} (h1 : c → A) (h2 : ¬ c → B) : wI (@decide c d) A B := ⟨fun h => h1 (of_decide_eq_true h), fun h => h2 (of_decide_eq_false h)⟩
theorem wI_pos {c : Prop} {d : Decidable c} {A B : Prop} (h : c) : wI (@decide c d) A B = A := by rw [decide_eq_true h, wI_true]
theorem wI_neg {c : Prop} {d : Decidable c} {A B : Prop} (h : ¬ c) : wI (@decide c d) A B = B := by rw [decide_eq_false h, wI_false]
theorem wT_of {b c : Bool} {A B : Prop} (h : b = c) (h1 : c = true → A) (h2 : c = false → B) : wT b c A B := ⟨h, h1, h2⟩
theorem seqK_next {A B : Prop} : seqK .next A B = A := id rfl
theorem seqK_brk {A B : Prop} : seqK .brk A B = B := id rfl
theorem seqK_cont {A B : Prop} : seqK .cont A B = B := id rfl
theorem seqK_ret {A B : Prop} {z : RV} : seqK (.ret z) A B = B := id rfl
theorem loopK_next {A B : Prop} {C : RV → Prop} : loopK .next A B C = A := id rfl
theorem loopK_cont {A B : Prop} {C : RV → Prop} : loopK .cont A B C = A := id rfl
theorem loopK_brk {A B : Prop} {C : RV → Prop} : loopK .brk A B C = B := id rfl
theorem loopK_ret {A B : Prop} {C : RV → Prop} {z : RV} : loopK (.ret z) A B C = C z := id rfl
theorem wp_ok {a : α} : WP (.ok a r) Q E = Q a r := id rfl
theorem wp_exc {c : Nat} : WP (.exc c r) Q E = E c r := id rfl
theorem wp_mono {x : Res α} {Q' : α → Env → Prop} {E' : Nat → Env → Prop} (h : WP x Q E) (i : ∀ a r, Q a r → Q' a r) (j : ∀ c r, E c r → E' c r) : WP x Q' E' := by
  cases x with
  | ok a r => exact i a r h
  | exc c r => exact j c r h
  | no => exact h
theorem wp_bind {m : M β} {f : β → M α} : WP (M.bind m f r) Q E = WP (m r) (fun a r1 => WP (f a r1) Q E) E := by
  unfold M.bind
  cases m r <;> rfl
theorem wp_pure {a : α} : WP (M.pure a r) Q E = Q a r := id rfl
theorem wp_no : WP (M.no r) Q E = False := id rfl
theorem wp_opt {o : Option α} : WP (M.opt o r) Q E = wO o fun a => Q a r := by
  unfold M.opt
  cases o <;> rfl
end
section
variable {sl : List Slot} {ln : List (Stt × PV)} {st : List Inst} {r : Env} {E : Nat → Env → Prop}
theorem wp_var {i : Nat} {Q : RV → Env → Prop} : WP (mVar i ⟨sl, ln, st⟩) Q E = wO sl[i]? fun x => wO (slV i x) fun z => Q z ⟨sl, ln, st⟩ := by
  unfold mVar
  show WP (match sl[i]? with | some (.val p) => _ | some (.own _ _) => _ | some (.loan k) => _ | _ => _) Q E = _
  cases sl[i]? with
  | none => rfl
  | some x => cases x <;> rfl
theorem wp_val {p : PV} {Q : RV → Env → Prop} : WP (mVal p r) Q E = Q (.val p) r := id rfl
theorem wp_bin {f : PV → PV → Option RV} {a b : M RV} {Q : RV → Env → Prop} : WP (mBin f a b r) Q E = WP (a r) (fun x r1 => WP (b r1) (fun y r2 => WP (look2 f x y r2) Q E) E) E := by
  unfold mBin
  rw [wp_bind]
  simp only [wp_bind]
theorem wp_look2 {f : PV → PV → Option RV} {x y : RV} {Q : RV → Env → Prop} : WP (look2 f x y r) Q E = wO (peek r x) fun p => wO (peek r y) fun q => wO (f p q) fun z => Q z r := by
  unfold look2
  cases peek r x with
  | none => rfl
  | some p =>
    cases peek r y with
    | none => rfl
    | some q =>
      show WP (match f p q with | some z => _ | none => _) Q E = wO (f p q) _
      cases f p q <;> rfl
theorem wp_un {f : PV → Option RV} {a : M RV} {Q : RV → Env → Prop} : WP (mUn f a r) Q E = WP (a r) (fun x r1 => wO (peek r1 x) fun p => wO (f p) fun z => Q z r1) E := by
  unfold mUn
  rw [wp_bind]
  congr
  funext x r1
  unfold look1
  cases peek r1 x with
  | none => rfl
  | some p =>
    show WP (match f p with | some z => _ | none => _) Q E = wO (f p) _
    cases f p <;> rfl
theorem wp_tst {f : PV → PV → Option Bool} {a b : M RV} {Q : Bool → Env → Prop} : WP (mTst f a b r) Q E = WP (a r) (fun x r1 => WP (b r1) (fun y r2 => wO (peek r2 x) fun p => wO (peek r2 y) fun q => wO (f p q) fun z => Q z r2) E) E := by
  unfold mTst
  rw [wp_bind]
  simp only [wp_bind]
  congr
  funext x r1
  congr
  funext y r2
  cases peek r2 x with
  | none => rfl
  | some p =>
    cases peek r2 y with
    | none => rfl
    | some q =>
      show WP (match f p q with | some z => _ | none => _) Q E = wO (f p q) _
      cases f p q <;> rfl
theorem wp_chain {f g : PV → PV → Option Bool} {a b c : M RV} {Q : Bool → Env → Prop} : WP (mChain f g a b c r) Q E = WP (a r) (fun x r1 => WP (b r1) (fun y r2 => wO (peek r2 x) fun p => wO (peek r2 y) fun q => wO (f p q) fun t =>
    wI t (WP (c r2) (fun z r3 => wO (peek r3 y) fun p => wO (peek r3 z) fun q => wO (g p q) fun u => Q u r3) E) (Q false r2)) E) E := by
  unfold mChain
  rw [wp_bind]
  simp only [wp_bind]
  congr
  funext x r1
  congr
  funext y r2
  cases peek r2 x with
  | none => rfl
  | some p =>
    cases peek r2 y with
    | none => rfl
    | some q =>
      show WP (match f p q with | some true => _ | some false => _ | none => _) Q E = wO (f p q) _
      cases f p q with
      | none => rfl
      | some t =>
        cases t with
        | false =>
          rw [wO_some, wI_false]
          rfl
        | true =>
          rw [wO_some, wI_true]
          show WP (M.bind c _ r2) Q E = _
          rw [wp_bind]
          congr
          funext z r3
          cases peek r3 y with
          | none => rfl
          | some p =>
            cases peek r3 z with
            | none => rfl
            | some q =>
              show WP (match g p q with | some z => _ | none => _) Q E = wO (g p q) _
              cases g p q <;> rfl
theorem wp_boolV {m : M Bool} {Q : RV → Env → Prop} : WP (mBoolV m r) Q E = WP (m r) (fun b r1 => Q (.val (.bl b)) r1) E := by
  unfold mBoolV
  rw [wp_bind]
  rfl
theorem wp_truth {m : M RV} {Q : Bool → Env → Prop} : WP (mTruth m r) Q E = WP (m r) (fun x r1 => wO (peek r1 x) fun p => wO (blOf p) fun b => Q b r1) E := by
  unfold mTruth
  rw [wp_bind]
  congr
  funext x r1
  cases peek r1 x with
  | none => rfl
  | some p => cases p <;> rfl
theorem wp_notT {m : M Bool} {Q : Bool → Env → Prop} : WP (mNotT m r) Q E = WP (m r) (fun b r1 => Q (!b) r1) E := by
  unfold mNotT
  rw [wp_bind]
  rfl
theorem wp_ite {α : Type} {b : Bool} {m n : M α} {Q : α → Env → Prop} : WP ((if b = true then m else n) r) Q E = wI b (WP (m r) Q E) (WP (n r) Q E) := by
  cases b with
  | true => rw [wI_true, if_pos rfl]
  | false => rw [wI_false, if_neg Bool.false_ne_true]
theorem wp_andT {m n : M Bool} {Q : Bool → Env → Prop} : WP (mAndT m n r) Q E = WP (m r) (fun b r1 => wI b (WP (n r1) Q E) (Q false r1)) E := by
  unfold mAndT
  rw [wp_bind]
  simp only [wp_ite, wp_pure]
theorem wp_orT {m n : M Bool} {Q : Bool → Env → Prop} : WP (mOrT m n r) Q E = WP (m r) (fun b r1 => wI b (Q true r1) (WP (n r1) Q E)) E := by
  unfold mOrT
  rw [wp_bind]
  simp only [wp_ite, wp_pure]
theorem wp_andV {m n : M RV} {Q : RV → Env → Prop} : WP (mAndV m n r) Q E = WP (mTruth m r) (fun b r1 => wI b (WP (n r1) Q E) (Q (.val (.bl false)) r1)) E := by
  unfold mAndV
  rw [wp_bind]
  simp only [wp_ite, wp_pure]
theorem wp_orV {m n : M RV} {Q : RV → Env → Prop} : WP (mOrV m n r) Q E = WP (mTruth m r) (fun b r1 => wI b (Q (.val (.bl true)) r1) (WP (n r1) Q E)) E := by
  unfold mOrV
  rw [wp_bind]
  simp only [wp_ite, wp_pure]
theorem wp_notV {m : M RV} {Q : RV → Env → Prop} : WP (mNotV m r) Q E = WP (mTruth m r) (fun b r1 => Q (.val (.bl (!b))) r1) E := by
  unfold mNotV
  rw [wp_bind]
  rfl
theorem wp_if {t : M Bool} {m n : M RV} {Q : RV → Env → Prop} : WP (mIf t m n r) Q E = WP (t r) (fun b r1 => wI b (WP (m r1) Q E) (WP (n r1) Q E)) E := by
  unfold mIf
  rw [wp_bind]
  simp only [wp_ite]
theorem wp_frz {m : M RV} {Q : RV → Env → Prop} : WP (mFrz m r) Q E = WP (m r) (fun z r1 => WP (frzM z r1) Q E) E := by
  unfold mFrz
  rw [wp_bind]
theorem wp_frzM_val {p : PV} {Q : RV → Env → Prop} : WP (frzM (.val p) r) Q E = Q (.val p) r := id rfl
theorem wp_frzM_fresh {p : PV} {Q : RV → Env → Prop} : WP (frzM (.fresh p) r) Q E = Q (.val p) r := id rfl
theorem wp_frzM_loan {k : Nat} {Q : RV → Env → Prop} : WP (frzM (.loan k) r) Q E = WP (frzLn k r) Q E := id rfl
def frzK (sl : List Slot) (ln : List (Stt × PV)) (st : List Inst) (E : Nat → Env → Prop) (i : Nat) (Q : RV → Env → Prop) : Slot → Prop
  | .val p => Q (.val p) ⟨sl, ln, st⟩
  | .own false p => Q (.val p) ⟨sl.set i (.val p), ln, st⟩
  | .loan k => WP (frzLn k ⟨sl, ln, st⟩) Q E
  | _ => False
theorem frzK_val {i : Nat} {Q : RV → Env → Prop} {p : PV} : frzK sl ln st E i Q (.val p) = Q (.val p) ⟨sl, ln, st⟩ := id rfl
theorem frzK_own {i : Nat} {Q : RV → Env → Prop} {p : PV} : frzK sl ln st E i Q (.own false p) = Q (.val p) ⟨sl.set i (.val p), ln, st⟩ := id rfl
theorem frzK_loan {i k : Nat} {Q : RV → Env → Prop} : frzK sl ln st E i Q (.loan k) = WP (frzLn k ⟨sl, ln, st⟩) Q E := id rfl
theorem wp_frzM_slot {i : Nat} {Q : RV → Env → Prop} : WP (frzM (.slot i) ⟨sl, ln, st⟩) Q E = wO sl[i]? fun x => frzK sl ln st E i Q x := by
  unfold frzM
  show WP (match sl[i]? with | some (.val p) => _ | some (.own false p) => _ | some (.loan k) => _ | _ => _) Q E = _
  cases sl[i]? with
  | none => rfl
  | some x =>
    cases x with
    | own l p => cases l <;> rfl
    | _ => rfl
def frzLK (sl : List Slot) (ln : List (Stt × PV)) (st : List Inst) (k : Nat) (Q : RV → Env → Prop) : Stt × PV → Prop
  | (.froz, p) => Q (.val p) ⟨sl, ln, st⟩
  | (.live, p) => Q (.val p) ⟨sl, ln.set k (.froz, p), st⟩
  | _ => False
theorem frzLK_froz {k : Nat} {Q : RV → Env → Prop} {p : PV} : frzLK sl ln st k Q (.froz, p) = Q (.val p) ⟨sl, ln, st⟩ := id rfl
theorem frzLK_live {k : Nat} {Q : RV → Env → Prop} {p : PV} : frzLK sl ln st k Q (.live, p) = Q (.val p) ⟨sl, ln.set k (.froz, p), st⟩ := id rfl
theorem wp_frzLn {k : Nat} {Q : RV → Env → Prop} : WP (frzLn k ⟨sl, ln, st⟩) Q E = wO ln[k]? fun x => frzLK sl ln st k Q x := by
  unfold frzLn
  show WP (match ln[k]? with | some (.froz, p) => _ | some (.live, p) => _ | _ => _) Q E = _
  cases ln[k]? with
  | none => rfl
  | some x =>
    obtain ⟨t, p⟩ := x
    cases t <;> rfl
theorem wp_nilA {Q : List RV → Env → Prop} : WP (mNilA r) Q E = Q [] r := id rfl
theorem wp_consA {m : M RV} {ms : M (List RV)} {Q : List RV → Env → Prop} : WP (mConsA m ms r) Q E = WP (m r) (fun x r1 => WP (ms r1) (fun xs r2 => Q (x :: xs) r2) E) E := by
  unfold mConsA
  rw [wp_bind]
  simp only [wp_bind]
  rfl
theorem wp_tup {ms : M (List RV)} {Q : RV → Env → Prop} : WP (mTup ms r) Q E = WP (ms r) (fun rs r1 => wO (valsOf rs) fun ps => wC (ps.length ≤ 16777216) (Q (.val (.tup ps)) r1)) E := by
  unfold mTup
  rw [wp_bind]
  congr
  funext rs r1
  rw [wp_opt, wO_bind]
  congr
  funext ps
  by_cases h : ps.length ≤ lim
  · rw [if_pos h, wO_some, wC_of (show ps.length ≤ 16777216 from h)]
  · rw [if_neg h]
    unfold wC wO
    exact propext ⟨fun z => z.elim, fun z => h z.1⟩
theorem wp_lst {ms : M (List RV)} {Q : RV → Env → Prop} : WP (mLst ms r) Q E = WP (ms r) (fun rs r1 => wO (valsOf rs) fun ps => wC (ps.length ≤ 16777216) (Q (.fresh (.lst ps)) r1)) E := by
  unfold mLst
  rw [wp_bind]
  congr
  funext rs r1
  rw [wp_opt, wO_bind]
  congr
  funext ps
  by_cases h : ps.length ≤ lim
  · rw [if_pos h, wO_some, wC_of (show ps.length ≤ 16777216 from h)]
  · rw [if_neg h]
    unfold wC wO
    exact propext ⟨fun z => z.elim, fun z => h z.1⟩
theorem wp_blt {f : List PV → Option RV} {ms : M (List RV)} {Q : RV → Env → Prop} : WP (mBlt f ms r) Q E = WP (ms r) (fun rs r1 => wO (peeks r1 rs) fun ps => wO (f ps) fun z => Q z r1) E := by
  unfold mBlt
  rw [wp_bind]
  congr
  funext rs r1
  unfold lookN
  cases peeks r1 rs with
  | none => rfl
  | some ps =>
    show WP (match f ps with | some z => _ | none => _) Q E = wO (f ps) _
    cases f ps <;> rfl
theorem wp_call {F : Fn} {ms : M (List RV)} {Q : RV → Env → Prop} : WP (mCall F ms r) Q E = WP (ms r) (fun rs r1 => WP (callV F rs r1) Q E) E := by
  unfold mCall
  rw [wp_bind]
theorem wp_callV {F : Fn} {rs : List RV} {Q : RV → Env → Prop} : WP (callV F rs ⟨sl, ln, st⟩) Q E = wO (valsOf rs) fun ps => FP (F (ps.map .val) st) (fun z _ st' => Q z ⟨sl, ln, st'⟩) (fun c _ st' => E c ⟨sl, ln, st'⟩) := by
  unfold callV
  cases valsOf rs with
  | none => rfl
  | some ps =>
    show WP (match F (ps.map .val) st with | .ok z _ st => _ | .exc c _ st => _ | .no => _) Q E = FP (F (ps.map .val) st) _ _
    cases F (ps.map .val) st <;> rfl
theorem wp_callL {F : Fn} {j : Nat} {ms : M (List RV)} {Q : RV → Env → Prop} : WP (mCallL F j ms r) Q E = WP (ms r) (fun rs r1 => WP (callL F j rs r1) Q E) E := by
  unfold mCallL
  rw [wp_bind]
theorem wp_callLn {F : Fn} {j : Nat} {rs : List RV} {Q : RV → Env → Prop} : WP (callL F j rs r) Q E = wO rs[j]? fun z => wO (valsOf (rs.take j)) fun ps => wO (valsOf (rs.drop (j + 1))) fun qs => wO (loanOf r z) fun x =>
    FP (F (ps.map .val ++ .loan x.1 x.2.1 :: qs.map .val) r.st) (fun y ln st => wO (one1 ln) fun t => Q y (putB { r with st := st } t.1 t.2 x.2.2)) (fun c ln st => wO (one1 ln) fun t => E c (putB { r with st := st } t.1 t.2 x.2.2)) := by
  unfold callL
  cases rs[j]? with
  | none => rfl
  | some z =>
    cases valsOf (rs.take j) with
    | none => rfl
    | some ps =>
      cases valsOf (rs.drop (j + 1)) with
      | none => rfl
      | some qs =>
        show WP (match loanOf r z with | some (t, p, h) => _ | none => _) Q E = wO (loanOf r z) _
        cases loanOf r z with
        | none => rfl
        | some x =>
          obtain ⟨t, p, h⟩ := x
          show WP (match F (ps.map .val ++ .loan t p :: qs.map .val) r.st with | .ok y [(t', p')] st => _ | .exc c [(t', p')] st => _ | _ => _) Q E = FP (F (ps.map .val ++ .loan t p :: qs.map .val) r.st) _ _
          cases F (ps.map .val ++ .loan t p :: qs.map .val) r.st with
          | no => rfl
          | ok y ln st =>
            match ln with
            | [] => rfl
            | [t] => rfl
            | _ :: _ :: _ => rfl
          | exc y ln st =>
            match ln with
            | [] => rfl
            | [t] => rfl
            | _ :: _ :: _ => rfl
/-! methods -/
def mutL (sl : List Slot) (ln : List (Stt × PV)) (st : List Inst) (k : Nat) (p : PV) (Q : Env → Prop) : Stt × PV → Prop
  | (.live, _) => Q ⟨sl, ln.set k (.live, p), st⟩
  | _ => False
def mutK (sl : List Slot) (ln : List (Stt × PV)) (st : List Inst) (i : Nat) (p : PV) (Q : Env → Prop) : Slot → Prop
  | .own false _ => Q ⟨sl.set i (.own false p), ln, st⟩
  | .loan k => wO (ln[k]?) fun x => mutL sl ln st k p Q x
  | _ => False
def mutP (r : Env) (o : RV) (p : PV) (Q : Env → Prop) : Prop := match mutM o p r with
  | .ok _ r' => Q r'
  | _ => False
theorem mutP_fresh {p q : PV} {Q : Env → Prop} : mutP r (.fresh p) q Q = Q r := id rfl
theorem mutK_own {i : Nat} {p q : PV} {Q : Env → Prop} : mutK sl ln st i p Q (.own false q) = Q ⟨sl.set i (.own false p), ln, st⟩ := id rfl
theorem mutL_live {k : Nat} {p q : PV} {Q : Env → Prop} : mutL sl ln st k p Q (.live, q) = Q ⟨sl, ln.set k (.live, p), st⟩ := id rfl
theorem mutK_loan {i k : Nat} {p : PV} {Q : Env → Prop} : mutK sl ln st i p Q (.loan k) = wO ln[k]? fun x => mutL sl ln st k p Q x := id rfl
theorem mutP_loan {k : Nat} {p : PV} {Q : Env → Prop} : mutP ⟨sl, ln, st⟩ (.loan k) p Q = wO ln[k]? fun x => mutL sl ln st k p Q x := by
  show (match mutLn k p ⟨sl, ln, st⟩ with | .ok _ r' => Q r' | _ => False) = _
  unfold mutLn
  show (match (match ln[k]? with | some (.live, _) => Res.ok () _ | _ => Res.no) with | .ok _ r' => Q r' | _ => False) = _
  cases ln[k]? with
  | none => rfl
  | some x =>
    obtain ⟨t, q⟩ := x
    cases t <;> rfl
theorem mutP_slot {i : Nat} {p : PV} {Q : Env → Prop} : mutP ⟨sl, ln, st⟩ (.slot i) p Q = wO sl[i]? fun x => mutK sl ln st i p Q x := by
  unfold mutP mutM
  show (match (match sl[i]? with | some (.own false _) => Res.ok () _ | some (.loan k) => _ | _ => Res.no) with | .ok _ r' => Q r' | _ => False) = _
  cases sl[i]? with
  | none => rfl
  | some x =>
    cases x with
    | own l p => cases l <;> rfl
    | loan k => exact (mutP_loan (k := k) (p := p) (Q := Q)).trans (mutK_loan (i := i) (Q := Q)).symm
    | _ => rfl
theorem wp_methT {T : String} {g : RV → List RV → M RV} {o : M RV} {ms : M (List RV)} {Q : RV → Env → Prop} : WP (mMethT T g o ms r) Q E = WP (o r) (fun x r1 => wO (peek r1 x) fun p => wC (tyP p = some T) (WP (ms r1) (fun rs r2 => WP (g x rs r2) Q E) E)) E := by
  unfold mMethT
  rw [wp_bind]
  congr
  funext x r1
  cases peek r1 x with
  | none => rfl
  | some p =>
    show WP (if tyP p = some T then _ else _) Q E = wC _ _
    by_cases h : tyP p = some T
    · rw [if_pos h, wC_of h, wp_bind]
    · rw [if_neg h]
      unfold wC
      exact propext ⟨fun z => z.elim, fun z => h z.1⟩
theorem wp_mutO {f : PV → List PV → Option (PV × PV)} {o : RV} {rs : List RV} {Q : RV → Env → Prop} : WP (mutO f o rs r) Q E = wO (peek r o) fun p => wO (peeks r rs) fun ps => wO (f p ps) fun x => mutP r o x.1 fun r' => Q (.val x.2) r' := by
  unfold mutO
  cases peek r o with
  | none => rfl
  | some p =>
    cases peeks r rs with
    | none => rfl
    | some ps =>
      show WP (match f p ps with | some (q, z) => _ | none => _) Q E = wO (f p ps) _
      cases f p ps with
      | none => rfl
      | some x =>
        obtain ⟨q, z⟩ := x
        rw [wO_some]
        unfold mutP
        dsimp only
        cases mutM o q r <;> rfl
theorem wp_mutV {f : PV → List PV → Option (PV × PV)} {o : RV} {rs : List RV} {Q : RV → Env → Prop} : WP (mutV f o rs r) Q E = wO (peek r o) fun p => wO (valsOf rs) fun ps => wO (f p ps) fun x => mutP r o x.1 fun r' => Q (.val x.2) r' := by
  unfold mutV
  cases peek r o with
  | none => rfl
  | some p =>
    cases valsOf rs with
    | none => rfl
    | some ps =>
      show WP (match f p ps with | some (q, z) => _ | none => _) Q E = wO (f p ps) _
      cases f p ps with
      | none => rfl
      | some x =>
        obtain ⟨q, z⟩ := x
        rw [wO_some]
        unfold mutP
        dsimp only
        cases mutM o q r <;> rfl
theorem wp_see {f : PV → List PV → Option RV} {o : RV} {rs : List RV} {Q : RV → Env → Prop} : WP (seeM f o rs r) Q E = wO (peek r o) fun p => wO (peeks r rs) fun ps => wO (f p ps) fun z => Q z r := by
  unfold seeM
  cases peek r o with
  | none => rfl
  | some p =>
    cases peeks r rs with
    | none => rfl
    | some ps =>
      show WP (match f p ps with | some z => _ | none => _) Q E = wO (f p ps) _
      cases f p ps <;> rfl
/-! statements -/
theorem wp_seq {m n : M Fl} {Q : Fl → Env → Prop} : WP (mSeq m n r) Q E = WP (m r) (fun f r1 => seqK f (WP (n r1) Q E) (Q f r1)) E := by
  unfold mSeq
  rw [wp_bind]
  congr
  funext f r1
  cases f <;> rfl
theorem wp_next {m : M RV} {Q : Fl → Env → Prop} : WP (mNext m r) Q E = WP (m r) (fun _ r1 => Q .next r1) E := by
  unfold mNext
  rw [wp_bind]
  rfl
theorem wp_ret {m : M RV} {Q : Fl → Env → Prop} : WP (mRet m r) Q E = WP (m r) (fun z r1 => Q (.ret z) r1) E := by
  unfold mRet
  rw [wp_bind]
  rfl
theorem wp_ifS {t : M Bool} {m n : M Fl} {Q : Fl → Env → Prop} : WP (mIfS t m n r) Q E = WP (t r) (fun b r1 => wI b (WP (m r1) Q E) (WP (n r1) Q E)) E := by
  unfold mIfS
  rw [wp_bind]
  simp only [wp_ite]
theorem wp_set {i : Nat} {m : M RV} {Q : Fl → Env → Prop} : WP (mSet i m r) Q E = WP (m r) (fun z r1 => WP (storeM i z r1) (fun _ r2 => Q .next r2) E) E := by
  unfold mSet
  rw [wp_bind]
  simp only [wp_bind]
  rfl
theorem wp_store_val {i : Nat} {p : PV} {Q : Unit → Env → Prop} : WP (storeM i (.val p) ⟨sl, ln, st⟩) Q E = Q () ⟨sl.set i (.val p), ln, st⟩ := id rfl
theorem wp_store_fresh {i : Nat} {p : PV} {Q : Unit → Env → Prop} : WP (storeM i (.fresh p) ⟨sl, ln, st⟩) Q E = Q () ⟨sl.set i (.own false p), ln, st⟩ := id rfl
theorem wp_store_loan {i k : Nat} {Q : Unit → Env → Prop} : WP (storeM i (.loan k) ⟨sl, ln, st⟩) Q E = Q () ⟨sl.set i (.loan k), ln, st⟩ := id rfl
def stoK (i : Nat) (Q : Unit → Env → Prop) : RV → Env → Prop
  | .val p, ⟨sl, ln, st⟩ => Q () ⟨sl.set i (.val p), ln, st⟩
  | _, _ => False
theorem stoK_val {i : Nat} {p : PV} {Q : Unit → Env → Prop} : stoK i Q (.val p) ⟨sl, ln, st⟩ = Q () ⟨sl.set i (.val p), ln, st⟩ := id rfl
theorem wp_store_slot {i j : Nat} {Q : Unit → Env → Prop} : WP (storeM i (.slot j) r) Q E = WP (frzM (.slot j) r) (stoK i Q) E0 := by
  show WP (match frzM (.slot j) r with | .ok (.val p) r' => _ | _ => _) Q E = _
  cases frzM (.slot j) r with
  | ok z r1 => cases z <;> rfl
  | exc c r1 => rfl
  | no => rfl
theorem wp_aug {f : PV → PV → Option RV} {i : Nat} {m : M RV} {Q : Fl → Env → Prop} : WP (mAug f i m r) Q E = WP (mSet i (mBin f (mVar i) m) r) Q E := id rfl
def setK (f : PV → PV → PV → Option PV) (r : Env) (o i : RV) (Q : Env → Prop) : RV → Prop
  | .val y => wO (peek r o) fun p => wO (peek r i) fun q => wO (f p q y) fun p' => mutP r o p' Q
  | _ => False
theorem setK_val {f : PV → PV → PV → Option PV} {o i : RV} {Q : Env → Prop} {y : PV} : setK f r o i Q (.val y) = wO (peek r o) fun p => wO (peek r i) fun q => wO (f p q y) fun p' => mutP r o p' Q := id rfl
theorem wp_setIx {f : PV → PV → PV → Option PV} {mv mo mi : M RV} {Q : Fl → Env → Prop} : WP (mSetIx f mv mo mi r) Q E = WP (mFrz mv r) (fun v r1 => WP (mo r1) (fun o r2 => WP (mi r2) (fun i r3 => setK f r3 o i (fun r4 => Q .next r4) v) E) E) E := by
  unfold mSetIx
  rw [wp_bind]
  simp only [wp_bind]
  congr
  funext v r1
  congr
  funext o r2
  congr
  funext i r3
  unfold setM
  cases v with
  | val y =>
    rw [setK_val]
    cases peek r3 o with
    | none => rfl
    | some p =>
      cases peek r3 i with
      | none => rfl
      | some q =>
        show WP (match f p q y with | some p' => _ | none => _) Q E = wO (f p q y) _
        cases f p q y with
        | none => rfl
        | some p' =>
          rw [wO_some]
          unfold mutP
          dsimp only
          cases mutM o p' r3 <;> rfl
  | _ => rfl
def parK (i j : Nat) (r : Env) (E : Nat → Env → Prop) (Q : Env → Prop) : List RV → Prop
  | [x, y] => wC (isSlot x = false ∧ isSlot y = false) (WP (storeM i x r) (fun _ r1 => WP (storeM j y r1) (fun _ r2 => Q r2) E) E)
  | _ => False
theorem parK_2 {i j : Nat} {Q : Env → Prop} {x y : RV} : parK i j r E Q [x, y] = wC (isSlot x = false ∧ isSlot y = false) (WP (storeM i x r) (fun _ r1 => WP (storeM j y r1) (fun _ r2 => Q r2) E) E) := id rfl
theorem wp_par {i j : Nat} {ms : M (List RV)} {Q : Fl → Env → Prop} : WP (mPar i j ms r) Q E = WP (ms r) (fun rs r1 => parK i j r1 E (fun r2 => Q .next r2) rs) E := by
  unfold mPar
  rw [wp_bind]
  congr
  funext rs r1
  match rs with
  | [] => rfl
  | [_] => rfl
  | [x, y] =>
    rw [parK_2]
    show WP ((if isSlot x = true ∨ isSlot y = true then M.no else _) r1) Q E = _
    by_cases h : isSlot x = true ∨ isSlot y = true
    · rw [if_pos h]
      unfold wC
      refine propext ⟨fun z => z.elim, fun z => ?_⟩
      rw [z.1.1, z.1.2] at h
      simp at h
    · rw [if_neg h, wC_of (by simpa using h), wp_bind]
      simp only [wp_bind, wp_pure]
  | _ :: _ :: _ :: _ => rfl
def parK3 (i j l : Nat) (r : Env) (E : Nat → Env → Prop) (Q : Env → Prop) : List RV → Prop
  | [x, y, z] => wC (isSlot x = false ∧ isSlot y = false ∧ isSlot z = false) (WP (storeM i x r) (fun _ r1 => WP (storeM j y r1) (fun _ r2 => WP (storeM l z r2) (fun _ r3 => Q r3) E) E) E)
  | _ => False
theorem parK3_3 {i j l : Nat} {Q : Env → Prop} {x y z : RV} : parK3 i j l r E Q [x, y, z] = wC (isSlot x = false ∧ isSlot y = false ∧ isSlot z = false) (WP (storeM i x r) (fun _ r1 => WP (storeM j y r1) (fun _ r2 => WP (storeM l z r2) (fun _ r3 => Q r3) E) E) E) := id rfl
theorem wp_par3 {i j l : Nat} {ms : M (List RV)} {Q : Fl → Env → Prop} : WP (mPar3 i j l ms r) Q E = WP (ms r) (fun rs r1 => parK3 i j l r1 E (fun r2 => Q .next r2) rs) E := by
  unfold mPar3
  rw [wp_bind]
  congr
  funext rs r1
  match rs with
  | [] => rfl
  | [_] => rfl
  | [_, _] => rfl
  | [x, y, z] =>
    rw [parK3_3]
    show WP ((if isSlot x = true ∨ isSlot y = true ∨ isSlot z = true then M.no else _) r1) Q E = _
    by_cases h : isSlot x = true ∨ isSlot y = true ∨ isSlot z = true
    · rw [if_pos h]
      unfold wC
      refine propext ⟨fun z => z.elim, fun z => ?_⟩
      rw [z.1.1, z.1.2.1, z.1.2.2] at h
      simp at h
    · rw [if_neg h, wC_of (by simpa using h), wp_bind]
      simp only [wp_bind, wp_pure]
  | _ :: _ :: _ :: _ :: _ => rfl
def tgK (t : PV → M Unit) (r : Env) (Q : Env → Prop) : RV → Prop
  | .val p => WP (t p r) (fun _ r1 => Q r1) E0
  | _ => False
theorem tgK_val {t : PV → M Unit} {Q : Env → Prop} {p : PV} : tgK t r Q (.val p) = WP (t p r) (fun _ r1 => Q r1) E0 := id rfl
theorem wp_setT {t : PV → M Unit} {m : M RV} {Q : Fl → Env → Prop} : WP (mSetT t m r) Q E = WP (mFrz m r) (fun z r1 => tgK t r1 (fun r2 => Q .next r2) z) E := by
  unfold mSetT
  rw [wp_bind]
  congr
  funext z r1
  cases z with
  | val p =>
    rw [tgK_val]
    dsimp only
    cases t p r1 <;> rfl
  | _ => rfl
theorem wp_tgN {i : Nat} {p : PV} {Q : Unit → Env → Prop} : WP (tgN i p ⟨sl, ln, st⟩) Q E = Q () ⟨sl.set i (.val p), ln, st⟩ := id rfl
theorem wp_tgT2 {i j : Nat} {p q : PV} {Q : Unit → Env → Prop} : WP (tgT [i, j] (.tup [p, q]) ⟨sl, ln, st⟩) Q E = Q () ⟨(sl.set i (.val p)).set j (.val q), ln, st⟩ := id rfl
theorem wp_tgT3 {i j k : Nat} {p q z : PV} {Q : Unit → Env → Prop} : WP (tgT [i, j, k] (.tup [p, q, z]) ⟨sl, ln, st⟩) Q E = Q () ⟨((sl.set i (.val p)).set j (.val q)).set k (.val z), ln, st⟩ := id rfl
/-! what is walked -/
theorem wp_itSeq {m : M RV} {Q : ItD → Env → Prop} : WP (itSeq m r) Q E = WP (m r) (fun x r1 => wO (peek r1 x) fun p => wO (seqOf p) fun xs => Q ⟨xs, lockOf r1 x⟩ r1) E := by
  unfold itSeq
  rw [wp_bind]
  congr
  funext x r1
  cases peek r1 x with
  | none => rfl
  | some p =>
    show WP (match seqOf p with | some xs => _ | none => _) Q E = wO (seqOf p) _
    cases seqOf p <;> rfl
theorem wp_itEnum {m : M RV} {Q : ItD → Env → Prop} : WP (itEnum m r) Q E = WP (m r) (fun x r1 => wO (peek r1 x) fun p => wO (seqOf p) fun xs => Q ⟨enumP 0 xs, lockOf r1 x⟩ r1) E := by
  unfold itEnum
  rw [wp_bind]
  congr
  funext x r1
  cases peek r1 x with
  | none => rfl
  | some p =>
    show WP (match seqOf p with | some xs => _ | none => _) Q E = wO (seqOf p) _
    cases seqOf p <;> rfl
theorem wp_itRev {m : M RV} {Q : ItD → Env → Prop} : WP (itRev m r) Q E = WP (m r) (fun x r1 => wO (peek r1 x) fun p => wO (seqOf p) fun xs => Q ⟨xs.reverse, lockOf r1 x⟩ r1) E := by
  unfold itRev
  rw [wp_bind]
  congr
  funext x r1
  cases peek r1 x with
  | none => rfl
  | some p =>
    show WP (match seqOf p with | some xs => _ | none => _) Q E = wO (seqOf p) _
    cases seqOf p <;> rfl
theorem wp_itRng {f : List PV → Option (List PV)} {ms : M (List RV)} {Q : ItD → Env → Prop} : WP (itRng f ms r) Q E = WP (ms r) (fun rs r1 => wO (peeks r1 rs) fun ps => wO (f ps) fun xs => Q ⟨xs, []⟩ r1) E := by
  unfold itRng
  rw [wp_bind]
  congr
  funext rs r1
  cases peeks r1 rs with
  | none => rfl
  | some ps =>
    show WP (match f ps with | some xs => _ | none => _) Q E = wO (f ps) _
    cases f ps <;> rfl
theorem wp_itZip {m n : M RV} {Q : ItD → Env → Prop} : WP (itZip m n r) Q E = WP (m r) (fun x r1 => WP (n r1) (fun y r2 => wO (peek r2 x) fun p => wO (peek r2 y) fun q => wO (seqOf p) fun xs => wO (seqOf q) fun ys => wC (isL p = isL q) (Q ⟨zipP xs ys, lockOf r2 x ++ lockOf r2 y⟩ r2)) E) E := by
  unfold itZip
  rw [wp_bind]
  simp only [wp_bind]
  congr
  funext x r1
  congr
  funext y r2
  cases peek r2 x with
  | none => rfl
  | some p =>
    cases peek r2 y with
    | none => rfl
    | some q =>
      show WP (match seqOf p, seqOf q with | some xs, some ys => _ | _, _ => _) Q E = wO (seqOf p) _
      cases seqOf p with
      | none => rfl
      | some xs =>
        cases seqOf q with
        | none => rfl
        | some ys =>
          show WP (if isL p = isL q then _ else _) Q E = wC _ _
          by_cases h : isL p = isL q
          · rw [if_pos h, wC_of h]
            rfl
          · rw [if_neg h]
            unfold wC
            exact propext ⟨fun z => z.elim, fun z => h z.1⟩
theorem wp_unl {α : Type} {lk : List Hold} {x : Res α} {Q : α → Env → Prop} : WP (unlR lk x) Q E = WP x (fun a r1 => Q a (unlE lk r1)) (fun c r1 => E c (unlE lk r1)) := by cases x <;> rfl
theorem wp_for {it : M ItD} {tg : PV → M Unit} {body : M Fl} {Q : Fl → Env → Prop} : WP (mFor it tg body r) Q E = WP (it r) (fun d r1 => WP (BL.forM tg body d.items (lockE d.lk r1)) (fun f r2 => Q f (unlE d.lk r2)) (fun c r2 => E c (unlE d.lk r2))) E := by
  unfold mFor
  rw [wp_bind]
  congr
  funext d r1
  unfold loopM
  rw [wp_unl]
theorem wp_sl {f : PV → Option Int → Option Int → Option RV} {m : M RV} {lo hi : M (Option Int)} {Q : RV → Env → Prop} : WP (mSl f m lo hi r) Q E = WP (m r) (fun x r1 => WP (lo r1) (fun l r2 => WP (hi r2) (fun u r3 => wO (peek r3 x) fun p => wO (f p l u) fun z => Q z r3) E) E) E := by
  unfold mSl
  rw [wp_bind]
  simp only [wp_bind]
  congr
  funext x r1
  congr
  funext l r2
  congr
  funext u r3
  cases peek r3 x with
  | none => rfl
  | some p =>
    show WP (match f p l u with | some z => _ | none => _) Q E = wO (f p l u) _
    cases f p l u <;> rfl
theorem wp_noPart {Q : Option Int → Env → Prop} : WP (mNoPart r) Q E = Q none r := id rfl
theorem wp_part {m : M RV} {Q : Option Int → Env → Prop} : WP (mPart m r) Q E = WP (m r) (fun x r1 => wO (peek r1 x) fun p => wO (intOf p) fun i => Q (some i) r1) E := by
  unfold mPart
  rw [wp_bind]
  congr
  funext x r1
  cases peek r1 x with
  | none => rfl
  | some p => cases p <;> rfl
theorem wp_lc {it : M ItD} {vs : List Nat} {tg : PV → M Unit} {tt : M Bool} {te : M RV} {Q : RV → Env → Prop} : WP (mLc it vs tg tt te r) Q E = WP (it r) (fun d r1 => wC (plainSl vs (lockE d.lk r1) = true) (WP (compM vs tg tt te d.items [] (wipeE vs (lockE d.lk r1))) (fun xs r2 => Q (.fresh (.lst xs)) (unlE d.lk (restE vs (lockE d.lk r1) r2))) E0)) E := by
  unfold mLc
  rw [wp_bind]
  congr
  funext d r1
  show WP (if plainSl vs (lockE d.lk r1) = true then _ else _) Q E = _
  by_cases h : plainSl vs (lockE d.lk r1) = true
  · rw [if_pos h, wC_of h]
    cases compM vs tg tt te d.items [] (wipeE vs (lockE d.lk r1)) <;> rfl
  · rw [if_neg h]
    unfold wC
    exact propext ⟨fun z => z.elim, fun z => h z.1⟩
theorem wp_isT {T : String} {m : M RV} {Q : RV → Env → Prop} : WP (mIsT T m r) Q E = WP (m r) (fun x r1 => wO (peek r1 x) fun p => wO (isB T p) fun b => Q (.val (.bl b)) r1) E := by
  unfold mIsT
  rw [wp_un]
  simp only [wO_map]
end
section
variable {Q : RV → List (Stt × PV) → List Inst → Prop} {E : Nat → List (Stt × PV) → List Inst → Prop}
theorem fp_ok {z : RV} {ln : List (Stt × PV)} {st : List Inst} : FP (.ok z ln st) Q E = Q z ln st := id rfl
theorem fpk_ok {z : RV} {ln : List (Stt × PV)} {st : List Inst} : FPk (.ok z ln st) Q E = Kp (fun t : RV × List (Stt × PV) × List Inst => Q t.1 t.2.1 t.2.2) (z, ln, st) := id rfl
theorem fp_exc {c : Nat} {ln : List (Stt × PV)} {st : List Inst} : FP (.exc c ln st) Q E = E c ln st := id rfl
theorem fp_mono {x : FRes} {Q' : RV → List (Stt × PV) → List Inst → Prop} {E' : Nat → List (Stt × PV) → List Inst → Prop} (h : FP x Q E) (i : ∀ z ln st, Q z ln st → Q' z ln st) (j : ∀ c ln st, E c ln st → E' c ln st) : FP x Q' E' := by
  cases x with
  | ok a b c => exact i _ _ _ h
  | exc a b c => exact j _ _ _ h
  | no => exact h
theorem fp_by {x : FRes} {P : RV → List (Stt × PV) → List Inst → Prop} (h : FP x P G0) (i : ∀ z ln st, P z ln st → Q z ln st) : FP x Q E := fp_mono h i fun _ _ _ z => z.elim
theorem fp_eq {x : FRes} {z : RV} {ln : List (Stt × PV)} {st : List Inst} (h : FP x (fun a b c => a = z ∧ b = ln ∧ c = st) G0) : x = .ok z ln st := by
  cases x with
  | ok a b c => obtain ⟨rfl, rfl, rfl⟩ := h; rfl
  | exc a b c => exact h.elim
  | no => exact h.elim
theorem fp_of {x : FRes} {z : RV} {ln : List (Stt × PV)} {st : List Inst} (h : x = .ok z ln st) : FP x (fun a b c => a = z ∧ b = ln ∧ c = st) G0 := by
  rw [h]
  exact ⟨rfl, rfl, rfl⟩
theorem fp_mk {n N : Nat} {body : M Fl} {as : List Arg} {st : List Inst} : FP (mkFn n N body as st) Q E = wC (as.length = n) (WP (body ⟨argSl 0 as ++ List.replicate (N - n) .no, argLn as, st⟩) (fun f r => FPk (finF (.ok f r)) Q E) (fun c r => Kp (fun t : Nat × List (Stt × PV) × List Inst => E t.1 t.2.1 t.2.2) (c, r.ln, r.st))) := by
  unfold mkFn
  by_cases h : as.length = n
  · rw [if_pos h, wC_of h]
    cases body ⟨argSl 0 as ++ List.replicate (N - n) .no, argLn as, st⟩ <;> rfl
  · rw [if_neg h]
    unfold wC
    exact propext ⟨fun z => z.elim, fun z => h z.1⟩
end
end
end BL.BLo
/-! B, the plain side: lists and tuples of one kind, and what the mirrors' functions answer of them. -/
namespace BL
noncomputable section
open PySem PySem.Spec PyProof.Rows L2
/-- a list, a tuple of things written by f -/
def Lx {α : Type} (f : α → PV) (xs : List α) : PV := .lst (xs.map f)
def Tx {α : Type} (f : α → PV) (xs : List α) : PV := .tup (xs.map f)
def gx {α : Type} [Inhabited α] (xs : List α) (i : Int) : α := xs.getD i.toNat default
section
variable {α β : Type} {f : α → PV} {xs ys : List α}
theorem lst_fold : PV.lst (xs.map f) = Lx f xs := rfl
theorem tup_fold : PV.tup (xs.map f) = Tx f xs := rfl
theorem gx_nat [Inhabited α] {i : Nat} : gx xs (i : Int) = xs.getD i default := by unfold gx; rw [Int.toNat_natCast]
theorem gx_get [Inhabited α] {i : Int} (h : i.toNat < xs.length) : gx xs i = xs[i.toNat] := by unfold gx; rw [List.getD_eq_getElem?_getD, List.getElem?_eq_getElem h]; rfl
theorem gx_mem [Inhabited α] {i : Int} (h0 : 0 ≤ i) (h : i < xs.length) : gx xs i ∈ xs := by
  rw [gx_get (by omega)]
  exact List.getElem_mem _
theorem gx_some [Inhabited α] {i : Int} (h0 : 0 ≤ i) (h : i < xs.length) : xs[i.toNat]? = some (gx xs i) := by
  rw [gx_get (by omega), List.getElem?_eq_getElem]
theorem atI_map {i : Int} : atI (xs.map f) i = (atI xs i).map f := by
  unfold atI
  rw [List.length_map]
  cases ixN xs.length i with
  | none => rfl
  | some j =>
    show (xs.map f)[j]? = (xs[j]?).map f
    rw [List.getElem?_map]
theorem atI_gx [Inhabited α] {i : Int} (h0 : 0 ≤ i) (h : i < xs.length) : atI xs i = some (gx xs i) := by
  have e : (i.toNat : Int) = i := Int.toNat_of_nonneg h0
  have := atI_nat (gx_some h0 h)
  rw [e] at this
  exact this
theorem ixN_lit {n k : Nat} : ixN n (OfNat.ofNat k) = if k < n then some k else none := by
  unfold ixN
  have : (OfNat.ofNat k : Int) = (k : Int) := rfl
  rw [this, if_pos (by omega)]
  by_cases h : k < n
  · rw [if_pos (by omega), if_pos h]; simp
  · rw [if_neg (by omega), if_neg h]
theorem atI_lit {n : Nat} : atI xs (no_index (OfNat.ofNat n)) = xs[n]? := by
  unfold atI
  rw [ixN_lit]
  split
  · rfl
  · rename_i h
    rw [List.getElem?_eq_none (by omega)]
    rfl
theorem atI_neg1 : atI xs (-1) = xs.getLast? := by
  rcases List.eq_nil_or_concat xs with h | ⟨l, a, h⟩
  · subst h
    rfl
  · subst h
    rw [List.concat_eq_append, atI_last, List.getLast?_append]
    rfl
/-! + -/
theorem add_ii {i j : Int} : addF (.int i) (.int j) = some (.val (.int (i + j))) := id rfl
theorem add_LL (h : xs.length + ys.length ≤ 16777216) : addF (Lx f xs) (Lx f ys) = some (.fresh (Lx f (xs ++ ys))) := by
  unfold Lx
  rw [addF_lst (by rw [List.length_map, List.length_map]; exact h), List.map_append]
theorem add_L1 {y : α} (h : xs.length < 16777216) : addF (Lx f xs) (.lst [f y]) = some (.fresh (Lx f (xs ++ [y]))) := by
  unfold Lx
  rw [addF_lst (by rw [List.length_map]; exact h), List.map_append]
  rfl
theorem add_TT (h : xs.length + ys.length ≤ 16777216) : addF (Tx f xs) (Tx f ys) = some (.val (Tx f (xs ++ ys))) := by
  unfold Tx
  rw [addF_tup (by rw [List.length_map, List.length_map]; exact h), List.map_append]
theorem add_T1 {y : α} (h : xs.length < 16777216) : addF (Tx f xs) (.tup [f y]) = some (.val (Tx f (xs ++ [y]))) := by
  unfold Tx
  rw [addF_tup (by rw [List.length_map]; exact h), List.map_append]
  rfl
theorem add_ll {a b : List PV} (h : a.length + b.length ≤ 16777216) : addF (.lst a) (.lst b) = some (.fresh (.lst (a ++ b))) := addF_lst h
theorem add_tt {a b : List PV} (h : a.length + b.length ≤ 16777216) : addF (.tup a) (.tup b) = some (.val (.tup (a ++ b))) := addF_tup h
theorem sub_ii {i j : Int} : subF (.int i) (.int j) = some (.val (.int (i - j))) := id rfl
theorem neg_i {i : Int} : negF (.int i) = some (.val (.int (-i))) := id rfl
theorem iadd_ii {i j : Int} : iaddF (.int i) (.int j) = some (.val (.int (i + j))) := id rfl
theorem mul_ii {i j : Int} (h : i.natAbs.log2 + j.natAbs.log2 < 1000000) : mulF (.int i) (.int j) = some (.val (.int (i * j))) := mulF_int h
theorem mul_Lk {k : Int} (h1 : k ≤ 1000000) (h2 : -1000000 ≤ k) (h3 : xs.length * k.toNat ≤ 16777216) : mulF (Lx f xs) (.int k) = some (.fresh (Lx f (List.replicate k.toNat xs).flatten)) := by
  unfold Lx
  rw [mulF_lst h1 h2 (by rw [List.length_map]; exact h3), List.map_flatten, List.map_replicate]
theorem mul_1k {y : PV} {k : Int} (h1 : k ≤ 1000000) (h2 : -1000000 ≤ k) : mulF (.lst [y]) (.int k) = some (.fresh (.lst (List.replicate k.toNat y))) := by
  rw [mulF_lst h1 h2 (by show 1 * k.toNat ≤ 16777216; omega), List.flatten_replicate_singleton]
theorem lst_i1 {a0 : Int} : PV.lst [.int a0] = Lx .int [a0] := id rfl
theorem lst_i2 {a0 a1 : Int} : PV.lst [.int a0, .int a1] = Lx .int [a0, a1] := id rfl
theorem lst_i3 {a0 a1 a2 : Int} : PV.lst [.int a0, .int a1, .int a2] = Lx .int [a0, a1, a2] := id rfl
theorem lst_i4 {a0 a1 a2 a3 : Int} : PV.lst [.int a0, .int a1, .int a2, .int a3] = Lx .int [a0, a1, a2, a3] := id rfl
theorem lst_i5 {a0 a1 a2 a3 a4 : Int} : PV.lst [.int a0, .int a1, .int a2, .int a3, .int a4] = Lx .int [a0, a1, a2, a3, a4] := id rfl
theorem lst_i6 {a0 a1 a2 a3 a4 a5 : Int} : PV.lst [.int a0, .int a1, .int a2, .int a3, .int a4, .int a5] = Lx .int [a0, a1, a2, a3, a4, a5] := id rfl
theorem lst_i7 {a0 a1 a2 a3 a4 a5 a6 : Int} : PV.lst [.int a0, .int a1, .int a2, .int a3, .int a4, .int a5, .int a6] = Lx .int [a0, a1, a2, a3, a4, a5, a6] := id rfl
theorem lst_i8 {a0 a1 a2 a3 a4 a5 a6 a7 : Int} : PV.lst [.int a0, .int a1, .int a2, .int a3, .int a4, .int a5, .int a6, .int a7] = Lx .int [a0, a1, a2, a3, a4, a5, a6, a7] := id rfl
theorem mul_L1 {y : α} {k : Int} (h1 : k ≤ 1000000) (h2 : -1000000 ≤ k) : mulF (Lx f [y]) (.int k) = some (.fresh (Lx f (List.replicate k.toNat y))) := by
  rw [mul_Lk h1 h2 (by show 1 * k.toNat ≤ 16777216; omega), List.flatten_replicate_singleton]
theorem gx_lit [Inhabited α] {n : Nat} : gx xs (no_index (OfNat.ofNat n)) = xs.getD n default := by
  show xs.getD (Int.toNat (n : Int)) default = _
  rw [Int.toNat_natCast]
theorem getD_0 {a d : α} {l : List α} : (a :: l).getD 0 d = a := id rfl
theorem getD_s {a d : α} {l : List α} {n : Nat} : (a :: l).getD (n + 1) d = l.getD n d := id (by simp)
theorem gx_all [Inhabited α] {P : α → Prop} {i : Int} (h0 : 0 ≤ i) (h : i < xs.length) (ha : ∀ x ∈ xs, P x) : P (gx xs i) := ha _ (gx_mem h0 h)
theorem mod_ii {i j : Int} (h : 0 < j) : modF (.int i) (.int j) = some (.val (.int (i % j))) := modF_int h
theorem div_ii {i j : Int} (h : 0 < j) (h2 : j.natAbs.log2 < 9000) : divF (.int i) (.int j) = some (.val (.int (i / j))) := divF_int h h2
theorem log2_lt {i : Int} {k : Nat} (h1 : -(2 ^ k : Int) < i) (h2 : i < 2 ^ k) (hk : 0 < k) : i.natAbs.log2 < k := by
  by_cases h0 : i.natAbs = 0
  · rw [h0]
    exact hk
  · refine (Nat.log2_lt h0).mpr ?_
    have e : ((2 ^ k : Nat) : Int) = (2 : Int) ^ k := by simp
    omega
theorem div_sm {i j : Int} (h : 0 < j) (h2 : j < 10000000000000000000000000000000000000000000000000000000) : divF (.int i) (.int j) = some (.val (.int (i / j))) :=
  divF_int h (by
    have h3 : j.natAbs.log2 < 200 := log2_lt (by have : -(2 ^ 200 : Int) < 0 := by decide
                                                 omega) (Int.lt_trans h2 (by decide)) (by decide)
    omega)
theorem lg_sm {i : Int} (h1 : -10000000000000000000000000000000000000000000000000000000000000000000000000000000000000000000000000000 < i) (h2 : i < 10000000000000000000000000000000000000000000000000000000000000000000000000000000000000000000000000000) : i.natAbs.log2 < 400 := by
  have e : -(2 ^ 400 : Int) < -10000000000000000000000000000000000000000000000000000000000000000000000000000000000000000000000000000 := by decide +kernel
  have e2 : (10000000000000000000000000000000000000000000000000000000000000000000000000000000000000000000000000000 : Int) < 2 ^ 400 := by decide +kernel
  exact log2_lt (Int.lt_trans e h1) (Int.lt_trans h2 e2) (by decide)
/-- numbers of at most a hundred digits -/
theorem mul_sm {i j : Int} (h1 : -10000000000000000000000000000000000000000000000000000000000000000000000000000000000000000000000000000 < i) (h2 : i < 10000000000000000000000000000000000000000000000000000000000000000000000000000000000000000000000000000) (h3 : -10000000000000000000000000000000000000000000000000000000000000000000000000000000000000000000000000000 < j) (h4 : j < 10000000000000000000000000000000000000000000000000000000000000000000000000000000000000000000000000000) : mulF (.int i) (.int j) = some (.val (.int (i * j))) :=
  mulF_int (by
    have a1 := lg_sm h1 h2
    have a2 := lg_sm h3 h4
    omega)
theorem pow_sm {i j : Int} (h : 0 ≤ j) (h2 : j ≤ 1000) (h3 : -10000000000000000000000000000000000000000000000000000000000000000000000000000000000000000000000000000 < i) (h4 : i < 10000000000000000000000000000000000000000000000000000000000000000000000000000000000000000000000000000) : powF (.int i) (.int j) = some (.val (.int (i ^ j.toNat))) := powF_int h h2 (by have := lg_sm h3 h4; omega)
theorem pow_ii {i j : Int} (h : 0 ≤ j) (h2 : j ≤ 1000) (h3 : i.natAbs.log2 < 100000) : powF (.int i) (.int j) = some (.val (.int (i ^ j.toNat))) := powF_int h h2 h3
/-! comparisons -/
theorem lt_ii {i j : Int} : cmpI ltI (.int i) (.int j) = some (decide (i < j)) := congrArg some (slB_eq _)
theorem le_ii {i j : Int} : cmpI leI (.int i) (.int j) = some (decide (i ≤ j)) := congrArg some (slB_eq _)
theorem gt_ii {i j : Int} : cmpI gtI (.int i) (.int j) = some (decide (j < i)) := congrArg some (slB_eq _)
theorem ge_ii {i j : Int} : cmpI geI (.int i) (.int j) = some (decide (j ≤ i)) := congrArg some (slB_eq _)
theorem eq_ii {i j : Int} : eqF (.int i) (.int j) = some (decide (i = j)) := eqF_int i j
theorem ne_ii {i j : Int} : neF (.int i) (.int j) = some (decide (i ≠ j)) := by rw [neF_int]; simp
theorem asV_some {g : PV → PV → Option Bool} {p q : PV} : asV g p q = (g p q).map fun b => .val (.bl b) := id rfl
theorem eq_TT {a b : List Int} : eqF (Tx .int a) (Tx .int b) = some (decide (a = b)) := eqF_tup a b
theorem eq_LL {a b : List Int} : eqF (Lx .int a) (Lx .int b) = some (decide (a = b)) := eqF_lst a b
theorem ne_TT {a b : List Int} : neF (Tx .int a) (Tx .int b) = some (decide (a ≠ b)) := by unfold neF; rw [eq_TT]; simp
theorem ne_LL {a b : List Int} : neF (Lx .int a) (Lx .int b) = some (decide (a ≠ b)) := by unfold neF; rw [eq_LL]; simp
theorem isN_non {q : PV} : isNonF .non .non = some true := id rfl
/-! items -/
theorem ix_L [Inhabited α] {i : Int} (h0 : 0 ≤ i) (h : i < xs.length) : ixF (Lx f xs) (.int i) = some (.val (f (gx xs i))) := by
  show (atI (xs.map f) i).map RV.val = _
  rw [atI_map, atI_gx h0 h]
  rfl
theorem ix_T [Inhabited α] {i : Int} (h0 : 0 ≤ i) (h : i < xs.length) : ixF (Tx f xs) (.int i) = some (.val (f (gx xs i))) := by
  show (atI (xs.map f) i).map RV.val = _
  rw [atI_map, atI_gx h0 h]
  rfl
theorem ix_scr {ns : List Int} {i : Int} (h0 : 0 ≤ i) (h : i < ns.length) : ixF (.scr ns) (.int i) = some (.val (.int (gx ns i))) := by
  show (atI (ns.map PV.int) i).map RV.val = _
  rw [atI_map, atI_gx h0 h]
  rfl
theorem ix_Lm1 [Inhabited α] (h : 0 < xs.length) : ixF (Lx f xs) (.int (-1)) = some (.val (f (gx xs (xs.length - 1)))) := by
  show (atI (xs.map f) (-1)).map RV.val = _
  rw [atI_map, atI_neg1, List.getLast?_eq_getElem?, gx_get (by omega), List.getElem?_eq_getElem (by omega)]
  simp only [Option.map_some]
  congr 4
  omega
theorem ix_l {xs : List PV} {i : Int} : ixF (.lst xs) (.int i) = (atI xs i).map .val := id rfl
theorem ix_t {xs : List PV} {i : Int} : ixF (.tup xs) (.int i) = (atI xs i).map .val := id rfl
/-! seqs -/
theorem seq_L : seqOf (Lx f xs) = some (xs.map f) := id rfl
theorem seq_T : seqOf (Tx f xs) = some (xs.map f) := id rfl
theorem seq_l {xs : List PV} : seqOf (.lst xs) = some xs := id rfl
theorem seq_t {xs : List PV} : seqOf (.tup xs) = some xs := id rfl
theorem seq_scr {ns : List Int} : seqOf (.scr ns) = some (ns.map .int) := id rfl
theorem len_L : lenF [Lx f xs] = some (.val (.int xs.length)) := by rw [len_seq seq_L, List.length_map]
theorem len_T : lenF [Tx f xs] = some (.val (.int xs.length)) := by rw [len_seq seq_T, List.length_map]
theorem len_scr {ns : List Int} : lenF [.scr ns] = some (.val (.int ns.length)) := by rw [len_seq seq_scr, List.length_map]
theorem len_l {xs : List PV} : lenF [.lst xs] = some (.val (.int xs.length)) := len_seq seq_l
theorem len_t {xs : List PV} : lenF [.tup xs] = some (.val (.int xs.length)) := len_seq seq_t
theorem tup_L : tupF [Lx f xs] = some (.val (Tx f xs)) := id rfl
theorem tup_T : tupF [Tx f xs] = some (.val (Tx f xs)) := id rfl
theorem tup_l {xs : List PV} : tupF [.lst xs] = some (.val (.tup xs)) := id rfl
theorem list_L : listF [Lx f xs] = some (.fresh (Lx f xs)) := id rfl
theorem list_T : listF [Tx f xs] = some (.fresh (Lx f xs)) := id rfl
theorem list_scr {ns : List Int} : listF [.scr ns] = some (.fresh (Lx .int ns)) := id rfl
theorem isL_L : isL (Lx f xs) = true := id rfl
theorem isL_l {xs : List PV} : isL (.lst xs) = true := id rfl
theorem isL_T : isL (Tx f xs) = false := id rfl
theorem isL_t {xs : List PV} : isL (.tup xs) = false := id rfl
theorem ty_L : tyP (Lx f xs) = some "list" := id rfl
theorem ty_l {xs : List PV} : tyP (.lst xs) = some "list" := id rfl
/-! slices -/
theorem cutP_map {lo hi : Option Int} : cutP (xs.map f) lo hi = (cutP xs lo hi).map f := by
  unfold cutP
  rw [List.length_map, List.map_take, List.map_drop]
theorem sl_L {lo hi : Option Int} : slF (Lx f xs) lo hi = some (.fresh (Lx f (cutP xs lo hi))) := by
  show some (RV.fresh (.lst (cutP (xs.map f) lo hi))) = _
  rw [cutP_map]
  rfl
theorem sl_T {lo hi : Option Int} : slF (Tx f xs) lo hi = some (.val (Tx f (cutP xs lo hi))) := by
  show some (RV.val (.tup (cutP (xs.map f) lo hi))) = _
  rw [cutP_map]
  rfl
theorem cut_take {i : Int} (h : 0 ≤ i) : cutP xs none (some i) = xs.take i.toNat := by
  unfold cutP
  rw [HT.sIx_none]
  have e : HT.sIx xs.length xs.length (some i) = min i.toNat xs.length := by
    show (if i < 0 then _ else _) = _
    rw [if_neg (by omega)]
  rw [e, List.drop_zero, Nat.sub_zero]
  by_cases h2 : i.toNat ≤ xs.length
  · rw [Nat.min_eq_left h2]
  · rw [Nat.min_eq_right (by omega), List.take_length, List.take_of_length_le (by omega)]
theorem cut_drop {i : Int} (h : 0 ≤ i) : cutP xs (some i) none = xs.drop i.toNat := by
  unfold cutP
  rw [HT.sIx_none]
  have e : HT.sIx xs.length 0 (some i) = min i.toNat xs.length := by
    show (if i < 0 then _ else _) = _
    rw [if_neg (by omega)]
  rw [e]
  rw [List.take_of_length_le (by rw [List.length_drop]; omega)]
  by_cases h2 : i.toNat ≤ xs.length
  · rw [Nat.min_eq_left h2]
  · rw [Nat.min_eq_right (by omega), List.drop_length, List.drop_eq_nil_of_le (by omega)]
theorem cut_both {i j : Int} (h : 0 ≤ i) (h2 : 0 ≤ j) : cutP xs (some i) (some j) = (xs.take j.toNat).drop i.toNat := by
  unfold cutP
  have e : HT.sIx xs.length 0 (some i) = min i.toNat xs.length := by
    show (if i < 0 then _ else _) = _
    rw [if_neg (by omega)]
  have e2 : HT.sIx xs.length xs.length (some j) = min j.toNat xs.length := by
    show (if j < 0 then _ else _) = _
    rw [if_neg (by omega)]
  rw [e, e2]
  apply List.ext_getElem?
  intro n
  rw [List.getElem?_take, List.getElem?_drop, List.getElem?_drop, List.getElem?_take]
  by_cases h4 : i.toNat + n < j.toNat
  · rw [if_pos h4]
    by_cases h5 : i.toNat + n < xs.length
    · rw [if_pos (by omega), Nat.min_eq_left (by omega)]
    · rw [List.getElem?_eq_none (show xs.length ≤ i.toNat + n by omega)]
      split
      · rw [List.getElem?_eq_none (by omega)]
      · rfl
  · rw [if_neg h4]
    split
    · rw [List.getElem?_eq_none (by omega)]
    · rfl
theorem cut_nn : cutP xs none none = xs := by
  unfold cutP
  rw [HT.sIx_none, HT.sIx_none, List.drop_zero, Nat.sub_zero, List.take_length]
/-! built-ins over lists of ints -/
def mxL (l : List Int) : Int := (maxL l).getD 0
def mnL (l : List Int) : Int := (minL l).getD 0
theorem max_ii {i j : Int} : maxF [.int i, .int j] = some (.val (.int (max i j))) := by
  show some (RV.val (.int (if j > i then j else i))) = _
  congr 3
  split <;> omega
theorem min_ii {i j : Int} : minF [.int i, .int j] = some (.val (.int (min i j))) := by
  show some (RV.val (.int (if j < i then j else i))) = _
  congr 3
  split <;> omega
theorem max_L {l : List Int} (h : 0 < l.length) : maxF [Lx .int l] = some (.val (.int (mxL l))) := by
  show (toInts (l.map PV.int)).bind (fun ns => (maxL ns).map fun m => RV.val (.int m)) = _
  rw [toInts_map]
  cases l with
  | nil => exact absurd h (by decide)
  | cons x r => rfl
theorem min_L {l : List Int} (h : 0 < l.length) : minF [Lx .int l] = some (.val (.int (mnL l))) := by
  show (toInts (l.map PV.int)).bind (fun ns => (minL ns).map fun m => RV.val (.int m)) = _
  rw [toInts_map]
  cases l with
  | nil => exact absurd h (by decide)
  | cons x r => rfl
theorem sum_L {l : List Int} : sumF [Lx .int l] = some (.val (.int l.sum)) := by
  show (toInts (l.map PV.int)).map (fun ns => RV.val (.int ns.sum)) = _
  rw [toInts_map]
  rfl
theorem max_T {l : List Int} (h : 0 < l.length) : maxF [Tx .int l] = some (.val (.int (mxL l))) := max_L h
theorem min_T {l : List Int} (h : 0 < l.length) : minF [Tx .int l] = some (.val (.int (mnL l))) := min_L h
theorem sum_T {l : List Int} : sumF [Tx .int l] = some (.val (.int l.sum)) := sum_L
theorem all_L {l : List Bool} : allF [Lx .bl l] = some (.val (.bl (l.all id))) := by
  show (toBls (l.map PV.bl)).map (fun ns => RV.val (.bl (ns.all id))) = _
  rw [toBls_map]
  rfl
theorem any_L {l : List Bool} : anyF [Lx .bl l] = some (.val (.bl (l.any id))) := by
  show (toBls (l.map PV.bl)).map (fun ns => RV.val (.bl (ns.any id))) = _
  rw [toBls_map]
  rfl
theorem sorted_L {l : List Int} : sortedF [Lx .int l] = some (.fresh (Lx .int (sortI l))) := by
  show (toInts (l.map PV.int)).map (fun ns => RV.fresh (.lst ((sortI ns).map .int))) = _
  rw [toInts_map]
  rfl
theorem sorted_T {l : List Int} : sortedF [Tx .int l] = some (.fresh (Lx .int (sortI l))) := sorted_L
theorem int_i {i : Int} : intF [.int i] = some (.val (.int i)) := id rfl
theorem int_b {b : Bool} : intF [.bl b] = some (.val (.int (if b then 1 else 0))) := id rfl
theorem mxL_mem {l : List Int} (h : l ≠ []) : mxL l ∈ l := by
  cases l with
  | nil => exact absurd rfl h
  | cons i r => exact (maxL_of r i).1
theorem mxL_le {l : List Int} {y : Int} (h : y ∈ l) : y ≤ mxL l := by
  cases l with
  | nil => cases h
  | cons i r => exact (maxL_of r i).2 y h
theorem mnL_mem {l : List Int} (h : l ≠ []) : mnL l ∈ l := by
  cases l with
  | nil => exact absurd rfl h
  | cons i r => exact (minL_of r i).1
theorem mnL_le {l : List Int} {y : Int} (h : y ∈ l) : mnL l ≤ y := by
  cases l with
  | nil => cases h
  | cons i r => exact (minL_of r i).2 y h
theorem mxL_eq {l : List Int} {m : Int} (h1 : m ∈ l) (h2 : ∀ y ∈ l, y ≤ m) : mxL l = m :=
  Int.le_antisymm (h2 _ (mxL_mem (fun e => by rw [e] at h1; cases h1))) (mxL_le h1)
/-! methods -/
theorem append_L {y : α} (h : xs.length < 16777216) : appendF (Lx f xs) [f y] = some (Lx f (xs ++ [y]), .non) := by
  unfold Lx
  rw [append_eq (by rw [List.length_map]; exact h), List.map_append]
  rfl
theorem append_l {xs : List PV} {y : PV} (h : xs.length < 16777216) : appendF (.lst xs) [y] = some (.lst (xs ++ [y]), .non) := append_eq h
theorem append_Lq {y : PV} (h : xs.length < 16777216) : appendF (Lx f xs) [y] = some (.lst (xs.map f ++ [y]), .non) := append_eq (by rw [List.length_map]; exact h)
theorem extend_L (h : xs.length + ys.length ≤ 16777216) : extendF (Lx f xs) [Lx f ys] = some (Lx f (xs ++ ys), .non) := by
  unfold Lx
  rw [extend_eq (by rw [List.length_map, List.length_map]; exact h), List.map_append]
theorem insert_L {i : Int} {y : α} (h : xs.length < 16777216) (h0 : 0 ≤ i) (h1 : i < 1000000) : insertF (Lx f xs) [.int i, f y] = some (Lx f (xs.take i.toNat ++ [y] ++ xs.drop i.toNat), .non) := by
  unfold Lx insertF
  refine (if_pos ⟨by rw [List.length_map]; exact h, h0, by omega⟩).trans ?_
  rw [List.map_append, List.map_append, List.map_take, List.map_drop]
  rfl
theorem pop_L [Inhabited α] (h : 0 < xs.length) : popF (Lx f xs) [] = some (Lx f xs.dropLast, f (gx xs (xs.length - 1))) := by
  show ((xs.map f)[(xs.map f).length - 1]?).map (fun y => (PV.lst (xs.map f).dropLast, y)) = _
  rw [List.length_map, List.getElem?_map, List.getElem?_eq_getElem (show xs.length - 1 < xs.length by omega), gx_get (by omega)]
  simp only [Option.map_some]
  unfold Lx
  rw [List.dropLast_eq_take, List.dropLast_eq_take, List.map_take, List.length_map]
  congr 4
  omega
theorem pop_Li [Inhabited α] {i : Int} (h0 : 0 ≤ i) (h : i < xs.length) (h2 : i < 1000000000) : popF (Lx f xs) [.int i] = some (Lx f (xs.eraseIdx i.toNat), f (gx xs i)) := by
  unfold Lx popF
  refine (if_pos ⟨by omega, by omega⟩).trans ?_
  rw [List.length_map, (ixN_seq (n := xs.length) (i := i) (j := i.toNat) (by unfold ixN; rw [if_pos h0, if_pos h])).1]
  show ((xs.map f)[i.toNat]?).map (fun y => (PV.lst ((xs.map f).eraseIdx i.toNat), y)) = _
  rw [List.getElem?_map, gx_some h0 h]
  show some (PV.lst ((xs.map f).eraseIdx i.toNat), f (gx xs i)) = _
  rw [List.eraseIdx_eq_take_drop_succ, List.eraseIdx_eq_take_drop_succ, List.map_append, List.map_take, List.map_drop]
theorem reverse_L : reverseF (Lx f xs) [] = some (Lx f xs.reverse, .non) := by
  unfold Lx
  rw [List.map_reverse]
  rfl
theorem reverse_l {xs : List PV} : reverseF (.lst xs) [] = some (.lst xs.reverse, .non) := id rfl
theorem clear_L : clearF (Lx f xs) [] = some (.lst [], .non) := id rfl
theorem clear_l {xs : List PV} : clearF (.lst xs) [] = some (.lst [], .non) := id rfl
theorem set_L {i : Int} {y : α} (h0 : 0 ≤ i) (h : i < xs.length) : setF (Lx f xs) (.int i) (f y) = some (Lx f (xs.set i.toNat y)) := by
  show (ixN (xs.map f).length i).map (fun j => PV.lst ((xs.map f).set j (f y))) = _
  rw [List.length_map]
  have e : ixN xs.length i = some i.toNat := by unfold ixN; rw [if_pos h0, if_pos h]
  rw [e]
  show some (PV.lst ((xs.map f).set i.toNat (f y))) = _
  unfold Lx
  rw [List.map_set]
theorem set_Lm1 {y : α} (h : 0 < xs.length) : setF (Lx f xs) (.int (-1)) (f y) = some (Lx f (xs.set (xs.length - 1) y)) := by
  show (ixN (xs.map f).length (-1)).map (fun j => PV.lst ((xs.map f).set j (f y))) = _
  rw [List.length_map]
  have e : ixN xs.length (-1) = some (xs.length - 1) := by
    unfold ixN
    rw [if_neg (by omega), if_pos (by omega)]
    congr 1
    omega
  rw [e]
  show some (PV.lst ((xs.map f).set (xs.length - 1) (f y))) = _
  unfold Lx
  rw [List.map_set]
theorem set_lit {xs : List PV} {n : Nat} {y : PV} (h : n < xs.length) : setF (.lst xs) (.int (no_index (OfNat.ofNat n))) y = some (.lst (xs.set n y)) := by
  show (ixN xs.length (OfNat.ofNat n)).map (fun j => PV.lst (xs.set j y)) = _
  rw [ixN_lit, if_pos h]
  rfl
/-! range -/
theorem rng1 {j : Int} (h : -1000000000 ≤ j) (h2 : j ≤ 1000000000) : rng1F [.int j] = some (rgIt 0 j.toNat 1) := rng1_eq (okB_in h h2)
theorem rng2 {i j : Int} (h : -1000000000 ≤ j) (h2 : j ≤ 1000000000) (h3 : -1000000000 ≤ i) (h4 : i ≤ 1000000000) : rng2F [.int i, .int j] = some (rgIt i (j - i).toNat 1) := rng2_eq (okB_in h3 h4) (okB_in h h2)
theorem rng3 {i j : Int} (h : -1000000000 ≤ j) (h2 : j ≤ 1000000000) (h3 : -1000000000 ≤ i) (h4 : i ≤ 1000000000) : rng3F [.int i, .int j, .int (-1)] = some (rgIt i (i - j).toNat (-1)) := rng3_eq (okB_in h3 h4) (okB_in h h2)
def rgI (a : Int) (n : Nat) : List Int := (List.range n).map fun i : Nat => a + i
theorem rgI_length {a : Int} {n : Nat} : (rgI a n).length = n := by unfold rgI; simp
theorem rgI_get {a : Int} {n i : Nat} (h : i < n) : (rgI a n)[i]'(by rw [rgI_length]; exact h) = a + i := by unfold rgI; simp
theorem rgIt_eq {a : Int} {n : Nat} : rgIt a n 1 = (rgI a n).map .int := by
  unfold rgIt rgI
  rw [List.map_map]
  refine List.map_congr_left fun i _ => ?_
  show PV.int (a + (i : Int) * 1) = PV.int (a + i)
  rw [Int.mul_one]
theorem rg1L {j : Int} (h : -1000000 ≤ j) (h2 : j ≤ 1000000) : rgF1 kL (.int j) = some (.fresh (Lx .int (rgI 0 j.toNat))) := by
  show @ite _ (rgC 0 j = true) (Classical.propDecidable _) _ _ = _
  rw [if_pos]
  · unfold rgP rgI Lx
    rw [List.map_map, Int.sub_zero]
    rfl
  · unfold rgC
    exact @decide_eq_true _ (Classical.propDecidable _) ⟨by decide, by decide, by omega, by omega, by omega⟩
theorem rg2L {i j : Int} (h : -1000000 ≤ j) (h2 : j ≤ 1000000) (h3 : -1000000 ≤ i) (h4 : i ≤ 1000000) : rgF2 kL (.int i) (.int j) = some (.fresh (Lx .int (rgI i (j - i).toNat))) := by
  show @ite _ (rgC i j = true) (Classical.propDecidable _) _ _ = _
  rw [if_pos]
  · unfold rgP rgI Lx
    rw [List.map_map]
    rfl
  · unfold rgC
    exact @decide_eq_true _ (Classical.propDecidable _) ⟨by omega, by omega, by omega, by omega, by omega⟩
theorem rg1T {j : Int} (h : -1000000 ≤ j) (h2 : j ≤ 1000000) : rgF1 kT (.int j) = some (.val (Tx .int (rgI 0 j.toNat))) := by
  show @ite _ (rgC 0 j = true) (Classical.propDecidable _) _ _ = _
  rw [if_pos]
  · unfold rgP rgI Tx
    rw [List.map_map, Int.sub_zero]
    rfl
  · unfold rgC
    exact @decide_eq_true _ (Classical.propDecidable _) ⟨by decide, by decide, by omega, by omega, by omega⟩
theorem isN_i {i : Int} : isNonF (.int i) .non = some false := id rfl
theorem isN_n : isNonF .non .non = some true := id rfl
theorem isNN_i {i : Int} : notNonF (.int i) .non = some true := id rfl
theorem isNN_n : notNonF .non .non = some false := id rfl
end
/-! isinstance -/
theorem isB_int_non : isB "int" .non = some false := id (by kernel_rfl)
theorem isB_int_bl {b : Bool} : isB "int" (.bl b) = some true := id (by kernel_rfl)
theorem isB_int_int {i : Int} : isB "int" (.int i) = some true := id (by kernel_rfl)
theorem isB_int_str {s : Str} : isB "int" (.str s) = some false := id (by kernel_rfl)
theorem isB_int_tup {xs : List PV} : isB "int" (.tup xs) = some false := id (by kernel_rfl)
theorem isB_int_lst {xs : List PV} : isB "int" (.lst xs) = some false := id (by kernel_rfl)
theorem isB_int_scr {ns : List Int} : isB "int" (.scr ns) = some false := id (by kernel_rfl)
theorem isB_int_dic {ks xs : List PV} : isB "int" (.dic ks xs) = some false := id (by kernel_rfl)
theorem isB_int_L {α : Type} {f : α → PV} {xs : List α} : isB "int" (Lx f xs) = some false := isB_int_lst
theorem isB_int_T {α : Type} {f : α → PV} {xs : List α} : isB "int" (Tx f xs) = some false := isB_int_tup
theorem isB_bool_non : isB "bool" .non = some false := id (by kernel_rfl)
theorem isB_bool_bl {b : Bool} : isB "bool" (.bl b) = some true := id (by kernel_rfl)
theorem isB_bool_int {i : Int} : isB "bool" (.int i) = some false := id (by kernel_rfl)
theorem isB_bool_str {s : Str} : isB "bool" (.str s) = some false := id (by kernel_rfl)
theorem isB_bool_tup {xs : List PV} : isB "bool" (.tup xs) = some false := id (by kernel_rfl)
theorem isB_bool_lst {xs : List PV} : isB "bool" (.lst xs) = some false := id (by kernel_rfl)
theorem isB_bool_scr {ns : List Int} : isB "bool" (.scr ns) = some false := id (by kernel_rfl)
theorem isB_bool_dic {ks xs : List PV} : isB "bool" (.dic ks xs) = some false := id (by kernel_rfl)
theorem isB_bool_L {α : Type} {f : α → PV} {xs : List α} : isB "bool" (Lx f xs) = some false := isB_bool_lst
theorem isB_bool_T {α : Type} {f : α → PV} {xs : List α} : isB "bool" (Tx f xs) = some false := isB_bool_tup
theorem isB_tuple_non : isB "tuple" .non = some false := id (by kernel_rfl)
theorem isB_tuple_bl {b : Bool} : isB "tuple" (.bl b) = some false := id (by kernel_rfl)
theorem isB_tuple_int {i : Int} : isB "tuple" (.int i) = some false := id (by kernel_rfl)
theorem isB_tuple_str {s : Str} : isB "tuple" (.str s) = some false := id (by kernel_rfl)
theorem isB_tuple_tup {xs : List PV} : isB "tuple" (.tup xs) = some true := id (by kernel_rfl)
theorem isB_tuple_lst {xs : List PV} : isB "tuple" (.lst xs) = some false := id (by kernel_rfl)
theorem isB_tuple_scr {ns : List Int} : isB "tuple" (.scr ns) = some false := id (by kernel_rfl)
theorem isB_tuple_dic {ks xs : List PV} : isB "tuple" (.dic ks xs) = some false := id (by kernel_rfl)
theorem isB_tuple_L {α : Type} {f : α → PV} {xs : List α} : isB "tuple" (Lx f xs) = some false := isB_tuple_lst
theorem isB_tuple_T {α : Type} {f : α → PV} {xs : List α} : isB "tuple" (Tx f xs) = some true := isB_tuple_tup
theorem isB_list_non : isB "list" .non = some false := id (by kernel_rfl)
theorem isB_list_bl {b : Bool} : isB "list" (.bl b) = some false := id (by kernel_rfl)
theorem isB_list_int {i : Int} : isB "list" (.int i) = some false := id (by kernel_rfl)
theorem isB_list_str {s : Str} : isB "list" (.str s) = some false := id (by kernel_rfl)
theorem isB_list_tup {xs : List PV} : isB "list" (.tup xs) = some false := id (by kernel_rfl)
theorem isB_list_lst {xs : List PV} : isB "list" (.lst xs) = some true := id (by kernel_rfl)
theorem isB_list_scr {ns : List Int} : isB "list" (.scr ns) = some true := id (by kernel_rfl)
theorem isB_list_dic {ks xs : List PV} : isB "list" (.dic ks xs) = some false := id (by kernel_rfl)
theorem isB_list_L {α : Type} {f : α → PV} {xs : List α} : isB "list" (Lx f xs) = some true := isB_list_lst
theorem isB_list_T {α : Type} {f : α → PV} {xs : List α} : isB "list" (Tx f xs) = some false := isB_list_tup
theorem isB_str_non : isB "str" .non = some false := id (by kernel_rfl)
theorem isB_str_bl {b : Bool} : isB "str" (.bl b) = some false := id (by kernel_rfl)
theorem isB_str_int {i : Int} : isB "str" (.int i) = some false := id (by kernel_rfl)
theorem isB_str_str {s : Str} : isB "str" (.str s) = some true := id (by kernel_rfl)
theorem isB_str_tup {xs : List PV} : isB "str" (.tup xs) = some false := id (by kernel_rfl)
theorem isB_str_lst {xs : List PV} : isB "str" (.lst xs) = some false := id (by kernel_rfl)
theorem isB_str_scr {ns : List Int} : isB "str" (.scr ns) = some false := id (by kernel_rfl)
theorem isB_str_dic {ks xs : List PV} : isB "str" (.dic ks xs) = some false := id (by kernel_rfl)
theorem isB_str_L {α : Type} {f : α → PV} {xs : List α} : isB "str" (Lx f xs) = some false := isB_str_lst
theorem isB_str_T {α : Type} {f : α → PV} {xs : List α} : isB "str" (Tx f xs) = some false := isB_str_tup
theorem isB_dict_non : isB "dict" .non = some false := id (by kernel_rfl)
theorem isB_dict_bl {b : Bool} : isB "dict" (.bl b) = some false := id (by kernel_rfl)
theorem isB_dict_int {i : Int} : isB "dict" (.int i) = some false := id (by kernel_rfl)
theorem isB_dict_str {s : Str} : isB "dict" (.str s) = some false := id (by kernel_rfl)
theorem isB_dict_tup {xs : List PV} : isB "dict" (.tup xs) = some false := id (by kernel_rfl)
theorem isB_dict_lst {xs : List PV} : isB "dict" (.lst xs) = some false := id (by kernel_rfl)
theorem isB_dict_scr {ns : List Int} : isB "dict" (.scr ns) = some false := id (by kernel_rfl)
theorem isB_dict_dic {ks xs : List PV} : isB "dict" (.dic ks xs) = some true := id (by kernel_rfl)
theorem isB_dict_L {α : Type} {f : α → PV} {xs : List α} : isB "dict" (Lx f xs) = some false := isB_dict_lst
theorem isB_dict_T {α : Type} {f : α → PV} {xs : List α} : isB "dict" (Tx f xs) = some false := isB_dict_tup
end
end BL
namespace BL
noncomputable section
open PySem PySem.Spec PyProof.Rows L2
theorem enumP_at {α : Type} {f : α → PV} {xs : List α} {i : Nat} (hi : i < xs.length) : (enumP 0 (xs.map f))[i]'(by rw [enumP_length, List.length_map]; exact hi) = .tup [.int (i : Nat), f xs[i]] := by
  have h : i < (enumP 0 (xs.map f)).length := by rw [enumP_length, List.length_map]; exact hi
  obtain ⟨x, h1, h2⟩ := enumP_get (xs.map f) 0 i _ (List.getElem?_eq_getElem h)
  rw [List.getElem?_map, List.getElem?_eq_getElem hi] at h1
  cases h1
  rw [h2, Nat.zero_add]
theorem zipP_at {α β : Type} {f : α → PV} {g : β → PV} {xs : List α} {ys : List β} {i : Nat} (h1 : i < xs.length) (h2 : i < ys.length) : (zipP (xs.map f) (ys.map g))[i]'(by rw [zipP_length, List.length_map, List.length_map]; omega) = .tup [f xs[i], g ys[i]] := by
  have h : i < (zipP (xs.map f) (ys.map g)).length := by rw [zipP_length, List.length_map, List.length_map]; omega
  obtain ⟨x, y, e1, e2, e3⟩ := zipP_get (xs.map f) (ys.map g) i _ (List.getElem?_eq_getElem h)
  rw [List.getElem?_map, List.getElem?_eq_getElem h1] at e1
  rw [List.getElem?_map, List.getElem?_eq_getElem h2] at e2
  cases e1
  cases e2
  exact e3
theorem cons_erase_perm {α : Type} {l : List α} {i : Nat} (h : i < l.length) : (l[i] :: l.eraseIdx i).Perm l := by
  rw [List.eraseIdx_eq_take_drop_succ]
  refine List.perm_middle.symm.trans ?_
  rw [← List.drop_eq_getElem_cons h, List.take_append_drop]
theorem enumP_eq {α : Type} {f : α → PV} : ∀ (xs : List α) (k : Nat), enumP k (xs.map f) = (xs.zipIdx k).map fun z => .tup [.int (z.2 : Nat), f z.1]
  | [], _ => rfl
  | x :: r, k => by
    show PV.tup [.int (k : Nat), f x] :: enumP (k + 1) (r.map f) = _
    rw [enumP_eq r (k + 1)]
    rfl
theorem zipP_eq {α β : Type} {f : α → PV} {g : β → PV} : ∀ (xs : List α) (ys : List β), zipP (xs.map f) (ys.map g) = (xs.zip ys).map fun z => .tup [f z.1, g z.2]
  | [], _ => by simp [zipP]
  | _ :: _, [] => by simp [zipP]
  | x :: r, y :: s => by
    show PV.tup [f x, g y] :: zipP (r.map f) (s.map g) = _
    rw [zipP_eq r s]
    rfl
end
end BL
namespace BL.BLo
noncomputable section
open PySem PySem.Spec PyProof.Rows L2
/-! B, the plain side: loops and comprehensions by what holds ahead of each turn. -/
section
variable {tg : PV → M Unit} {body : M Fl} {Q : Fl → Env → Prop} {E : Nat → Env → Prop}
theorem wp_forM : ∀ (items : List PV) (I : Nat → Env → Prop) (r : Env), I 0 r →
    (∀ i (hi : i < items.length) r, I i r → WP (tg items[i] r) (fun _ r1 => WP (body r1) (fun f r2 => loopK f (Kp (I (i + 1)) r2) (Q .next r2) (fun z => Q (.ret z) r2)) E) E0) →
    (∀ r, I items.length r → Q .next r) → WP (BL.forM tg body items r) Q E
  | [], I, r, h0, _, he => he r h0
  | p :: ps, I, r, h0, hs, he => by
    have h := hs 0 (Nat.zero_lt_succ _) r h0
    unfold BL.forM
    have e1 : (p :: ps)[0]'(Nat.zero_lt_succ _) = p := rfl
    rw [e1] at h
    cases ht : tg p r with
    | exc c r1 => rw [ht] at h; exact h.elim
    | no => rw [ht] at h; exact h.elim
    | ok u r1 =>
      rw [ht, wp_ok] at h
      dsimp only
      rw [wp_bind]
      refine wp_mono h (fun f r2 hf => ?_) fun _ _ z => z
      have hs' : ∀ i (hi : i < ps.length) r, I (i + 1) r → WP (tg ps[i] r) (fun _ r1 => WP (body r1) (fun f r2 => loopK f (Kp (I (i + 1 + 1)) r2) (Q .next r2) (fun z => Q (.ret z) r2)) E) E0 := fun i hi r hI => hs (i + 1) (by rw [List.length_cons]; omega) r hI
      cases f with
      | next => exact wp_forM ps (fun i => I (i + 1)) r2 hf hs' he
      | cont => exact wp_forM ps (fun i => I (i + 1)) r2 hf hs' he
      | brk => exact hf
      | ret z => exact hf
theorem wp_for_rg {a : Int} {n : Nat} {r : Env} (I : Int → Env → Prop) (h0 : I a r)
    (hs : ∀ v, a ≤ v → v < a + n → ∀ r, I v r → WP (tg (.int v) r) (fun _ r1 => WP (body r1) (fun f r2 => loopK f (Kp (I (v + 1)) r2) (Q .next r2) (fun z => Q (.ret z) r2)) E) E0)
    (he : ∀ r, I (a + n) r → Q .next r) : WP (BL.forM tg body (rgIt a n 1) r) Q E := by
  have hl : (rgIt a n 1).length = n := by unfold rgIt; simp
  refine wp_forM (rgIt a n 1) (fun i => I (a + i)) r (by simpa using h0) (fun i hi r hI => ?_) (fun r hI => he r (by rw [hl] at hI; exact hI))
  have e : (rgIt a n 1)[i] = .int (a + i) := by
    unfold rgIt
    simp
  rw [e]
  have := hs (a + i) (by omega) (by omega) r hI
  rw [show a + (i : Int) + 1 = a + ((i + 1 : Nat) : Int) by omega] at this
  exact this
theorem wp_for_dn {a : Int} {n : Nat} {r : Env} (I : Int → Env → Prop) (h0 : I a r)
    (hs : ∀ v, v ≤ a → a - n < v → ∀ r, I v r → WP (tg (.int v) r) (fun _ r1 => WP (body r1) (fun f r2 => loopK f (Kp (I (v - 1)) r2) (Q .next r2) (fun z => Q (.ret z) r2)) E) E0)
    (he : ∀ r, I (a - n) r → Q .next r) : WP (BL.forM tg body (rgIt a n (-1)) r) Q E := by
  have hl : (rgIt a n (-1)).length = n := by unfold rgIt; simp
  refine wp_forM (rgIt a n (-1)) (fun i => I (a - i)) r (by simpa using h0) (fun i hi r hI => ?_) (fun r hI => he r (by rw [hl] at hI; exact hI))
  have e : (rgIt a n (-1))[i] = .int (a - i) := by
    unfold rgIt
    simp
    omega
  rw [e]
  have := hs (a - i) (by omega) (by omega) r hI
  rw [show a - (i : Int) - 1 = a - ((i + 1 : Nat) : Int) by omega] at this
  exact this
theorem wp_for_in {α : Type} {f : α → PV} {xs : List α} {r : Env} (I : Nat → Env → Prop) (h0 : I 0 r)
    (hs : ∀ i (hi : i < xs.length) r, I i r → WP (tg (f xs[i]) r) (fun _ r1 => WP (body r1) (fun f r2 => loopK f (Kp (I (i + 1)) r2) (Q .next r2) (fun z => Q (.ret z) r2)) E) E0)
    (he : ∀ r, I xs.length r → Q .next r) : WP (BL.forM tg body (xs.map f) r) Q E := by
  refine wp_forM (xs.map f) I r h0 (fun i hi r hI => ?_) (fun r hI => he r (by rw [List.length_map] at hI; exact hI))
  rw [List.getElem_map]
  exact hs i (by rw [List.length_map] at hi; exact hi) r hI
theorem wp_for_en {α : Type} {f : α → PV} {xs : List α} {r : Env} (I : Nat → Env → Prop) (h0 : I 0 r)
    (hs : ∀ i (hi : i < xs.length) r, I i r → WP (tg (.tup [.int (i : Nat), f xs[i]]) r) (fun _ r1 => WP (body r1) (fun f r2 => loopK f (Kp (I (i + 1)) r2) (Q .next r2) (fun z => Q (.ret z) r2)) E) E0)
    (he : ∀ r, I xs.length r → Q .next r) : WP (BL.forM tg body (enumP 0 (xs.map f)) r) Q E := by
  refine wp_forM (enumP 0 (xs.map f)) I r h0 (fun i hi r hI => ?_) (fun r hI => he r (by rw [enumP_length, List.length_map] at hI; exact hI))
  have hi' : i < xs.length := by rw [enumP_length, List.length_map] at hi; exact hi
  rw [enumP_at hi']
  exact hs i hi' r hI
theorem wp_for_zip {α β : Type} {f : α → PV} {g : β → PV} {xs : List α} {ys : List β} {r : Env} (I : Nat → Env → Prop) (h0 : I 0 r)
    (hs : ∀ i (h1 : i < xs.length) (h2 : i < ys.length) r, I i r → WP (tg (.tup [f xs[i], g ys[i]]) r) (fun _ r1 => WP (body r1) (fun f r2 => loopK f (Kp (I (i + 1)) r2) (Q .next r2) (fun z => Q (.ret z) r2)) E) E0)
    (he : ∀ r, I (min xs.length ys.length) r → Q .next r) : WP (BL.forM tg body (zipP (xs.map f) (ys.map g)) r) Q E := by
  refine wp_forM (zipP (xs.map f) (ys.map g)) I r h0 (fun i hi r hI => ?_) (fun r hI => he r (by rw [zipP_length, List.length_map, List.length_map] at hI; exact hI))
  rw [zipP_length, List.length_map, List.length_map] at hi
  rw [zipP_at (by omega) (by omega)]
  exact hs i (by omega) (by omega) r hI
theorem wp_while {c : M Bool} {b : M Fl} {r : Env} (I : Nat → Env → Prop) (n : Nat) (h0 : I n r)
    (hs : ∀ k r, I k r → WP (c r) (fun t r1 => wI t (WP (b r1) (fun f r2 => loopK f (Kp (fun r2 => ∃ j, j < k ∧ I j r2) r2) (Q .next r2) (fun z => Q (.ret z) r2)) E) (Q .next r1)) E) : WP (mWhile c b r) Q E := by
  have gen : ∀ n r, I n r → ∃ m, WP (whileN c b m r) Q E := by
    intro n
    induction n using Nat.strongRecOn with
    | ind n ih =>
      intro r hI
      have h := hs n r hI
      cases hc : c r with
      | no => rw [hc] at h; exact h.elim
      | exc x r1 =>
        rw [hc] at h
        refine ⟨1, ?_⟩
        unfold whileN
        rw [hc]
        exact h
      | ok t r1 =>
        rw [hc, wp_ok] at h
        cases t with
        | false =>
          rw [wI_false] at h
          refine ⟨1, ?_⟩
          unfold whileN
          rw [hc]
          exact h
        | true =>
          rw [wI_true] at h
          cases hb : b r1 with
          | no => rw [hb] at h; exact h.elim
          | exc x r2 =>
            rw [hb] at h
            refine ⟨1, ?_⟩
            unfold whileN
            rw [hc]
            dsimp only
            rw [hb]
            exact h
          | ok f r2 =>
            rw [hb, wp_ok] at h
            cases f with
            | next =>
              obtain ⟨j, hj, hI2⟩ := h
              obtain ⟨m, hm⟩ := ih j hj r2 hI2
              refine ⟨m + 1, ?_⟩
              unfold whileN
              rw [hc]
              dsimp only
              rw [hb]
              exact hm
            | cont =>
              obtain ⟨j, hj, hI2⟩ := h
              obtain ⟨m, hm⟩ := ih j hj r2 hI2
              refine ⟨m + 1, ?_⟩
              unfold whileN
              rw [hc]
              dsimp only
              rw [hb]
              exact hm
            | brk =>
              refine ⟨1, ?_⟩
              unfold whileN
              rw [hc]
              dsimp only
              rw [hb]
              exact h
            | ret z =>
              refine ⟨1, ?_⟩
              unfold whileN
              rw [hc]
              dsimp only
              rw [hb]
              exact h
  obtain ⟨m, hm⟩ := gen n r h0
  have hn : whileN c b m r ≠ .no := fun e => by rw [e] at hm; exact hm
  have he : ∃ n, whileN c b n r ≠ .no := ⟨m, hn⟩
  have e : mWhile c b r = whileN c b m r := by
    unfold mWhile
    rw [dif_pos he]
    have hs := Classical.choose_spec he
    rcases Nat.le_total m (Classical.choose he) with q | q
    · exact whileN_le c b hn q
    · exact (whileN_le c b hs q).symm
  rw [e]
  exact hm
end
theorem wI_joinI {b : Bool} {m n : M RV} {r : Env} {Q : RV → Env → Prop} {E : Nat → Env → Prop} (x y : Int) (h1 : b = true → WP (m r) (fun z r1 => Kp (fun t : RV × Env => t = (.val (.int x), r)) (z, r1)) E0) (h2 : b = false → WP (n r) (fun z r1 => Kp (fun t : RV × Env => t = (.val (.int y), r)) (z, r1)) E0)
    (k : Q (.val (.int (if b = true then x else y))) r) : wI b (WP (m r) Q E) (WP (n r) Q E) := by
  refine ⟨fun hb => ?_, fun hb => ?_⟩
  · rw [if_pos hb] at k
    refine wp_mono (h1 hb) (fun z r1 h => ?_) fun _ _ z => z.elim
    have h : (z, r1) = (.val (.int x), r) := h
    cases h
    exact k
  · rw [if_neg (by rw [hb]; exact Bool.false_ne_true)] at k
    refine wp_mono (h2 hb) (fun z r1 h => ?_) fun _ _ z => z.elim
    have h : (z, r1) = (.val (.int y), r) := h
    cases h
    exact k
theorem wI_joinP {b : Bool} {m n : M RV} {r : Env} {Q : RV → Env → Prop} {E : Nat → Env → Prop} (x y : PV) (h1 : b = true → WP (m r) (fun z r1 => Kp (fun t : RV × Env => t = (.val x, r)) (z, r1)) E0) (h2 : b = false → WP (n r) (fun z r1 => Kp (fun t : RV × Env => t = (.val y, r)) (z, r1)) E0)
    (k : Q (.val (if b = true then x else y)) r) : wI b (WP (m r) Q E) (WP (n r) Q E) := by
  refine ⟨fun hb => ?_, fun hb => ?_⟩
  · rw [if_pos hb] at k
    refine wp_mono (h1 hb) (fun z r1 h => ?_) fun _ _ z => z.elim
    have h : (z, r1) = (.val x, r) := h
    cases h
    exact k
  · rw [if_neg (by rw [hb]; exact Bool.false_ne_true)] at k
    refine wp_mono (h2 hb) (fun z r1 h => ?_) fun _ _ z => z.elim
    have h : (z, r1) = (.val y, r) := h
    cases h
    exact k
/-! ### comprehensions -/
section
variable {vs : List Nat} {tg : PV → M Unit} {tt : M Bool} {te : M RV} {E : Nat → Env → Prop}
theorem wp_yes {r : Env} {Q : Bool → Env → Prop} : WP (mYes r) Q E = Q true r := id rfl
def isVal (z : RV) (k : PV → Prop) : Prop := match z with
  | .val p => k p
  | _ => False
theorem isVal_val {p : PV} {k : PV → Prop} : isVal (.val p) k = k p := id rfl
theorem compM_wp : ∀ (items acc : List PV) (I : Nat → List PV → Env → Prop) (r : Env) {Q : List PV → Env → Prop}, acc.length + items.length ≤ 16777216 → I 0 acc r →
    (∀ i (hi : i < items.length) acc r, I i acc r → WP (tg items[i] r) (fun _ r1 => WP (tt r1) (fun b r2 => wI b (WP (te r2) (fun z r3 => isVal z fun y => wC (plainSl vs r3 = true) (Kp (I (i + 1) (acc ++ [y])) (wipeE vs r3))) E0) (wC (plainSl vs r2 = true) (Kp (I (i + 1) acc) (wipeE vs r2)))) E0) E0) →
    (∀ acc r, I items.length acc r → Q acc r) → WP (compM vs tg tt te items acc r) Q E
  | [], acc, I, r, Q, _, h0, _, he => he acc r h0
  | p :: ps, acc, I, r, Q, hl, h0, hs, he => by
    have h := hs 0 (Nat.zero_lt_succ _) acc r h0
    have e1 : (p :: ps)[0]'(Nat.zero_lt_succ _) = p := rfl
    rw [e1] at h
    rw [List.length_cons] at hl
    have hs' : ∀ i (hi : i < ps.length) acc r, I (i + 1) acc r → WP (tg ps[i] r) (fun _ r1 => WP (tt r1) (fun b r2 => wI b (WP (te r2) (fun z r3 => isVal z fun y => wC (plainSl vs r3 = true) (Kp (I (i + 1 + 1) (acc ++ [y])) (wipeE vs r3))) E0) (wC (plainSl vs r2 = true) (Kp (I (i + 1 + 1) acc) (wipeE vs r2)))) E0) E0 := fun i hi acc r hI => hs (i + 1) (by rw [List.length_cons]; omega) acc r hI
    unfold compM
    cases ht : tg p r with
    | exc c r1 => rw [ht] at h; exact h.elim
    | no => rw [ht] at h; exact h.elim
    | ok u r1 =>
      rw [ht, wp_ok] at h
      dsimp only
      cases h2 : tt r1 with
      | exc c r1 => rw [h2] at h; exact h.elim
      | no => rw [h2] at h; exact h.elim
      | ok b r2 =>
        rw [h2, wp_ok] at h
        cases b with
        | false =>
          rw [wI_false] at h
          unfold wC at h
          dsimp only
          rw [if_pos h.1]
          exact compM_wp ps acc (fun i => I (i + 1)) _ (by omega) h.2 hs' he
        | true =>
          rw [wI_true] at h
          dsimp only
          cases h3 : te r2 with
          | exc c r1 => rw [h3] at h; exact h.elim
          | no => rw [h3] at h; exact h.elim
          | ok z r3 =>
            rw [h3, wp_ok] at h
            cases z with
            | val y =>
              rw [isVal_val] at h
              unfold wC at h
              dsimp only
              rw [if_pos ⟨h.1, show acc.length < 16777216 by omega⟩]
              exact compM_wp ps (acc ++ [y]) (fun i => I (i + 1)) _ (by rw [List.length_append, List.length_singleton]; omega) h.2 hs' he
            | _ => exact h.elim
theorem comp_in {α β : Type} {f : α → PV} {g : β → PV} (xs : List α) (c : α → Bool) (h : α → β) {r : Env} {Q : List PV → Env → Prop} (hl : xs.length ≤ 16777216)
    (hs : ∀ i (hi : i < xs.length), WP (tg (f xs[i]) r) (fun _ r1 => WP (tt r1) (fun b r2 => wT b (c xs[i]) (WP (te r2) (fun z r3 => Kp (fun t : RV × Env => t.1 = .val (g (h xs[i])) ∧ plainSl vs t.2 = true ∧ wipeE vs t.2 = r) (z, r3)) E0) (Kp (fun r2 => plainSl vs r2 = true ∧ wipeE vs r2 = r) r2)) E0) E0)
    (he : Q (((xs.filter c).map h).map g) r) : WP (compM vs tg tt te (xs.map f) [] r) Q E := by
  refine compM_wp (xs.map f) [] (fun i acc r' => acc = (((xs.take i).filter c).map h).map g ∧ r' = r) r (by rw [List.length_map]; simpa using hl) ⟨by simp, rfl⟩ (fun i hi acc r' hI => ?_) fun acc r' hI => ?_
  · obtain ⟨rfl, rfl⟩ := hI
    rw [List.length_map] at hi
    rw [List.getElem_map]
    have hc : xs.take (i + 1) = xs.take i ++ [xs[i]] := by rw [List.take_succ, List.getElem?_eq_getElem hi]; rfl
    refine wp_mono (hs i hi) (fun _ r1 h1 => wp_mono h1 (fun b r2 h2 => ?_) fun _ _ z => z) fun _ _ z => z
    obtain ⟨rfl, h3, h4⟩ := h2
    refine ⟨fun hb => wp_mono (h3 hb) (fun z r3 h5 => ?_) fun _ _ z => z, fun hb => ?_⟩
    · obtain ⟨rfl, h6, h7⟩ := h5
      refine ⟨h6, ?_, h7⟩
      rw [hc, List.filter_append, List.map_append, List.map_append, List.filter_cons_of_pos hb]
      rfl
    · refine ⟨(h4 hb).1, ?_, (h4 hb).2⟩
      rw [hc, List.filter_append, List.map_append, List.map_append, List.filter_cons_of_neg (by rw [hb]; exact Bool.false_ne_true)]
      simp
  · obtain ⟨rfl, rfl⟩ := hI
    rw [List.length_map, List.take_length]
    exact he
theorem comp_map {α β : Type} {f : α → PV} {g : β → PV} (xs : List α) (h : α → β) {r : Env} {Q : List PV → Env → Prop} (hl : xs.length ≤ 16777216)
    (hs : ∀ i (hi : i < xs.length), WP (tg (f xs[i]) r) (fun _ r1 => WP (te r1) (fun z r3 => Kp (fun t : RV × Env => t.1 = .val (g (h xs[i])) ∧ plainSl vs t.2 = true ∧ wipeE vs t.2 = r) (z, r3)) E0) E0)
    (he : Q ((xs.map h).map g) r) : WP (compM vs tg mYes te (xs.map f) [] r) Q E := by
  refine comp_in xs (fun _ => true) h hl (fun i hi => ?_) (by rw [List.filter_eq_self.mpr fun _ _ => rfl]; exact he)
  refine wp_mono (hs i hi) (fun _ r1 h1 => ?_) fun _ _ z => z
  exact ⟨rfl, fun _ => h1, fun e => by cases e⟩
theorem comp_inP {β : Type} {g : β → PV} (xs : List PV) (c : PV → Bool) (h : PV → β) {r : Env} {Q : List PV → Env → Prop} (hl : xs.length ≤ 16777216)
    (hs : ∀ i (hi : i < xs.length), WP (tg xs[i] r) (fun _ r1 => WP (tt r1) (fun b r2 => wT b (c xs[i]) (WP (te r2) (fun z r3 => Kp (fun t : RV × Env => t.1 = .val (g (h xs[i])) ∧ plainSl vs t.2 = true ∧ wipeE vs t.2 = r) (z, r3)) E0) (Kp (fun r2 => plainSl vs r2 = true ∧ wipeE vs r2 = r) r2)) E0) E0)
    (he : Q (((xs.filter c).map h).map g) r) : WP (compM vs tg tt te xs [] r) Q E := by
  have := comp_in (vs := vs) (tg := tg) (tt := tt) (te := te) (E := E) (f := id) (g := g) xs c h (r := r) (Q := Q) hl hs he
  rw [List.map_id] at this
  exact this
theorem comp_mapP {β : Type} {g : β → PV} (xs : List PV) (h : PV → β) {r : Env} {Q : List PV → Env → Prop} (hl : xs.length ≤ 16777216)
    (hs : ∀ i (hi : i < xs.length), WP (tg xs[i] r) (fun _ r1 => WP (te r1) (fun z r3 => Kp (fun t : RV × Env => t.1 = .val (g (h xs[i])) ∧ plainSl vs t.2 = true ∧ wipeE vs t.2 = r) (z, r3)) E0) E0)
    (he : Q ((xs.map h).map g) r) : WP (compM vs tg mYes te xs [] r) Q E := by
  have := comp_map (vs := vs) (tg := tg) (te := te) (E := E) (f := id) (g := g) xs h (r := r) (Q := Q) hl hs he
  rw [List.map_id] at this
  exact this
theorem comp_en {α β : Type} {f : α → PV} {g : β → PV} (xs : List α) (c : α × Nat → Bool) (h : α × Nat → β) {r : Env} {Q : List PV → Env → Prop} (hl : xs.length ≤ 16777216)
    (hs : ∀ i (hi : i < xs.length), WP (tg (.tup [.int (i : Nat), f xs[i]]) r) (fun _ r1 => WP (tt r1) (fun b r2 => wT b (c (xs[i], i)) (WP (te r2) (fun z r3 => Kp (fun t : RV × Env => t.1 = .val (g (h (xs[i], i))) ∧ plainSl vs t.2 = true ∧ wipeE vs t.2 = r) (z, r3)) E0) (Kp (fun r2 => plainSl vs r2 = true ∧ wipeE vs r2 = r) r2)) E0) E0)
    (he : Q (((xs.zipIdx.filter c).map h).map g) r) : WP (compM vs tg tt te (enumP 0 (xs.map f)) [] r) Q E := by
  rw [enumP_eq]
  refine comp_in xs.zipIdx c h (by rw [List.length_zipIdx]; exact hl) (fun i hi => ?_) he
  rw [List.length_zipIdx] at hi
  have e : xs.zipIdx[i]'(by rw [List.length_zipIdx]; exact hi) = (xs[i], i) := by rw [List.getElem_zipIdx, Nat.zero_add]
  rw [e]
  exact hs i hi
theorem comp_zip {α α' β : Type} {f : α → PV} {f' : α' → PV} {g : β → PV} (xs : List α) (ys : List α') (c : α × α' → Bool) (h : α × α' → β) {r : Env} {Q : List PV → Env → Prop} (hl : xs.length ≤ 16777216)
    (hs : ∀ i (hi : i < xs.length) (hi2 : i < ys.length), WP (tg (.tup [f xs[i], f' ys[i]]) r) (fun _ r1 => WP (tt r1) (fun b r2 => wT b (c (xs[i], ys[i])) (WP (te r2) (fun z r3 => Kp (fun t : RV × Env => t.1 = .val (g (h (xs[i], ys[i]))) ∧ plainSl vs t.2 = true ∧ wipeE vs t.2 = r) (z, r3)) E0) (Kp (fun r2 => plainSl vs r2 = true ∧ wipeE vs r2 = r) r2)) E0) E0)
    (he : Q ((((xs.zip ys).filter c).map h).map g) r) : WP (compM vs tg tt te (zipP (xs.map f) (ys.map f')) [] r) Q E := by
  rw [zipP_eq]
  refine comp_in (xs.zip ys) c h (by rw [List.length_zip]; omega) (fun i hi => ?_) he
  rw [List.length_zip] at hi
  rw [List.getElem_zip]
  exact hs i (by omega) (by omega)
end
end
end BL.BLo
/-! B, the plain side: weakest preconditions whose posts simp does not look into (they are instances). -/
namespace BL
noncomputable section
open PySem PySem.Spec PyProof.Rows L2
class Pst (T : Type) where
  k : T
abbrev E0 : Pst (Nat → Env → Prop) := ⟨BLo.E0⟩
abbrev G0 : Pst (Nat → List (Stt × PV) → List Inst → Prop) := ⟨BLo.G0⟩
def WP {α : Type} (x : Res α) {Q : Pst (α → Env → Prop)} {E : Pst (Nat → Env → Prop)} : Prop := BLo.WP x Q.k E.k
def FPc (x : FRes) {Q : Pst (RV → List (Stt × PV) → List Inst → Prop)} {E : Pst (Nat → List (Stt × PV) → List Inst → Prop)} : Prop := BLo.FP x Q.k E.k
def FPk (x : FRes) {Q : Pst (RV → List (Stt × PV) → List Inst → Prop)} {E : Pst (Nat → List (Stt × PV) → List Inst → Prop)} : Prop := BLo.FPk x Q.k E.k
abbrev FP (x : FRes) (Q : RV → List (Stt × PV) → List Inst → Prop) (E : Pst (Nat → List (Stt × PV) → List Inst → Prop)) : Prop := @FPc x ⟨Q⟩ E
def wO {α : Type} (o : Option α) {k : Pst (α → Prop)} : Prop := BLo.wO o k.k
def wC (c : Prop) {P : Pst Prop} : Prop := BLo.wC c P.k
def wI (b : Bool) {A B : Pst Prop} : Prop := BLo.wI b A.k B.k
def wT (b c : Bool) {A B : Pst Prop} : Prop := BLo.wT b c A.k B.k
def seqK (f : Fl) {A B : Pst Prop} : Prop := BLo.seqK f A.k B.k
def loopK (f : Fl) {A B : Pst Prop} {C : Pst (RV → Prop)} : Prop := BLo.loopK f A.k B.k C.k
def Kp {α : Type} {P : Pst (α → Prop)} (a : α) : Prop := P.k a
def isVal (z : RV) {k : Pst (PV → Prop)} : Prop := BLo.isVal z k.k
section
variable {α β : Type}
theorem kp {P : α → Prop} {a : α} (h : P a) : @Kp α ⟨P⟩ a := h
theorem wO_some {a : α} {k : Pst (α → Prop)} : @wO _ (some a) k = k.k a := id rfl
theorem wO_map {o : Option β} {f : β → α} {k : Pst (α → Prop)} : @wO _ (o.map f) k = @wO _ o ⟨fun b => k.k (f b)⟩ := by cases o <;> rfl
theorem wO_bind {o : Option β} {f : β → Option α} {k : Pst (α → Prop)} : @wO _ (o.bind f) k = @wO _ o ⟨fun b => @wO _ (f b) k⟩ := by cases o <;> rfl
theorem wC_of {c : Prop} {P : Pst Prop} (h : c) : @wC c P = P.k := by exact BLo.wC_of h
theorem wC_true {P : Pst Prop} : @wC True P = P.k := by exact BLo.wC_of trivial
theorem wI_true {A B : Pst Prop} : @wI true A B = A.k := by exact BLo.wI_true
theorem wI_false {A B : Pst Prop} : @wI false A B = B.k := by exact BLo.wI_false
theorem wI_not {b : Bool} {A B : Pst Prop} : @wI (!b) A B = @wI b B A := by exact BLo.wI_not
theorem wI_dec {c : Prop} {d : Decidable c} {A B : Prop} (h1 : c → A) (h2 : ¬ c → B) : @wI (@decide c d) ⟨A⟩ ⟨B⟩ := by exact BLo.wI_dec h1 h2
theorem wI_pos {c : Prop} {d : Decidable c} {A B : Pst Prop} (h : c) : @wI (@decide c d) A B = A.k := by exact BLo.wI_pos h
theorem wI_neg {c : Prop} {d : Decidable c} {A B : Pst Prop} (h : ¬ c) : @wI (@decide c d) A B = B.k := by exact BLo.wI_neg h
theorem wT_of {b c : Bool} {A B : Prop} (h : b = c) (h1 : c = true → A) (h2 : c = false → B) : @wT b c ⟨A⟩ ⟨B⟩ := ⟨h, h1, h2⟩
theorem seqK_next {A B : Pst Prop} : @seqK .next A B = A.k := id rfl
theorem seqK_brk {A B : Pst Prop} : @seqK .brk A B = B.k := id rfl
theorem seqK_cont {A B : Pst Prop} : @seqK .cont A B = B.k := id rfl
theorem seqK_ret {A B : Pst Prop} {z : RV} : @seqK (.ret z) A B = B.k := id rfl
theorem loopK_next {A B : Pst Prop} {C : Pst (RV → Prop)} : @loopK .next A B C = A.k := id rfl
theorem loopK_cont {A B : Pst Prop} {C : Pst (RV → Prop)} : @loopK .cont A B C = A.k := id rfl
theorem loopK_brk {A B : Pst Prop} {C : Pst (RV → Prop)} : @loopK .brk A B C = B.k := id rfl
theorem loopK_ret {A B : Pst Prop} {C : Pst (RV → Prop)} {z : RV} : @loopK (.ret z) A B C = C.k z := id rfl
theorem isVal_val {p : PV} {k : Pst (PV → Prop)} : @isVal (.val p) k = k.k p := id rfl
theorem wp_mono {x : Res α} {Q Q' : α → Env → Prop} {E E' : Nat → Env → Prop} (h : @WP α x ⟨Q⟩ ⟨E⟩) (i : ∀ a r, Q a r → Q' a r) (j : ∀ c r, E c r → E' c r) : @WP α x ⟨Q'⟩ ⟨E'⟩ := by exact BLo.wp_mono h i j
theorem fp_mono {x : FRes} {Q Q' : RV → List (Stt × PV) → List Inst → Prop} {E E' : Nat → List (Stt × PV) → List Inst → Prop} (h : @FPc x ⟨Q⟩ ⟨E⟩) (i : ∀ z ln st, Q z ln st → Q' z ln st) (j : ∀ c ln st, E c ln st → E' c ln st) : @FPc x ⟨Q'⟩ ⟨E'⟩ := by exact BLo.fp_mono h i j
theorem fp_by {x : FRes} {P Q : RV → List (Stt × PV) → List Inst → Prop} {E : Pst (Nat → List (Stt × PV) → List Inst → Prop)} (h : FP x P G0) (i : ∀ z ln st, P z ln st → Q z ln st) : @FPc x ⟨Q⟩ E := by exact BLo.fp_by h i
theorem fp_eq {x : FRes} {z : RV} {ln : List (Stt × PV)} {st : List Inst} (h : FP x (fun a b c => a = z ∧ b = ln ∧ c = st) G0) : x = .ok z ln st := by exact BLo.fp_eq h
theorem fp_of {x : FRes} {z : RV} {ln : List (Stt × PV)} {st : List Inst} (h : x = .ok z ln st) : FP x (fun a b c => a = z ∧ b = ln ∧ c = st) G0 := by exact BLo.fp_of h
end
/-! B, the plain side: weakest preconditions of mirrors; equations for simp only. -/
section
variable {α β : Type} {Q : Pst (α → Env → Prop)} {E : Pst (Nat → Env → Prop)} {r : Env}
theorem wp_ok {a : α} : (@WP _ (.ok a r) Q E) = Q.k a r := by exact BLo.wp_ok
theorem wp_exc {c : Nat} : (@WP _ (.exc c r) Q E) = E.k c r := by exact BLo.wp_exc
theorem wp_bind {m : M β} {f : β → M α} : (@WP _ (M.bind m f r) Q E) = (@WP _ (m r) ⟨fun a r1 => (@WP _ (f a r1) Q E)⟩ E) := by exact BLo.wp_bind
theorem wp_pure {a : α} : (@WP _ (M.pure a r) Q E) = Q.k a r := by exact BLo.wp_pure
theorem wp_no : (@WP _ (M.no r) Q E) = False := by exact BLo.wp_no
theorem wp_opt {o : Option α} : (@WP _ (M.opt o r) Q E) = (@wO _ o ⟨fun a => Q.k a r⟩) := by exact BLo.wp_opt
end
section
variable {sl : List Slot} {ln : List (Stt × PV)} {st : List Inst} {r : Env} {E : Pst (Nat → Env → Prop)}
theorem wp_var {i : Nat} {Q : Pst (RV → Env → Prop)} : (@WP _ (mVar i ⟨sl, ln, st⟩) Q E) = (@wO _ sl[i]? ⟨fun x => (@wO _ (slV i x) ⟨fun z => Q.k z ⟨sl, ln, st⟩⟩)⟩) := by exact BLo.wp_var
theorem wp_val {p : PV} {Q : Pst (RV → Env → Prop)} : (@WP _ (mVal p r) Q E) = Q.k (.val p) r := by exact BLo.wp_val
theorem wp_bin {f : PV → PV → Option RV} {a b : M RV} {Q : Pst (RV → Env → Prop)} : (@WP _ (mBin f a b r) Q E) = (@WP _ (a r) ⟨fun x r1 => (@WP _ (b r1) ⟨fun y r2 => (@WP _ (look2 f x y r2) Q E)⟩ E)⟩ E) := by exact BLo.wp_bin
theorem wp_look2 {f : PV → PV → Option RV} {x y : RV} {Q : Pst (RV → Env → Prop)} : (@WP _ (look2 f x y r) Q E) = (@wO _ (peek r x) ⟨fun p => (@wO _ (peek r y) ⟨fun q => (@wO _ (f p q) ⟨fun z => Q.k z r⟩)⟩)⟩) := by exact BLo.wp_look2
theorem wp_un {f : PV → Option RV} {a : M RV} {Q : Pst (RV → Env → Prop)} : (@WP _ (mUn f a r) Q E) = (@WP _ (a r) ⟨fun x r1 => (@wO _ (peek r1 x) ⟨fun p => (@wO _ (f p) ⟨fun z => Q.k z r1⟩)⟩)⟩ E) := by exact BLo.wp_un
theorem wp_tst {f : PV → PV → Option Bool} {a b : M RV} {Q : Pst (Bool → Env → Prop)} : (@WP _ (mTst f a b r) Q E) = (@WP _ (a r) ⟨fun x r1 => (@WP _ (b r1) ⟨fun y r2 => (@wO _ (peek r2 x) ⟨fun p => (@wO _ (peek r2 y) ⟨fun q => (@wO _ (f p q) ⟨fun z => Q.k z r2⟩)⟩)⟩)⟩ E)⟩ E) := by exact BLo.wp_tst
theorem wp_chain {f g : PV → PV → Option Bool} {a b c : M RV} {Q : Pst (Bool → Env → Prop)} : (@WP _ (mChain f g a b c r) Q E) = (@WP _ (a r) ⟨fun x r1 => (@WP _ (b r1) ⟨fun y r2 => (@wO _ (peek r2 x) ⟨fun p => (@wO _ (peek r2 y) ⟨fun q => (@wO _ (f p q) ⟨fun t =>
    (@wI t ⟨(@WP _ (c r2) ⟨fun z r3 => (@wO _ (peek r3 y) ⟨fun p => (@wO _ (peek r3 z) ⟨fun q => (@wO _ (g p q) ⟨fun u => Q.k u r3⟩)⟩)⟩)⟩ E)⟩ ⟨Q.k false r2⟩)⟩)⟩)⟩)⟩ E)⟩ E) := by exact BLo.wp_chain
theorem wp_boolV {m : M Bool} {Q : Pst (RV → Env → Prop)} : (@WP _ (mBoolV m r) Q E) = (@WP _ (m r) ⟨fun b r1 => Q.k (.val (.bl b)) r1⟩ E) := by exact BLo.wp_boolV
theorem wp_truth {m : M RV} {Q : Pst (Bool → Env → Prop)} : (@WP _ (mTruth m r) Q E) = (@WP _ (m r) ⟨fun x r1 => (@wO _ (peek r1 x) ⟨fun p => (@wO _ (blOf p) ⟨fun b => Q.k b r1⟩)⟩)⟩ E) := by exact BLo.wp_truth
theorem wp_notT {m : M Bool} {Q : Pst (Bool → Env → Prop)} : (@WP _ (mNotT m r) Q E) = (@WP _ (m r) ⟨fun b r1 => Q.k (!b) r1⟩ E) := by exact BLo.wp_notT
theorem wp_ite {α : Type} {b : Bool} {m n : M α} {Q : Pst (α → Env → Prop)} : (@WP _ ((if b = true then m else n) r) Q E) = (@wI b ⟨(@WP _ (m r) Q E)⟩ ⟨(@WP _ (n r) Q E)⟩) := by exact BLo.wp_ite
theorem wp_andT {m n : M Bool} {Q : Pst (Bool → Env → Prop)} : (@WP _ (mAndT m n r) Q E) = (@WP _ (m r) ⟨fun b r1 => (@wI b ⟨(@WP _ (n r1) Q E)⟩ ⟨Q.k false r1⟩)⟩ E) := by exact BLo.wp_andT
theorem wp_orT {m n : M Bool} {Q : Pst (Bool → Env → Prop)} : (@WP _ (mOrT m n r) Q E) = (@WP _ (m r) ⟨fun b r1 => (@wI b ⟨Q.k true r1⟩ ⟨(@WP _ (n r1) Q E)⟩)⟩ E) := by exact BLo.wp_orT
theorem wp_andV {m n : M RV} {Q : Pst (RV → Env → Prop)} : (@WP _ (mAndV m n r) Q E) = (@WP _ (mTruth m r) ⟨fun b r1 => (@wI b ⟨(@WP _ (n r1) Q E)⟩ ⟨Q.k (.val (.bl false)) r1⟩)⟩ E) := by exact BLo.wp_andV
theorem wp_orV {m n : M RV} {Q : Pst (RV → Env → Prop)} : (@WP _ (mOrV m n r) Q E) = (@WP _ (mTruth m r) ⟨fun b r1 => (@wI b ⟨Q.k (.val (.bl true)) r1⟩ ⟨(@WP _ (n r1) Q E)⟩)⟩ E) := by exact BLo.wp_orV
theorem wp_notV {m : M RV} {Q : Pst (RV → Env → Prop)} : (@WP _ (mNotV m r) Q E) = (@WP _ (mTruth m r) ⟨fun b r1 => Q.k (.val (.bl (!b))) r1⟩ E) := by exact BLo.wp_notV
theorem wp_if {t : M Bool} {m n : M RV} {Q : Pst (RV → Env → Prop)} : (@WP _ (mIf t m n r) Q E) = (@WP _ (t r) ⟨fun b r1 => (@wI b ⟨(@WP _ (m r1) Q E)⟩ ⟨(@WP _ (n r1) Q E)⟩)⟩ E) := by exact BLo.wp_if
theorem wp_frz {m : M RV} {Q : Pst (RV → Env → Prop)} : (@WP _ (mFrz m r) Q E) = (@WP _ (m r) ⟨fun z r1 => (@WP _ (frzM z r1) Q E)⟩ E) := by exact BLo.wp_frz
theorem wp_frzM_val {p : PV} {Q : Pst (RV → Env → Prop)} : (@WP _ (frzM (.val p) r) Q E) = Q.k (.val p) r := by exact BLo.wp_frzM_val
theorem wp_frzM_fresh {p : PV} {Q : Pst (RV → Env → Prop)} : (@WP _ (frzM (.fresh p) r) Q E) = Q.k (.val p) r := by exact BLo.wp_frzM_fresh
theorem wp_frzM_loan {k : Nat} {Q : Pst (RV → Env → Prop)} : (@WP _ (frzM (.loan k) r) Q E) = (@WP _ (frzLn k r) Q E) := by exact BLo.wp_frzM_loan
def frzK (sl : List Slot) (ln : List (Stt × PV)) (st : List Inst) {E : Pst (Nat → Env → Prop)} (i : Nat) {Q : Pst (RV → Env → Prop)} (x : Slot) : Prop := BLo.frzK sl ln st E.k i Q.k x
theorem frzK_val {i : Nat} {Q : Pst (RV → Env → Prop)} {p : PV} : (@frzK sl ln st E i Q (.val p)) = Q.k (.val p) ⟨sl, ln, st⟩ := by exact BLo.frzK_val
theorem frzK_own {i : Nat} {Q : Pst (RV → Env → Prop)} {p : PV} : (@frzK sl ln st E i Q (.own false p)) = Q.k (.val p) ⟨sl.set i (.val p), ln, st⟩ := by exact BLo.frzK_own
theorem frzK_loan {i k : Nat} {Q : Pst (RV → Env → Prop)} : (@frzK sl ln st E i Q (.loan k)) = (@WP _ (frzLn k ⟨sl, ln, st⟩) Q E) := by exact BLo.frzK_loan
theorem wp_frzM_slot {i : Nat} {Q : Pst (RV → Env → Prop)} : (@WP _ (frzM (.slot i) ⟨sl, ln, st⟩) Q E) = (@wO _ sl[i]? ⟨fun x => (@frzK sl ln st E i Q x)⟩) := by exact BLo.wp_frzM_slot
def frzLK (sl : List Slot) (ln : List (Stt × PV)) (st : List Inst) (k : Nat) {Q : Pst (RV → Env → Prop)} (x : Stt × PV) : Prop := BLo.frzLK sl ln st k Q.k x
theorem frzLK_froz {k : Nat} {Q : Pst (RV → Env → Prop)} {p : PV} : (@frzLK sl ln st k Q (.froz, p)) = Q.k (.val p) ⟨sl, ln, st⟩ := by exact BLo.frzLK_froz
theorem frzLK_live {k : Nat} {Q : Pst (RV → Env → Prop)} {p : PV} : (@frzLK sl ln st k Q (.live, p)) = Q.k (.val p) ⟨sl, ln.set k (.froz, p), st⟩ := by exact BLo.frzLK_live
theorem wp_frzLn {k : Nat} {Q : Pst (RV → Env → Prop)} : (@WP _ (frzLn k ⟨sl, ln, st⟩) Q E) = (@wO _ ln[k]? ⟨fun x => (@frzLK sl ln st k Q x)⟩) := by exact BLo.wp_frzLn
theorem wp_nilA {Q : Pst (List RV → Env → Prop)} : (@WP _ (mNilA r) Q E) = Q.k [] r := by exact BLo.wp_nilA
theorem wp_consA {m : M RV} {ms : M (List RV)} {Q : Pst (List RV → Env → Prop)} : (@WP _ (mConsA m ms r) Q E) = (@WP _ (m r) ⟨fun x r1 => (@WP _ (ms r1) ⟨fun xs r2 => Q.k (x :: xs) r2⟩ E)⟩ E) := by exact BLo.wp_consA
theorem wp_tup {ms : M (List RV)} {Q : Pst (RV → Env → Prop)} : (@WP _ (mTup ms r) Q E) = (@WP _ (ms r) ⟨fun rs r1 => (@wO _ (valsOf rs) ⟨fun ps => (@wC (ps.length ≤ 16777216) ⟨Q.k (.val (.tup ps)) r1⟩)⟩)⟩ E) := by exact BLo.wp_tup
theorem wp_lst {ms : M (List RV)} {Q : Pst (RV → Env → Prop)} : (@WP _ (mLst ms r) Q E) = (@WP _ (ms r) ⟨fun rs r1 => (@wO _ (valsOf rs) ⟨fun ps => (@wC (ps.length ≤ 16777216) ⟨Q.k (.fresh (.lst ps)) r1⟩)⟩)⟩ E) := by exact BLo.wp_lst
theorem wp_blt {f : List PV → Option RV} {ms : M (List RV)} {Q : Pst (RV → Env → Prop)} : (@WP _ (mBlt f ms r) Q E) = (@WP _ (ms r) ⟨fun rs r1 => (@wO _ (peeks r1 rs) ⟨fun ps => (@wO _ (f ps) ⟨fun z => Q.k z r1⟩)⟩)⟩ E) := by exact BLo.wp_blt
theorem wp_call {F : Fn} {ms : M (List RV)} {Q : Pst (RV → Env → Prop)} : (@WP _ (mCall F ms r) Q E) = (@WP _ (ms r) ⟨fun rs r1 => (@WP _ (callV F rs r1) Q E)⟩ E) := by exact BLo.wp_call
theorem wp_callV {F : Fn} {rs : List RV} {Q : Pst (RV → Env → Prop)} : (@WP _ (callV F rs ⟨sl, ln, st⟩) Q E) = (@wO _ (valsOf rs) ⟨fun ps => (@FPc (F (ps.map .val) st) ⟨fun z _ st' => Q.k z ⟨sl, ln, st'⟩⟩ ⟨fun c _ st' => E.k c ⟨sl, ln, st'⟩⟩)⟩) := by exact BLo.wp_callV
theorem wp_callL {F : Fn} {j : Nat} {ms : M (List RV)} {Q : Pst (RV → Env → Prop)} : (@WP _ (mCallL F j ms r) Q E) = (@WP _ (ms r) ⟨fun rs r1 => (@WP _ (callL F j rs r1) Q E)⟩ E) := by exact BLo.wp_callL
theorem wp_callLn {F : Fn} {j : Nat} {rs : List RV} {Q : Pst (RV → Env → Prop)} : (@WP _ (callL F j rs r) Q E) = (@wO _ rs[j]? ⟨fun z => (@wO _ (valsOf (rs.take j)) ⟨fun ps => (@wO _ (valsOf (rs.drop (j + 1))) ⟨fun qs => (@wO _ (loanOf r z) ⟨fun x =>
    (@FPc (F (ps.map .val ++ .loan x.1 x.2.1 :: qs.map .val) r.st) ⟨fun y ln st => (@wO _ (one1 ln) ⟨fun t => Q.k y (putB { r with st := st } t.1 t.2 x.2.2)⟩)⟩ ⟨fun c ln st => (@wO _ (one1 ln) ⟨fun t => E.k c (putB { r with st := st } t.1 t.2 x.2.2)⟩)⟩)⟩)⟩)⟩)⟩) := by exact BLo.wp_callLn
/-! methods -/
def mutL (sl : List Slot) (ln : List (Stt × PV)) (st : List Inst) (k : Nat) (p : PV) {Q : Pst (Env → Prop)} (x : Stt × PV) : Prop := BLo.mutL sl ln st k p Q.k x
def mutK (sl : List Slot) (ln : List (Stt × PV)) (st : List Inst) (i : Nat) (p : PV) {Q : Pst (Env → Prop)} (x : Slot) : Prop := BLo.mutK sl ln st i p Q.k x
def mutP (r : Env) (o : RV) (p : PV) {Q : Pst (Env → Prop)} : Prop := BLo.mutP r o p Q.k
theorem mutP_fresh {p q : PV} {Q : Pst (Env → Prop)} : (@mutP r (.fresh p) q Q) = Q.k r := by exact BLo.mutP_fresh
theorem mutK_own {i : Nat} {p q : PV} {Q : Pst (Env → Prop)} : (@mutK sl ln st i p Q (.own false q)) = Q.k ⟨sl.set i (.own false p), ln, st⟩ := by exact BLo.mutK_own
theorem mutL_live {k : Nat} {p q : PV} {Q : Pst (Env → Prop)} : (@mutL sl ln st k p Q (.live, q)) = Q.k ⟨sl, ln.set k (.live, p), st⟩ := by exact BLo.mutL_live
theorem mutK_loan {i k : Nat} {p : PV} {Q : Pst (Env → Prop)} : (@mutK sl ln st i p Q (.loan k)) = (@wO _ ln[k]? ⟨fun x => (@mutL sl ln st k p Q x)⟩) := by exact BLo.mutK_loan
theorem mutP_loan {k : Nat} {p : PV} {Q : Pst (Env → Prop)} : (@mutP ⟨sl, ln, st⟩ (.loan k) p Q) = (@wO _ ln[k]? ⟨fun x => (@mutL sl ln st k p Q x)⟩) := by exact BLo.mutP_loan
theorem mutP_slot {i : Nat} {p : PV} {Q : Pst (Env → Prop)} : (@mutP ⟨sl, ln, st⟩ (.slot i) p Q) = (@wO _ sl[i]? ⟨fun x => (@mutK sl ln st i p Q x)⟩) := by exact BLo.mutP_slot
theorem wp_methT {T : String} {g : RV → List RV → M RV} {o : M RV} {ms : M (List RV)} {Q : Pst (RV → Env → Prop)} : (@WP _ (mMethT T g o ms r) Q E) = (@WP _ (o r) ⟨fun x r1 => (@wO _ (peek r1 x) ⟨fun p => (@wC (tyP p = some T) ⟨(@WP _ (ms r1) ⟨fun rs r2 => (@WP _ (g x rs r2) Q E)⟩ E)⟩)⟩)⟩ E) := by exact BLo.wp_methT
theorem wp_mutO {f : PV → List PV → Option (PV × PV)} {o : RV} {rs : List RV} {Q : Pst (RV → Env → Prop)} : (@WP _ (mutO f o rs r) Q E) = (@wO _ (peek r o) ⟨fun p => (@wO _ (peeks r rs) ⟨fun ps => (@wO _ (f p ps) ⟨fun x => (@mutP r o x.1 ⟨fun r' => Q.k (.val x.2) r'⟩)⟩)⟩)⟩) := by exact BLo.wp_mutO
theorem wp_mutV {f : PV → List PV → Option (PV × PV)} {o : RV} {rs : List RV} {Q : Pst (RV → Env → Prop)} : (@WP _ (mutV f o rs r) Q E) = (@wO _ (peek r o) ⟨fun p => (@wO _ (valsOf rs) ⟨fun ps => (@wO _ (f p ps) ⟨fun x => (@mutP r o x.1 ⟨fun r' => Q.k (.val x.2) r'⟩)⟩)⟩)⟩) := by exact BLo.wp_mutV
theorem wp_see {f : PV → List PV → Option RV} {o : RV} {rs : List RV} {Q : Pst (RV → Env → Prop)} : (@WP _ (seeM f o rs r) Q E) = (@wO _ (peek r o) ⟨fun p => (@wO _ (peeks r rs) ⟨fun ps => (@wO _ (f p ps) ⟨fun z => Q.k z r⟩)⟩)⟩) := by exact BLo.wp_see
/-! statements -/
theorem wp_seq {m n : M Fl} {Q : Pst (Fl → Env → Prop)} : (@WP _ (mSeq m n r) Q E) = (@WP _ (m r) ⟨fun f r1 => (@seqK f ⟨(@WP _ (n r1) Q E)⟩ ⟨Q.k f r1⟩)⟩ E) := by exact BLo.wp_seq
theorem wp_next {m : M RV} {Q : Pst (Fl → Env → Prop)} : (@WP _ (mNext m r) Q E) = (@WP _ (m r) ⟨fun _ r1 => Q.k .next r1⟩ E) := by exact BLo.wp_next
theorem wp_ret {m : M RV} {Q : Pst (Fl → Env → Prop)} : (@WP _ (mRet m r) Q E) = (@WP _ (m r) ⟨fun z r1 => Q.k (.ret z) r1⟩ E) := by exact BLo.wp_ret
theorem wp_ifS {t : M Bool} {m n : M Fl} {Q : Pst (Fl → Env → Prop)} : (@WP _ (mIfS t m n r) Q E) = (@WP _ (t r) ⟨fun b r1 => (@wI b ⟨(@WP _ (m r1) Q E)⟩ ⟨(@WP _ (n r1) Q E)⟩)⟩ E) := by exact BLo.wp_ifS
theorem wp_set {i : Nat} {m : M RV} {Q : Pst (Fl → Env → Prop)} : (@WP _ (mSet i m r) Q E) = (@WP _ (m r) ⟨fun z r1 => (@WP _ (storeM i z r1) ⟨fun _ r2 => Q.k .next r2⟩ E)⟩ E) := by exact BLo.wp_set
theorem wp_store_val {i : Nat} {p : PV} {Q : Pst (Unit → Env → Prop)} : (@WP _ (storeM i (.val p) ⟨sl, ln, st⟩) Q E) = Q.k () ⟨sl.set i (.val p), ln, st⟩ := by exact BLo.wp_store_val
theorem wp_store_fresh {i : Nat} {p : PV} {Q : Pst (Unit → Env → Prop)} : (@WP _ (storeM i (.fresh p) ⟨sl, ln, st⟩) Q E) = Q.k () ⟨sl.set i (.own false p), ln, st⟩ := by exact BLo.wp_store_fresh
theorem wp_store_loan {i k : Nat} {Q : Pst (Unit → Env → Prop)} : (@WP _ (storeM i (.loan k) ⟨sl, ln, st⟩) Q E) = Q.k () ⟨sl.set i (.loan k), ln, st⟩ := by exact BLo.wp_store_loan
def stoK (i : Nat) {Q : Pst (Unit → Env → Prop)} (z : RV) (r : Env) : Prop := BLo.stoK i Q.k z r
theorem stoK_val {i : Nat} {p : PV} {Q : Pst (Unit → Env → Prop)} : (@stoK i Q (.val p) ⟨sl, ln, st⟩) = Q.k () ⟨sl.set i (.val p), ln, st⟩ := by exact BLo.stoK_val
theorem wp_store_slot {i j : Nat} {Q : Pst (Unit → Env → Prop)} : (@WP _ (storeM i (.slot j) r) Q E) = (@WP _ (frzM (.slot j) r) ⟨(@stoK i Q)⟩ E0) := by exact BLo.wp_store_slot
theorem wp_aug {f : PV → PV → Option RV} {i : Nat} {m : M RV} {Q : Pst (Fl → Env → Prop)} : (@WP _ (mAug f i m r) Q E) = (@WP _ (mSet i (mBin f (mVar i) m) r) Q E) := by exact BLo.wp_aug
def setK (f : PV → PV → PV → Option PV) (r : Env) (o i : RV) {Q : Pst (Env → Prop)} (z : RV) : Prop := BLo.setK f r o i Q.k z
theorem setK_val {f : PV → PV → PV → Option PV} {o i : RV} {Q : Pst (Env → Prop)} {y : PV} : (@setK f r o i Q (.val y)) = (@wO _ (peek r o) ⟨fun p => (@wO _ (peek r i) ⟨fun q => (@wO _ (f p q y) ⟨fun p' => (@mutP r o p' Q)⟩)⟩)⟩) := by exact BLo.setK_val
theorem wp_setIx {f : PV → PV → PV → Option PV} {mv mo mi : M RV} {Q : Pst (Fl → Env → Prop)} : (@WP _ (mSetIx f mv mo mi r) Q E) = (@WP _ (mFrz mv r) ⟨fun v r1 => (@WP _ (mo r1) ⟨fun o r2 => (@WP _ (mi r2) ⟨fun i r3 => (@setK f r3 o i ⟨fun r4 => Q.k .next r4⟩ v)⟩ E)⟩ E)⟩ E) := by exact BLo.wp_setIx
def parK (i j : Nat) (r : Env) {E : Pst (Nat → Env → Prop)} {Q : Pst (Env → Prop)} (zs : List RV) : Prop := BLo.parK i j r E.k Q.k zs
theorem parK_2 {i j : Nat} {Q : Pst (Env → Prop)} {x y : RV} : (@parK i j r E Q [x, y]) = (@wC (isSlot x = false ∧ isSlot y = false) ⟨(@WP _ (storeM i x r) ⟨fun _ r1 => (@WP _ (storeM j y r1) ⟨fun _ r2 => Q.k r2⟩ E)⟩ E)⟩) := by exact BLo.parK_2
theorem wp_par {i j : Nat} {ms : M (List RV)} {Q : Pst (Fl → Env → Prop)} : (@WP _ (mPar i j ms r) Q E) = (@WP _ (ms r) ⟨fun rs r1 => (@parK i j r1 E ⟨fun r2 => Q.k .next r2⟩ rs)⟩ E) := by exact BLo.wp_par
def parK3 (i j l : Nat) (r : Env) {E : Pst (Nat → Env → Prop)} {Q : Pst (Env → Prop)} (zs : List RV) : Prop := BLo.parK3 i j l r E.k Q.k zs
theorem parK3_3 {i j l : Nat} {Q : Pst (Env → Prop)} {x y z : RV} : (@parK3 i j l r E Q [x, y, z]) = (@wC (isSlot x = false ∧ isSlot y = false ∧ isSlot z = false) ⟨(@WP _ (storeM i x r) ⟨fun _ r1 => (@WP _ (storeM j y r1) ⟨fun _ r2 => (@WP _ (storeM l z r2) ⟨fun _ r3 => Q.k r3⟩ E)⟩ E)⟩ E)⟩) := by exact BLo.parK3_3
theorem wp_par3 {i j l : Nat} {ms : M (List RV)} {Q : Pst (Fl → Env → Prop)} : (@WP _ (mPar3 i j l ms r) Q E) = (@WP _ (ms r) ⟨fun rs r1 => (@parK3 i j l r1 E ⟨fun r2 => Q.k .next r2⟩ rs)⟩ E) := by exact BLo.wp_par3
def tgK (t : PV → M Unit) (r : Env) {Q : Pst (Env → Prop)} (z : RV) : Prop := BLo.tgK t r Q.k z
theorem tgK_val {t : PV → M Unit} {Q : Pst (Env → Prop)} {p : PV} : (@tgK t r Q (.val p)) = (@WP _ (t p r) ⟨fun _ r1 => Q.k r1⟩ E0) := by exact BLo.tgK_val
theorem wp_setT {t : PV → M Unit} {m : M RV} {Q : Pst (Fl → Env → Prop)} : (@WP _ (mSetT t m r) Q E) = (@WP _ (mFrz m r) ⟨fun z r1 => (@tgK t r1 ⟨fun r2 => Q.k .next r2⟩ z)⟩ E) := by exact BLo.wp_setT
theorem wp_tgN {i : Nat} {p : PV} {Q : Pst (Unit → Env → Prop)} : (@WP _ (tgN i p ⟨sl, ln, st⟩) Q E) = Q.k () ⟨sl.set i (.val p), ln, st⟩ := by exact BLo.wp_tgN
theorem wp_tgT2 {i j : Nat} {p q : PV} {Q : Pst (Unit → Env → Prop)} : (@WP _ (tgT [i, j] (.tup [p, q]) ⟨sl, ln, st⟩) Q E) = Q.k () ⟨(sl.set i (.val p)).set j (.val q), ln, st⟩ := by exact BLo.wp_tgT2
theorem wp_tgT3 {i j k : Nat} {p q z : PV} {Q : Pst (Unit → Env → Prop)} : (@WP _ (tgT [i, j, k] (.tup [p, q, z]) ⟨sl, ln, st⟩) Q E) = Q.k () ⟨((sl.set i (.val p)).set j (.val q)).set k (.val z), ln, st⟩ := by exact BLo.wp_tgT3
/-! what is walked -/
theorem wp_itSeq {m : M RV} {Q : Pst (ItD → Env → Prop)} : (@WP _ (itSeq m r) Q E) = (@WP _ (m r) ⟨fun x r1 => (@wO _ (peek r1 x) ⟨fun p => (@wO _ (seqOf p) ⟨fun xs => Q.k ⟨xs, lockOf r1 x⟩ r1⟩)⟩)⟩ E) := by exact BLo.wp_itSeq
theorem wp_itEnum {m : M RV} {Q : Pst (ItD → Env → Prop)} : (@WP _ (itEnum m r) Q E) = (@WP _ (m r) ⟨fun x r1 => (@wO _ (peek r1 x) ⟨fun p => (@wO _ (seqOf p) ⟨fun xs => Q.k ⟨enumP 0 xs, lockOf r1 x⟩ r1⟩)⟩)⟩ E) := by exact BLo.wp_itEnum
theorem wp_itRev {m : M RV} {Q : Pst (ItD → Env → Prop)} : (@WP _ (itRev m r) Q E) = (@WP _ (m r) ⟨fun x r1 => (@wO _ (peek r1 x) ⟨fun p => (@wO _ (seqOf p) ⟨fun xs => Q.k ⟨xs.reverse, lockOf r1 x⟩ r1⟩)⟩)⟩ E) := by exact BLo.wp_itRev
theorem wp_itRng {f : List PV → Option (List PV)} {ms : M (List RV)} {Q : Pst (ItD → Env → Prop)} : (@WP _ (itRng f ms r) Q E) = (@WP _ (ms r) ⟨fun rs r1 => (@wO _ (peeks r1 rs) ⟨fun ps => (@wO _ (f ps) ⟨fun xs => Q.k ⟨xs, []⟩ r1⟩)⟩)⟩ E) := by exact BLo.wp_itRng
theorem wp_itZip {m n : M RV} {Q : Pst (ItD → Env → Prop)} : (@WP _ (itZip m n r) Q E) = (@WP _ (m r) ⟨fun x r1 => (@WP _ (n r1) ⟨fun y r2 => (@wO _ (peek r2 x) ⟨fun p => (@wO _ (peek r2 y) ⟨fun q => (@wO _ (seqOf p) ⟨fun xs => (@wO _ (seqOf q) ⟨fun ys => (@wC (isL p = isL q) ⟨Q.k ⟨zipP xs ys, lockOf r2 x ++ lockOf r2 y⟩ r2⟩)⟩)⟩)⟩)⟩)⟩ E)⟩ E) := by exact BLo.wp_itZip
theorem wp_unl {α : Type} {lk : List Hold} {x : Res α} {Q : Pst (α → Env → Prop)} : (@WP _ (unlR lk x) Q E) = (@WP _ x ⟨fun a r1 => Q.k a (unlE lk r1)⟩ ⟨fun c r1 => E.k c (unlE lk r1)⟩) := by exact BLo.wp_unl
theorem wp_for {it : M ItD} {tg : PV → M Unit} {body : M Fl} {Q : Pst (Fl → Env → Prop)} : (@WP _ (mFor it tg body r) Q E) = (@WP _ (it r) ⟨fun d r1 => (@WP _ (BL.forM tg body d.items (lockE d.lk r1)) ⟨fun f r2 => Q.k f (unlE d.lk r2)⟩ ⟨fun c r2 => E.k c (unlE d.lk r2)⟩)⟩ E) := by exact BLo.wp_for
theorem wp_sl {f : PV → Option Int → Option Int → Option RV} {m : M RV} {lo hi : M (Option Int)} {Q : Pst (RV → Env → Prop)} : (@WP _ (mSl f m lo hi r) Q E) = (@WP _ (m r) ⟨fun x r1 => (@WP _ (lo r1) ⟨fun l r2 => (@WP _ (hi r2) ⟨fun u r3 => (@wO _ (peek r3 x) ⟨fun p => (@wO _ (f p l u) ⟨fun z => Q.k z r3⟩)⟩)⟩ E)⟩ E)⟩ E) := by exact BLo.wp_sl
theorem wp_noPart {Q : Pst (Option Int → Env → Prop)} : (@WP _ (mNoPart r) Q E) = Q.k none r := by exact BLo.wp_noPart
theorem wp_part {m : M RV} {Q : Pst (Option Int → Env → Prop)} : (@WP _ (mPart m r) Q E) = (@WP _ (m r) ⟨fun x r1 => (@wO _ (peek r1 x) ⟨fun p => (@wO _ (intOf p) ⟨fun i => Q.k (some i) r1⟩)⟩)⟩ E) := by exact BLo.wp_part
theorem wp_lc {it : M ItD} {vs : List Nat} {tg : PV → M Unit} {tt : M Bool} {te : M RV} {Q : Pst (RV → Env → Prop)} : (@WP _ (mLc it vs tg tt te r) Q E) = (@WP _ (it r) ⟨fun d r1 => (@wC (plainSl vs (lockE d.lk r1) = true) ⟨(@WP _ (compM vs tg tt te d.items [] (wipeE vs (lockE d.lk r1))) ⟨fun xs r2 => Q.k (.fresh (.lst xs)) (unlE d.lk (restE vs (lockE d.lk r1) r2))⟩ E0)⟩)⟩ E) := by exact BLo.wp_lc
theorem wp_isT {T : String} {m : M RV} {Q : Pst (RV → Env → Prop)} : (@WP _ (mIsT T m r) Q E) = (@WP _ (m r) ⟨fun x r1 => (@wO _ (peek r1 x) ⟨fun p => (@wO _ (isB T p) ⟨fun b => Q.k (.val (.bl b)) r1⟩)⟩)⟩ E) := by exact BLo.wp_isT
end
section
variable {Q : Pst (RV → List (Stt × PV) → List Inst → Prop)} {E : Pst (Nat → List (Stt × PV) → List Inst → Prop)}
theorem fp_ok {z : RV} {ln : List (Stt × PV)} {st : List Inst} : (@FPc (.ok z ln st) Q E) = Q.k z ln st := by exact BLo.fp_ok
theorem fpk_ok {z : RV} {ln : List (Stt × PV)} {st : List Inst} : (@FPk (.ok z ln st) Q E) = (@Kp _ ⟨fun t : RV × List (Stt × PV) × List Inst => Q.k t.1 t.2.1 t.2.2⟩ (z, ln, st)) := by exact BLo.fpk_ok
theorem fp_exc {c : Nat} {ln : List (Stt × PV)} {st : List Inst} : (@FPc (.exc c ln st) Q E) = E.k c ln st := by exact BLo.fp_exc
theorem fp_mk {n N : Nat} {body : M Fl} {as : List Arg} {st : List Inst} : (@FPc (mkFn n N body as st) Q E) = (@wC (as.length = n) ⟨(@WP _ (body ⟨argSl 0 as ++ List.replicate (N - n) .no, argLn as, st⟩) ⟨fun f r => (@FPk (finF (.ok f r)) Q E)⟩ ⟨fun c r => (@Kp _ ⟨fun t : Nat × List (Stt × PV) × List Inst => E.k t.1 t.2.1 t.2.2⟩ (c, r.ln, r.st))⟩)⟩) := by exact BLo.fp_mk
end
section
variable {tg : PV → M Unit} {body : M Fl} {Q : Fl → Env → Prop} {E : Pst (Nat → Env → Prop)}
theorem wp_forM : ∀ (items : List PV) (I : Nat → Env → Prop) (r : Env), I 0 r →
    (∀ i (hi : i < items.length) r, I i r → (@WP _ (tg items[i] r) ⟨fun _ r1 => (@WP _ (body r1) ⟨fun f r2 => (@loopK f ⟨(@Kp _ ⟨I (i + 1)⟩ r2)⟩ ⟨Q .next r2⟩ ⟨fun z => Q (.ret z) r2⟩)⟩ E)⟩ E0)) →
    (∀ r, I items.length r → Q .next r) → (@WP _ (BL.forM tg body items r) ⟨Q⟩ E) := by exact BLo.wp_forM
theorem wp_for_rg {a : Int} {n : Nat} {r : Env} (I : Int → Env → Prop) (h0 : I a r)
    (hs : ∀ v, a ≤ v → v < a + n → ∀ r, I v r → (@WP _ (tg (.int v) r) ⟨fun _ r1 => (@WP _ (body r1) ⟨fun f r2 => (@loopK f ⟨(@Kp _ ⟨I (v + 1)⟩ r2)⟩ ⟨Q .next r2⟩ ⟨fun z => Q (.ret z) r2⟩)⟩ E)⟩ E0))
    (he : ∀ r, I (a + n) r → Q .next r) : (@WP _ (BL.forM tg body (rgIt a n 1) r) ⟨Q⟩ E) := by exact BLo.wp_for_rg I h0 hs he
theorem wp_for_dn {a : Int} {n : Nat} {r : Env} (I : Int → Env → Prop) (h0 : I a r)
    (hs : ∀ v, v ≤ a → a - n < v → ∀ r, I v r → (@WP _ (tg (.int v) r) ⟨fun _ r1 => (@WP _ (body r1) ⟨fun f r2 => (@loopK f ⟨(@Kp _ ⟨I (v - 1)⟩ r2)⟩ ⟨Q .next r2⟩ ⟨fun z => Q (.ret z) r2⟩)⟩ E)⟩ E0))
    (he : ∀ r, I (a - n) r → Q .next r) : (@WP _ (BL.forM tg body (rgIt a n (-1)) r) ⟨Q⟩ E) := by exact BLo.wp_for_dn I h0 hs he
theorem wp_for_in {α : Type} {f : α → PV} {xs : List α} {r : Env} (I : Nat → Env → Prop) (h0 : I 0 r)
    (hs : ∀ i (hi : i < xs.length) r, I i r → (@WP _ (tg (f xs[i]) r) ⟨fun _ r1 => (@WP _ (body r1) ⟨fun f r2 => (@loopK f ⟨(@Kp _ ⟨I (i + 1)⟩ r2)⟩ ⟨Q .next r2⟩ ⟨fun z => Q (.ret z) r2⟩)⟩ E)⟩ E0))
    (he : ∀ r, I xs.length r → Q .next r) : (@WP _ (BL.forM tg body (xs.map f) r) ⟨Q⟩ E) := by exact BLo.wp_for_in I h0 hs he
theorem wp_for_en {α : Type} {f : α → PV} {xs : List α} {r : Env} (I : Nat → Env → Prop) (h0 : I 0 r)
    (hs : ∀ i (hi : i < xs.length) r, I i r → (@WP _ (tg (.tup [.int (i : Nat), f xs[i]]) r) ⟨fun _ r1 => (@WP _ (body r1) ⟨fun f r2 => (@loopK f ⟨(@Kp _ ⟨I (i + 1)⟩ r2)⟩ ⟨Q .next r2⟩ ⟨fun z => Q (.ret z) r2⟩)⟩ E)⟩ E0))
    (he : ∀ r, I xs.length r → Q .next r) : (@WP _ (BL.forM tg body (enumP 0 (xs.map f)) r) ⟨Q⟩ E) := by exact BLo.wp_for_en I h0 hs he
theorem wp_for_zip {α β : Type} {f : α → PV} {g : β → PV} {xs : List α} {ys : List β} {r : Env} (I : Nat → Env → Prop) (h0 : I 0 r)
    (hs : ∀ i (h1 : i < xs.length) (h2 : i < ys.length) r, I i r → (@WP _ (tg (.tup [f xs[i], g ys[i]]) r) ⟨fun _ r1 => (@WP _ (body r1) ⟨fun f r2 => (@loopK f ⟨(@Kp _ ⟨I (i + 1)⟩ r2)⟩ ⟨Q .next r2⟩ ⟨fun z => Q (.ret z) r2⟩)⟩ E)⟩ E0))
    (he : ∀ r, I (min xs.length ys.length) r → Q .next r) : (@WP _ (BL.forM tg body (zipP (xs.map f) (ys.map g)) r) ⟨Q⟩ E) := by exact BLo.wp_for_zip I h0 hs he
theorem wp_while {c : M Bool} {b : M Fl} {r : Env} (I : Nat → Env → Prop) (n : Nat) (h0 : I n r)
    (hs : ∀ k r, I k r → (@WP _ (c r) ⟨fun t r1 => (@wI t ⟨(@WP _ (b r1) ⟨fun f r2 => (@loopK f ⟨(@Kp _ ⟨fun r2 => ∃ j, j < k ∧ I j r2⟩ r2)⟩ ⟨Q .next r2⟩ ⟨fun z => Q (.ret z) r2⟩)⟩ E)⟩ ⟨Q .next r1⟩)⟩ E)) : (@WP _ (mWhile c b r) ⟨Q⟩ E) := by exact BLo.wp_while I n h0 hs
end
theorem wI_joinI {b : Bool} {m n : M RV} {r : Env} {Q : RV → Env → Prop} {E : Pst (Nat → Env → Prop)} (x y : Int) (h1 : b = true → (@WP _ (m r) ⟨fun z r1 => (@Kp _ ⟨fun t : RV × Env => t = (.val (.int x), r)⟩ (z, r1))⟩ E0)) (h2 : b = false → (@WP _ (n r) ⟨fun z r1 => (@Kp _ ⟨fun t : RV × Env => t = (.val (.int y), r)⟩ (z, r1))⟩ E0))
    (k : Q (.val (.int (if b = true then x else y))) r) : (@wI b ⟨(@WP _ (m r) ⟨Q⟩ E)⟩ ⟨(@WP _ (n r) ⟨Q⟩ E)⟩) := by exact BLo.wI_joinI x y h1 h2 k
theorem wI_joinP {b : Bool} {m n : M RV} {r : Env} {Q : RV → Env → Prop} {E : Pst (Nat → Env → Prop)} (x y : PV) (h1 : b = true → (@WP _ (m r) ⟨fun z r1 => (@Kp _ ⟨fun t : RV × Env => t = (.val x, r)⟩ (z, r1))⟩ E0)) (h2 : b = false → (@WP _ (n r) ⟨fun z r1 => (@Kp _ ⟨fun t : RV × Env => t = (.val y, r)⟩ (z, r1))⟩ E0))
    (k : Q (.val (if b = true then x else y)) r) : (@wI b ⟨(@WP _ (m r) ⟨Q⟩ E)⟩ ⟨(@WP _ (n r) ⟨Q⟩ E)⟩) := by exact BLo.wI_joinP x y h1 h2 k
section
variable {vs : List Nat} {tg : PV → M Unit} {tt : M Bool} {te : M RV} {E : Pst (Nat → Env → Prop)}
theorem wp_yes {r : Env} {Q : Bool → Env → Prop} : (@WP _ (mYes r) ⟨Q⟩ E) = Q true r := by exact BLo.wp_yes
theorem compM_wp : ∀ (items acc : List PV) (I : Nat → List PV → Env → Prop) (r : Env) {Q : List PV → Env → Prop}, acc.length + items.length ≤ 16777216 → I 0 acc r →
    (∀ i (hi : i < items.length) acc r, I i acc r → (@WP _ (tg items[i] r) ⟨fun _ r1 => (@WP _ (tt r1) ⟨fun b r2 => (@wI b ⟨(@WP _ (te r2) ⟨fun z r3 => (@isVal z ⟨fun y => (@wC (plainSl vs r3 = true) ⟨(@Kp _ ⟨I (i + 1) (acc ++ [y])⟩ (wipeE vs r3))⟩)⟩)⟩ E0)⟩ ⟨(@wC (plainSl vs r2 = true) ⟨(@Kp _ ⟨I (i + 1) acc⟩ (wipeE vs r2))⟩)⟩)⟩ E0)⟩ E0)) →
    (∀ acc r, I items.length acc r → Q acc r) → (@WP _ (compM vs tg tt te items acc r) ⟨Q⟩ E) := by exact BLo.compM_wp
theorem comp_in {α β : Type} {f : α → PV} {g : β → PV} (xs : List α) (c : α → Bool) (h : α → β) {r : Env} {Q : List PV → Env → Prop} (hl : xs.length ≤ 16777216)
    (hs : ∀ i (hi : i < xs.length), (@WP _ (tg (f xs[i]) r) ⟨fun _ r1 => (@WP _ (tt r1) ⟨fun b r2 => (@wT b (c xs[i]) ⟨(@WP _ (te r2) ⟨fun z r3 => (@Kp _ ⟨fun t : RV × Env => t.1 = .val (g (h xs[i])) ∧ plainSl vs t.2 = true ∧ wipeE vs t.2 = r⟩ (z, r3))⟩ E0)⟩ ⟨(@Kp _ ⟨fun r2 => plainSl vs r2 = true ∧ wipeE vs r2 = r⟩ r2)⟩)⟩ E0)⟩ E0))
    (he : Q (((xs.filter c).map h).map g) r) : (@WP _ (compM vs tg tt te (xs.map f) [] r) ⟨Q⟩ E) := by exact BLo.comp_in xs c h hl hs he
theorem comp_map {α β : Type} {f : α → PV} {g : β → PV} (xs : List α) (h : α → β) {r : Env} {Q : List PV → Env → Prop} (hl : xs.length ≤ 16777216)
    (hs : ∀ i (hi : i < xs.length), (@WP _ (tg (f xs[i]) r) ⟨fun _ r1 => (@WP _ (te r1) ⟨fun z r3 => (@Kp _ ⟨fun t : RV × Env => t.1 = .val (g (h xs[i])) ∧ plainSl vs t.2 = true ∧ wipeE vs t.2 = r⟩ (z, r3))⟩ E0)⟩ E0))
    (he : Q ((xs.map h).map g) r) : (@WP _ (compM vs tg mYes te (xs.map f) [] r) ⟨Q⟩ E) := by exact BLo.comp_map xs h hl hs he
theorem comp_inP {β : Type} {g : β → PV} (xs : List PV) (c : PV → Bool) (h : PV → β) {r : Env} {Q : List PV → Env → Prop} (hl : xs.length ≤ 16777216)
    (hs : ∀ i (hi : i < xs.length), (@WP _ (tg xs[i] r) ⟨fun _ r1 => (@WP _ (tt r1) ⟨fun b r2 => (@wT b (c xs[i]) ⟨(@WP _ (te r2) ⟨fun z r3 => (@Kp _ ⟨fun t : RV × Env => t.1 = .val (g (h xs[i])) ∧ plainSl vs t.2 = true ∧ wipeE vs t.2 = r⟩ (z, r3))⟩ E0)⟩ ⟨(@Kp _ ⟨fun r2 => plainSl vs r2 = true ∧ wipeE vs r2 = r⟩ r2)⟩)⟩ E0)⟩ E0))
    (he : Q (((xs.filter c).map h).map g) r) : (@WP _ (compM vs tg tt te xs [] r) ⟨Q⟩ E) := by exact BLo.comp_inP xs c h hl hs he
theorem comp_mapP {β : Type} {g : β → PV} (xs : List PV) (h : PV → β) {r : Env} {Q : List PV → Env → Prop} (hl : xs.length ≤ 16777216)
    (hs : ∀ i (hi : i < xs.length), (@WP _ (tg xs[i] r) ⟨fun _ r1 => (@WP _ (te r1) ⟨fun z r3 => (@Kp _ ⟨fun t : RV × Env => t.1 = .val (g (h xs[i])) ∧ plainSl vs t.2 = true ∧ wipeE vs t.2 = r⟩ (z, r3))⟩ E0)⟩ E0))
    (he : Q ((xs.map h).map g) r) : (@WP _ (compM vs tg mYes te xs [] r) ⟨Q⟩ E) := by exact BLo.comp_mapP xs h hl hs he
theorem comp_en {α β : Type} {f : α → PV} {g : β → PV} (xs : List α) (c : α × Nat → Bool) (h : α × Nat → β) {r : Env} {Q : List PV → Env → Prop} (hl : xs.length ≤ 16777216)
    (hs : ∀ i (hi : i < xs.length), (@WP _ (tg (.tup [.int (i : Nat), f xs[i]]) r) ⟨fun _ r1 => (@WP _ (tt r1) ⟨fun b r2 => (@wT b (c (xs[i], i)) ⟨(@WP _ (te r2) ⟨fun z r3 => (@Kp _ ⟨fun t : RV × Env => t.1 = .val (g (h (xs[i], i))) ∧ plainSl vs t.2 = true ∧ wipeE vs t.2 = r⟩ (z, r3))⟩ E0)⟩ ⟨(@Kp _ ⟨fun r2 => plainSl vs r2 = true ∧ wipeE vs r2 = r⟩ r2)⟩)⟩ E0)⟩ E0))
    (he : Q (((xs.zipIdx.filter c).map h).map g) r) : (@WP _ (compM vs tg tt te (enumP 0 (xs.map f)) [] r) ⟨Q⟩ E) := by exact BLo.comp_en xs c h hl hs he
theorem comp_zip {α α' β : Type} {f : α → PV} {f' : α' → PV} {g : β → PV} (xs : List α) (ys : List α') (c : α × α' → Bool) (h : α × α' → β) {r : Env} {Q : List PV → Env → Prop} (hl : xs.length ≤ 16777216)
    (hs : ∀ i (hi : i < xs.length) (hi2 : i < ys.length), (@WP _ (tg (.tup [f xs[i], f' ys[i]]) r) ⟨fun _ r1 => (@WP _ (tt r1) ⟨fun b r2 => (@wT b (c (xs[i], ys[i])) ⟨(@WP _ (te r2) ⟨fun z r3 => (@Kp _ ⟨fun t : RV × Env => t.1 = .val (g (h (xs[i], ys[i]))) ∧ plainSl vs t.2 = true ∧ wipeE vs t.2 = r⟩ (z, r3))⟩ E0)⟩ ⟨(@Kp _ ⟨fun r2 => plainSl vs r2 = true ∧ wipeE vs r2 = r⟩ r2)⟩)⟩ E0)⟩ E0))
    (he : Q ((((xs.zip ys).filter c).map h).map g) r) : (@WP _ (compM vs tg tt te (zipP (xs.map f) (ys.map f')) [] r) ⟨Q⟩ E) := by exact BLo.comp_zip xs ys c h hl hs he
end
/-- two ways that meet again: what holds behind them -/
theorem wI_cut {b : Bool} {m n : M Fl} {r : Env} {K : Fl → Env → Prop} {E : Pst (Nat → Env → Prop)} (J : Env → Prop) (h1 : b = true → @WP _ (m r) ⟨fun f r1 => @Kp _ ⟨fun t : Fl × Env => t.1 = .next ∧ J t.2⟩ (f, r1)⟩ E0) (h2 : b = false → @WP _ (n r) ⟨fun f r1 => @Kp _ ⟨fun t : Fl × Env => t.1 = .next ∧ J t.2⟩ (f, r1)⟩ E0)
    (k : ∀ r1, J r1 → K .next r1) : @wI b ⟨@WP _ (m r) ⟨K⟩ E⟩ ⟨@WP _ (n r) ⟨K⟩ E⟩ := by
  refine ⟨fun hb => ?_, fun hb => ?_⟩
  · refine wp_mono (h1 hb) (fun f r1 h => ?_) fun _ _ z => z.elim
    have h : f = .next ∧ J r1 := h
    rw [h.1]
    exact k r1 h.2
  · refine wp_mono (h2 hb) (fun f r1 h => ?_) fun _ _ z => z.elim
    have h : f = .next ∧ J r1 := h
    rw [h.1]
    exact k r1 h.2
end
end BL
/-! B, the plain side: further forms. -/
namespace BL
noncomputable section
open PySem PySem.Spec PyProof.Rows L2
theorem BLo.wp_isT2 {S T : String} {m : M RV} {r : Env} {Q : RV → Env → Prop} {E : Nat → Env → Prop} : BLo.WP (mIsT2 S T m r) Q E = BLo.WP (m r) (fun x r1 => BLo.wO (peek r1 x) fun p => BLo.wO (isB S p) fun a => BLo.wO (isB T p) fun b => Q (.val (.bl (a || b))) r1) E := by
  unfold mIsT2
  rw [BLo.wp_un]
  simp only [BLo.wO_bind, BLo.wO_map]
theorem BLo.wp_itRev1 {m : M RV} {r : Env} {Q : ItD → Env → Prop} {E : Nat → Env → Prop} : BLo.WP (itRev1 m r) Q E = BLo.WP (m r) (fun x r1 => BLo.wO (peek r1 x) fun p => BLo.wO (rev1F p) fun xs => Q ⟨xs, []⟩ r1) E := by
  unfold itRev1
  rw [BLo.wp_bind]
  congr
  funext x r1
  cases peek r1 x with
  | none => rfl
  | some p =>
    rw [Option.bind_some]
    cases h : rev1F p with
    | none => show _ = BLo.wO (rev1F p) _; rw [h]; rfl
    | some xs => show _ = BLo.wO (rev1F p) _; rw [h]; rfl
def strP : PV → Option Str
  | .str z => some z
  | _ => none
theorem BLo.wp_itStr {m : M RV} {r : Env} {Q : ItD → Env → Prop} {E : Nat → Env → Prop} : BLo.WP (itStr m r) Q E = BLo.WP (m r) (fun x r1 => BLo.wO (peek r1 x) fun p => BLo.wO (strP p) fun z => Q ⟨z.cps.toList.map signP, []⟩ r1) E := by
  unfold itStr
  rw [BLo.wp_bind]
  congr
  funext x r1
  cases peek r1 x with
  | none => rfl
  | some p => cases p <;> rfl
theorem BLo.wp_itZipM {m n : M RV} {r : Env} {Q : ItD → Env → Prop} {E : Nat → Env → Prop} : BLo.WP (itZipM m n r) Q E = BLo.WP (m r) (fun x r1 => BLo.WP (n r1) (fun y r2 => BLo.wO (peek r2 x) fun p => BLo.wO (peek r2 y) fun q => BLo.wO (seqOf p) fun xs => BLo.wO (seqOf q) fun ys => Q ⟨zipP xs ys, lockOf r2 x ++ lockOf r2 y⟩ r2) E) E := by
  unfold itZipM
  rw [BLo.wp_bind]
  simp only [BLo.wp_bind]
  congr
  funext x r1
  congr
  funext y r2
  cases peek r2 x with
  | none => rfl
  | some p =>
    cases peek r2 y with
    | none => rfl
    | some q =>
      show BLo.WP (match seqOf p, seqOf q with | some xs, some ys => _ | _, _ => _) Q E = BLo.wO (seqOf p) _
      cases seqOf p with
      | none => rfl
      | some xs =>
        cases seqOf q with
        | none => rfl
        | some ys => rfl
section
variable {α : Type} {f : α → PV} {xs : List α} {r : Env} {E : Pst (Nat → Env → Prop)} {sl : List Slot} {ln : List (Stt × PV)} {st : List Inst}
theorem rev_L : revF (Lx f xs) = some (.fresh (Lx f xs.reverse)) := by
  show some (RV.fresh (.lst (xs.map f).reverse)) = _
  rw [← List.map_reverse]
  rfl
theorem rev_T : revF (Tx f xs) = some (.val (Tx f xs.reverse)) := by
  show some (RV.val (.tup (xs.map f).reverse)) = _
  rw [← List.map_reverse]
  rfl
theorem isB_bb {a b : Bool} : isBF (.bl a) (.bl b) = some (a == b) := id rfl
theorem notB_bb {a b : Bool} : notBF (.bl a) (.bl b) = some (!(a == b)) := id rfl
theorem map_PVint : ∀ {xs : List Int}, (xs.map PV.int).mapM intP = some xs
  | [] => rfl
  | x :: xs => by
    rw [List.map_cons, List.mapM_cons, map_PVint]
    rfl
theorem index_L {xs : List Int} {i : Int} : indexF (Lx .int xs) [.int i] = (idxI i xs).map fun j => .val (.int (j : Nat)) := by
  show ((xs.map PV.int).mapM intP).bind _ = _
  rw [map_PVint]
  rfl
theorem wp_isT2 {S T : String} {m : M RV} {Q : Pst (RV → Env → Prop)} : (@WP _ (mIsT2 S T m r) Q E) = (@WP _ (m r) ⟨fun x r1 => (@wO _ (peek r1 x) ⟨fun p => (@wO _ (isB S p) ⟨fun a => (@wO _ (isB T p) ⟨fun b => Q.k (.val (.bl (a || b))) r1⟩)⟩)⟩)⟩ E) := by exact BLo.wp_isT2
theorem wp_itRev1 {m : M RV} {Q : Pst (ItD → Env → Prop)} : (@WP _ (itRev1 m r) Q E) = (@WP _ (m r) ⟨fun x r1 => (@wO _ (peek r1 x) ⟨fun p => (@wO _ (rev1F p) ⟨fun xs => Q.k ⟨xs, []⟩ r1⟩)⟩)⟩ E) := by exact BLo.wp_itRev1
theorem wp_itStr {m : M RV} {Q : Pst (ItD → Env → Prop)} : (@WP _ (itStr m r) Q E) = (@WP _ (m r) ⟨fun x r1 => (@wO _ (peek r1 x) ⟨fun p => (@wO _ (strP p) ⟨fun z => Q.k ⟨z.cps.toList.map signP, []⟩ r1⟩)⟩)⟩ E) := by exact BLo.wp_itStr
theorem strP_s {z : Str} : strP (.str z) = some z := id rfl
theorem ty_str {z : Str} : tyP (.str z) = some "str" := id rfl
theorem wp_itZipM {m n : M RV} {Q : Pst (ItD → Env → Prop)} : (@WP _ (itZipM m n r) Q E) = (@WP _ (m r) ⟨fun x r1 => (@WP _ (n r1) ⟨fun y r2 => (@wO _ (peek r2 x) ⟨fun p => (@wO _ (peek r2 y) ⟨fun q => (@wO _ (seqOf p) ⟨fun xs => (@wO _ (seqOf q) ⟨fun ys => Q.k ⟨zipP xs ys, lockOf r2 x ++ lockOf r2 y⟩ r2⟩)⟩)⟩)⟩)⟩ E)⟩ E) := by exact BLo.wp_itZipM
/-- two ways that meet again with a value -/
theorem wI_cutV {b : Bool} {m n : M RV} {K : RV → Env → Prop} (J : RV → Env → Prop) (h1 : b = true → @WP _ (m r) ⟨fun z r1 => @Kp _ ⟨fun t : RV × Env => J t.1 t.2⟩ (z, r1)⟩ E0) (h2 : b = false → @WP _ (n r) ⟨fun z r1 => @Kp _ ⟨fun t : RV × Env => J t.1 t.2⟩ (z, r1)⟩ E0)
    (k : ∀ z r1, J z r1 → K z r1) : @wI b ⟨@WP _ (m r) ⟨K⟩ E⟩ ⟨@WP _ (n r) ⟨K⟩ E⟩ :=
  ⟨fun hb => wp_mono (h1 hb) (fun z r1 h => k z r1 h) fun _ _ z => z.elim, fun hb => wp_mono (h2 hb) (fun z r1 h => k z r1 h) fun _ _ z => z.elim⟩
/-- a while loop: what holds behind it -/
theorem wp_whileJ {c : M Bool} {b : M Fl} {Q : Fl → Env → Prop} (I : Nat → Env → Prop) (J : Env → Prop) (n : Nat) (h0 : I n r)
    (hs : ∀ k r, I k r → (@WP _ (c r) ⟨fun t r1 => (@wI t ⟨(@WP _ (b r1) ⟨fun f r2 => (@loopK f ⟨(@Kp _ ⟨fun r2 => ∃ j, j < k ∧ I j r2⟩ r2)⟩ ⟨(@Kp _ ⟨J⟩ r2)⟩ ⟨fun _ => False⟩)⟩ E0)⟩ ⟨(@Kp _ ⟨J⟩ r1)⟩)⟩ E0))
    (he : ∀ r, J r → Q .next r) : (@WP _ (mWhile c b r) ⟨Q⟩ E) := by
  refine wp_mono (E := BLo.E0) (wp_while (E := E0) (Q := fun f r => f = .next ∧ J r) I n h0 fun k r h => wp_mono (hs k r h) (fun t r1 q => ⟨fun e => wp_mono (q.1 e) (fun f r2 q2 => ?_) (fun _ _ z => z), fun e => ⟨rfl, q.2 e⟩⟩) (fun _ _ z => z)) (fun f r h => by rw [h.1]; exact he r h.2) (fun _ _ z => z.elim)
  cases f with
  | next => exact q2
  | cont => exact q2
  | brk => exact ⟨rfl, q2⟩
  | ret z => exact q2.elim
theorem rev1_i {j : Int} (h : -1000000000 ≤ j) (h2 : j ≤ 1000000000) : rev1F (.int j) = some (rgIt (j - 1) j.toNat (-1)) := if_pos (okB_in h h2)
theorem dict0_eq : mDict0 = M.pure (RV.fresh (.dic [] [])) := rfl
theorem ty_dic {ks xs : List PV} : tyP (.dic ks xs) = some "dict" := id rfl
theorem wp_tgU2 {i j : Nat} {p q : PV} {Q : Pst (Unit → Env → Prop)} : (@WP _ (tgU [i, j] (.lst [p, q]) ⟨sl, ln, st⟩) Q E) = Q.k () ⟨(sl.set i (.val p)).set j (.val q), ln, st⟩ := id rfl
end
end
end BL
local macro_rules | `(tactic| array_get_dec) => `(tactic| with_reducible first | assumption | decide | omega | (simp only [List.length_append, List.length_cons, List.length_nil, List.length_map, List.length_set, List.length_take, List.length_drop, List.length_replicate, BL.rgI_length, Int.natCast_add] at *; omega))
local macro_rules | `(tactic| simp_arith [$ls:simpLemma,*]) => `(tactic| simp (disch := array_get_dec) only [
  ↓BL.wO_some, ↓BL.wO_map, ↓BL.wO_bind, BL.wC_of, ↓BL.wC_true, ↓BL.wI_true, ↓BL.wI_false, ↓BL.wI_not, ↓BL.seqK_next, ↓BL.seqK_brk, ↓BL.seqK_cont, ↓BL.seqK_ret, ↓BL.loopK_next, ↓BL.loopK_cont, ↓BL.loopK_brk, ↓BL.loopK_ret,
  ↓BL.wp_ok, ↓BL.wp_exc, ↓BL.wp_bind, ↓BL.wp_pure, ↓BL.wp_opt, BL.slV_val, BL.slV_own, BL.slV_loan, ↓BL.wp_var, ↓BL.wp_val, BL.peek_val', BL.peek_fresh', BL.slP_val, BL.slP_own, BL.slP_loan, BL.peek_slot', BL.peek_loan', ↓BL.wp_bin, ↓BL.wp_look2, ↓BL.wp_un, ↓BL.wp_tst, ↓BL.wp_chain, ↓BL.wp_boolV, BL.blOf_bl, ↓BL.wp_truth,
  ↓BL.wp_notT, ↓BL.wp_ite, ↓BL.wp_andT, ↓BL.wp_orT, ↓BL.wp_andV, ↓BL.wp_orV, ↓BL.wp_notV, ↓BL.wp_if, ↓BL.wp_frz, ↓BL.wp_frzM_val, ↓BL.wp_frzM_fresh, ↓BL.wp_frzM_loan, ↓BL.frzK_val, ↓BL.frzK_own, ↓BL.frzK_loan, ↓BL.wp_frzM_slot, ↓BL.frzLK_froz, ↓BL.frzLK_live, ↓BL.wp_frzLn, ↓BL.wp_nilA, ↓BL.wp_consA, ↓BL.wp_tup, ↓BL.wp_lst,
  BL.valsOf_nil', BL.valsOf_cons', BL.peeks_nil', BL.peeks_cons', ↓BL.wp_blt, ↓BL.wp_call, ↓BL.wp_callV, ↓BL.wp_callL, BL.one1_of, ↓BL.wp_callLn, BL.loL_live, BL.loL_lock, BL.loanOf_slot, BL.loS_own, BL.loS_lock, BL.loS_loan, BL.loanOf_loan, BL.putB_slot, BL.putB_loan, BL.slotOf_live, BL.slotOf_lock, BL.slotOf_froz,
  ↓BL.mutP_fresh, ↓BL.mutK_own, ↓BL.mutL_live, ↓BL.mutK_loan, ↓BL.mutP_loan, ↓BL.mutP_slot, ↓BL.wp_methT, ↓BL.wp_mutO, ↓BL.wp_mutV, ↓BL.wp_see, ↓BL.wp_seq, ↓BL.wp_next, ↓BL.wp_ret, ↓BL.wp_ifS, ↓BL.wp_set, ↓BL.wp_store_val, ↓BL.wp_store_fresh, ↓BL.wp_store_loan, ↓BL.stoK_val, ↓BL.wp_store_slot, ↓BL.wp_aug, ↓BL.setK_val, ↓BL.wp_setIx, ↓BL.parK_2, BL.isSlot_val, BL.isSlot_fresh, BL.isSlot_loan, ↓BL.wp_par, ↓BL.parK3_3, ↓BL.wp_par3,
  ↓BL.tgK_val, ↓BL.wp_setT, ↓BL.wp_tgN, ↓BL.wp_tgT2, ↓BL.wp_tgT3, BL.lockOf_val', BL.lockOf_fresh', BL.lockLn', BL.lockOf_loan', BL.lockOf_slot', BL.elim_some, BL.lkS_own, BL.lkS_lock, BL.lkS_val, BL.lkS_loan, BL.lkL_live, BL.lkL_lock, BL.lkL_froz, ↓BL.wp_itSeq, ↓BL.wp_itEnum, ↓BL.wp_itRev, ↓BL.wp_itRng, ↓BL.wp_itZip, ↓BL.wp_unl, ↓BL.wp_for,
  BL.lockE_nil', BL.unlE_nil', BL.lockE_cons, BL.unlE_cons, BL.lock1_slot, BL.lock1_loan, BL.unl1_slot, BL.unl1_loan, BL.mod_0, BL.mod_s, BL.lockS_own, BL.unlS_own, BL.lockS_val, BL.unlS_val, BL.lockT_live, BL.unlT_lock, ↓BL.wp_sl, ↓BL.wp_noPart, BL.intOf_int, ↓BL.wp_part, ↓BL.wp_lc, BL.plain_nil, BL.plain_cons, BL.plS_no, BL.plS_val, BL.plS_loan, BL.wipe_nil, BL.wipe_cons, BL.wipeSl, BL.restE, BL.restSl, ↓BL.isVal_val, ↓BL.wp_yes,
  ↓BL.fp_ok, ↓BL.fpk_ok, ↓BL.fp_exc, ↓BL.fp_mk, BL.argSl_nil, BL.argSl_val, BL.argSl_loan, BL.argLn_nil, BL.argLn_val, BL.argLn_loan, BL.finF_next, BL.finF_ret, BL.finRV_val, BL.finRV_fresh, BL.finRV_slot, BL.finS_own, BL.finS_val, BL.rep_0, BL.rep_s, BL.app_nil', BL.app_cons', BL.map_nil', BL.map_cons', BL.get_0, BL.get_s, BL.set_0, BL.set_s, BL.take_0, BL.take_s, BL.drop_0, BL.drop_s, BL.bind_some', BL.map_some', BL.len_nil', BL.len_cons',
  BL.atI_lit, BL.add_ii, BL.add_LL, BL.add_L1, BL.add_TT, BL.add_T1, BL.add_ll, BL.add_tt, BL.sub_ii, BL.neg_i, BL.iadd_ii, BL.mul_sm, BL.mul_1k, BL.mod_ii, BL.div_sm, BL.pow_sm, BL.lt_ii, BL.le_ii, BL.gt_ii, BL.ge_ii, BL.eq_ii, BL.ne_ii, BL.asV_some, BL.eq_TT, BL.eq_LL, BL.ne_TT, BL.ne_LL, BL.isN_i, BL.isN_n, BL.isNN_i, BL.isNN_n,
  BL.lst_i1, BL.lst_i2, BL.lst_i3, BL.lst_i4, BL.lst_i5, BL.lst_i6, BL.lst_i7, BL.lst_i8, BL.mul_L1, BL.gx_lit, BL.getD_0, BL.getD_s, BL.lst_fold, BL.tup_fold, BL.ix_L, BL.ix_T, BL.ix_scr, BL.ix_Lm1, BL.ix_l, BL.ix_t, BL.seq_L, BL.seq_T, BL.seq_l, BL.seq_t, BL.seq_scr, BL.len_L, BL.len_T, BL.len_scr, BL.len_l, BL.len_t, BL.tup_L, BL.tup_T, BL.tup_l, BL.list_L, BL.list_T, BL.list_scr, BL.isL_L, BL.isL_l, BL.isL_T, BL.isL_t, BL.ty_L, BL.ty_l, BL.sl_L, BL.sl_T, BL.cut_take, BL.cut_drop, BL.cut_both, BL.cut_nn,
  BL.max_ii, BL.min_ii, BL.max_L, BL.max_T, BL.min_T, BL.sum_T, BL.sorted_T, BL.min_L, BL.sum_L, BL.all_L, BL.any_L, BL.sorted_L, BL.int_i, BL.int_b, BL.append_L, BL.append_l, BL.extend_L, BL.insert_L, BL.pop_L, BL.pop_Li, BL.reverse_L, BL.reverse_l, BL.clear_L, BL.clear_l, BL.set_L, BL.set_Lm1, BL.set_lit, BL.rng1, BL.rng2, BL.rng3, BL.rg1L, BL.rg2L, BL.rg1T, ↓BL.wp_isT, ↓BL.wp_isT2, ↓BL.wp_tgU2, ↓BL.wp_itRev1, ↓BL.wp_itZipM, ↓BL.wp_itStr, BL.strP_s, BL.ty_str, BL.rev1_i, BL.dict0_eq, BL.ty_dic, BL.rev_L, BL.rev_T, BL.isB_bb, BL.notB_bb, BL.index_L,
  BL.isB_int_non, BL.isB_int_bl, BL.isB_int_int, BL.isB_int_str, BL.isB_int_tup, BL.isB_int_lst, BL.isB_int_scr, BL.isB_int_dic, BL.isB_int_L, BL.isB_int_T, BL.isB_bool_non, BL.isB_bool_bl, BL.isB_bool_int, BL.isB_bool_str, BL.isB_bool_tup, BL.isB_bool_lst, BL.isB_bool_scr, BL.isB_bool_dic, BL.isB_bool_L, BL.isB_bool_T, BL.isB_tuple_non, BL.isB_tuple_bl, BL.isB_tuple_int, BL.isB_tuple_str, BL.isB_tuple_tup, BL.isB_tuple_lst, BL.isB_tuple_scr, BL.isB_tuple_dic, BL.isB_tuple_L, BL.isB_tuple_T, BL.isB_list_non, BL.isB_list_bl, BL.isB_list_int, BL.isB_list_str, BL.isB_list_tup, BL.isB_list_lst, BL.isB_list_scr, BL.isB_list_dic, BL.isB_list_L, BL.isB_list_T, BL.isB_str_non, BL.isB_str_bl, BL.isB_str_int, BL.isB_str_str, BL.isB_str_tup, BL.isB_str_lst, BL.isB_str_scr, BL.isB_str_dic, BL.isB_str_L, BL.isB_str_T, BL.isB_dict_non, BL.isB_dict_bl, BL.isB_dict_int, BL.isB_dict_str, BL.isB_dict_tup, BL.isB_dict_lst, BL.isB_dict_scr, BL.isB_dict_dic, BL.isB_dict_L, BL.isB_dict_T,
  Option.getD_some, Int.toNat_natCast, Nat.reduceAdd, Nat.reduceSub, Nat.reduceLeDiff, Nat.reduceLT, Nat.reduceEqDiff, Int.reduceAdd, Int.reduceSub, Int.reduceMul, Int.reduceNeg, Int.reduceToNat, Int.reducePow, Int.reduceLE, Int.reduceLT, Int.reduceEq, Bool.and_true, Bool.true_and, Bool.or_false, Bool.or_true, Bool.false_or, Bool.true_or, Bool.not_true, Bool.not_false, decide_true, decide_false, and_self, true_and, and_true, $ls,*])
/-! B, the plain side: the laws' draws. -/
namespace BL
noncomputable section
open PySem PySem.Spec PyProof.Rows L2
/-- the state of the draws after at most k draws -/
def Fd (U : Int → Prop) (k : Int) (p : PV) : Prop := ∃ d m c, p = .lst [.int d, .int m, .int c] ∧ 0 ≤ d ∧ U m ∧ 0 ≤ c ∧ c ≤ k
theorem Fd.mono {U : Int → Prop} {k j : Int} {p : PV} (h : Fd U k p) (l : k ≤ j) : Fd U j p := by
  obtain ⟨d, m, c, e, h1, h2, h3, h4⟩ := h
  exact ⟨d, m, c, e, h1, h2, h3, by omega⟩
/-- a def that draws a number below its second argument -/
def S_draw (U : Int → Prop) (F : Fn) : Prop := ∀ k p b st, Fd U k p → k < 1000000000000000000000000000000 → 0 < b → b < 10000000000000000000000000000000000000000000000000000000 →
  FP (F [.loan .live p, .val (.int b)] st) (fun z ln st' => ∃ v p', z = .val (.int v) ∧ ln = [(.live, p')] ∧ st' = st ∧ 0 ≤ v ∧ v < b ∧ Fd U (k + 1) p') G0
def S_fund (U : Int → Prop) (F : Fn) : Prop := ∀ ns (k : Int) st, 0 ≤ k → k ≤ 100 → FP (F [.val (.scr ns), .val (.int k)] st) (fun z ln st' => ∃ p, z = .fresh p ∧ ln = [] ∧ st' = st ∧ Fd U 0 p) G0
section
variable {U : Int → Prop} {F : Fn} {Q : RV → List (Stt × PV) → List Inst → Prop} {E : Pst (Nat → List (Stt × PV) → List Inst → Prop)}
theorem draw_by (h : S_draw U F) {k b : Int} {p : PV} {st : List Inst} (hp : Fd U k p) (hk : k < 1000000000000000000000000000000) (hb : 0 < b) (hb2 : b < 10000000000000000000000000000000000000000000000000000000)
    (i : ∀ v p', 0 ≤ v → v < b → Fd U (k + 1) p' → Q (.val (.int v)) [(.live, p')] st) : FP (F [.loan .live p, .val (.int b)] st) Q E :=
  fp_by (h k p b st hp hk hb hb2) fun z ln st' ⟨v, p', e1, e2, e3, h0, h1, h2⟩ => by
    subst e1 e2 e3
    exact i v p' h0 h1 h2
end
def U60 (m : Int) : Prop := 0 ≤ m ∧ m < 1000000000000000000000000000000000000000000000000000000000000
def Uany (_ : Int) : Prop := True
/-- the same things in a drawn sequence -/
def S_mixed (U : Int → Prop) (F : Fn) : Prop := ∀ k p (xs : List Int) st, Fd U k p → k < 10000000000000000000000000000 → xs.length ≤ 1000 →
  FP (F [.loan .live p, .val (Lx .int xs)] st) (fun z ln st' => ∃ ys p', z = .fresh (Lx .int ys) ∧ ln = [(.live, p')] ∧ st' = st ∧ ys.Perm xs ∧ Fd U (k + xs.length) p') G0
/-- a number from 1 to the second argument -/
def S_size (U : Int → Prop) (F : Fn) : Prop := ∀ k p (m : Int) st, Fd U k p → k < 10000000000000000000000000000 → 1 ≤ m → m ≤ 1000000 →
  FP (F [.loan .live p, .val (.int m)] st) (fun z ln st' => ∃ v p', z = .val (.int v) ∧ ln = [(.live, p')] ∧ st' = st ∧ 1 ≤ v ∧ v ≤ m ∧ Fd U (k + 3) p') G0
section
variable {U : Int → Prop} {F : Fn} {Q : RV → List (Stt × PV) → List Inst → Prop} {E : Pst (Nat → List (Stt × PV) → List Inst → Prop)}
theorem mixed_by (h : S_mixed U F) {k : Int} {p : PV} {xs : List Int} {st : List Inst} (hp : Fd U k p) (hk : k < 10000000000000000000000000000) (hl : xs.length ≤ 1000)
    (i : ∀ ys p', ys.Perm xs → Fd U (k + xs.length) p' → Q (.fresh (Lx .int ys)) [(.live, p')] st) : FP (F [.loan .live p, .val (Lx .int xs)] st) Q E :=
  fp_by (h k p xs st hp hk hl) fun z ln st' ⟨ys, p', e1, e2, e3, h1, h2⟩ => by
    subst e1 e2 e3
    exact i ys p' h1 h2
theorem size_by (h : S_size U F) {k m : Int} {p : PV} {st : List Inst} (hp : Fd U k p) (hk : k < 10000000000000000000000000000) (h1 : 1 ≤ m) (h2 : m ≤ 1000000)
    (i : ∀ v p', 1 ≤ v → v ≤ m → Fd U (k + 3) p' → Q (.val (.int v)) [(.live, p')] st) : FP (F [.loan .live p, .val (.int m)] st) Q E :=
  fp_by (h k p m st hp hk h1 h2) fun z ln st' ⟨v, p', e1, e2, e3, h0, h1, h2⟩ => by
    subst e1 e2 e3
    exact i v p' h0 h1 h2
end
end
end BL
/-! B, the plain side: lines, final rows. -/
namespace BL
noncomputable section
open PySem PySem.Spec PyProof.Rows L2
def isI : PV → Bool
  | .int _ => true
  | _ => false
def btw (p : PV) (a b : Int) : Bool := match p with
  | .int i => decide (a ≤ i) && decide (i ≤ b)
  | _ => false
abbrev isMk (p : PV) : Bool := btw p (-1000000000000000000000000000000) 1000000000000000000000000000000
def isLn : PV → Bool
  | .tup xs => decide (1 ≤ xs.length) && decide (xs.length ≤ 60) && xs.all isMk
  | _ => false
theorem isLn_tup {xs : List PV} : isLn (.tup xs) = (decide (1 ≤ xs.length) && decide (xs.length ≤ 60) && xs.all isMk) := rfl
/-- something of a kind that isinstance knows; a tuple's items too -/
def knd (p : PV) : Prop := (tyP p).isSome = true
def kndT (p : PV) : Prop := knd p ∧ match p with
  | .tup xs => (∀ x ∈ xs, knd x) ∧ xs.length ≤ 1000000
  | _ => True
def Ln (l : List Int) : Prop := 1 ≤ l.length ∧ l.length ≤ 60 ∧ ∀ x ∈ l, -1000000000000000000000000000000 ≤ x ∧ x ≤ 1000000000000000000000000000000
theorem isLn_of {l : List Int} (h : Ln l) : isLn (Tx .int l) = true := by
  unfold isLn Tx
  simp only [List.length_map, Bool.and_eq_true, decide_eq_true_eq, List.all_eq_true, List.mem_map]
  refine ⟨⟨h.1, h.2.1⟩, ?_⟩
  rintro p ⟨x, hx, rfl⟩
  unfold isMk btw
  simp only [Bool.and_eq_true, decide_eq_true_eq]
  exact h.2.2 x hx
theorem kndT_T {l : List Int} (h : l.length ≤ 1000000) : kndT (Tx .int l) := by
  refine ⟨rfl, ?_, by rw [List.length_map]; exact h⟩
  intro p hp
  obtain ⟨x, _, rfl⟩ := List.mem_map.mp hp
  exact rfl
/-- a line with at most as many persons as the second argument says -/
def S_line (U : Int → Prop) (F : Fn) : Prop := ∀ k p (m : Int) st, Fd U k p → k < 100000000000000000000000000 → 1 ≤ m → m ≤ 60 →
  FP (F [.loan .live p, .val (.int m)] st) (fun z ln st' => ∃ l p', z = .val (Tx .int l) ∧ ln = [(.live, p')] ∧ st' = st ∧ (1 ≤ l.length ∧ ∀ x ∈ l, -1000000000000000000000000000000 ≤ x ∧ x ≤ 1000000000000000000000000000000) ∧ l.length ≤ m ∧ Fd U (k + 2000) p') G0
/-- 1 plus the last place before n with a mark below x, or 0 -/
def lastLt (l : List Int) (x : Int) : Nat → Nat
  | 0 => 0
  | n + 1 => if l.getD n 0 < x then n + 1 else lastLt l x n
theorem lastLt_le (l : List Int) (x : Int) : ∀ n, lastLt l x n ≤ n
  | 0 => Nat.le_refl _
  | n + 1 => by
    unfold lastLt
    split
    · exact Nat.le_refl _
    · exact Nat.le_succ_of_le (lastLt_le l x n)
theorem lastLt_lt (l : List Int) (x : Int) : ∀ n, 0 < lastLt l x n → l.getD (lastLt l x n - 1) 0 < x
  | 0, h => absurd h (Nat.lt_irrefl _)
  | n + 1, h => by
    unfold lastLt at h ⊢
    split
    · rename_i hx
      rw [Nat.add_sub_cancel]
      exact hx
    · rename_i hx
      rw [if_neg hx] at h
      exact lastLt_lt l x n h
theorem lastLt_ge (l : List Int) (x : Int) : ∀ n j, lastLt l x n ≤ j → j < n → x ≤ l.getD j 0
  | 0, j, _, h => absurd h (Nat.not_lt_zero _)
  | n + 1, j, h1, h2 => by
    unfold lastLt at h1
    split at h1
    · omega
    · rename_i hx
      by_cases hj : j = n
      · subst hj; omega
      · exact lastLt_ge l x n j h1 (by omega)
theorem lastLt_uniq {l : List Int} {x : Int} {n m : Nat} (h0 : m ≤ n) (h1 : 0 < m → l.getD (m - 1) 0 < x) (h2 : ∀ j, m ≤ j → j < n → x ≤ l.getD j 0) : lastLt l x n = m := by
  have a1 := lastLt_le l x n
  have a2 := lastLt_lt l x n
  have a3 := lastLt_ge l x n
  rcases Nat.lt_trichotomy (lastLt l x n) m with h | h | h
  · have := a3 (m - 1) (by omega) (by omega)
    have := h1 (by omega)
    omega
  · exact h
  · have := h2 (lastLt l x n - 1) (by omega) (by omega)
    have := a2 (by omega)
    omega
def fin1 (l : List Int) (i : Nat) : Int := (lastLt l (l.getD i 0) i : Nat)
def finalL (l : List Int) : List Int := (List.range l.length).map (fin1 l)
theorem finalL_length (l : List Int) : (finalL l).length = l.length := by unfold finalL; simp
theorem finalL_get {l : List Int} {i : Nat} (h : i < l.length) : (finalL l)[i]'(by rw [finalL_length]; exact h) = fin1 l i := by unfold finalL; simp
theorem finalL_getD {l : List Int} {i : Nat} (h : i < l.length) : (finalL l).getD i 0 = fin1 l i := by
  rw [List.getD_eq_getElem?_getD, List.getElem?_eq_getElem (by rw [finalL_length]; exact h), finalL_get h]
  rfl
theorem fin1_range (l : List Int) (i : Nat) : 0 ≤ fin1 l i ∧ fin1 l i ≤ i := by
  unfold fin1
  have := lastLt_le l (l.getD i 0) i
  omega
/-- a still row -/
def Still (l : List Int) : Prop := finalL l = l
theorem gx_D {l : List Int} {i : Nat} : gx l (i : Int) = l.getD i 0 := gx_nat
/-! ### still rows -/
theorem still_get {l : List Int} (h : Still l) {i : Nat} (hi : i < l.length) : l.getD i 0 = (lastLt l (l.getD i 0) i : Nat) := by
  have e := finalL_getD hi
  rw [show finalL l = l from h] at e
  exact e
theorem still_le {l : List Int} (h : Still l) {i : Nat} (hi : i < l.length) : 0 ≤ l.getD i 0 ∧ l.getD i 0 ≤ i := by
  have := still_get h hi
  have := lastLt_le l (l.getD i 0) i
  omega
theorem still_ge {l : List Int} (h : Still l) {i j : Nat} (hi : i < l.length) (h1 : l.getD i 0 ≤ j) (h2 : j < i) : l.getD i 0 ≤ l.getD j 0 := by
  have e := still_get h hi
  exact lastLt_ge l (l.getD i 0) i j (by omega) h2
theorem list_ext_getD {a b : List Int} (hl : a.length = b.length) (h : ∀ i, i < a.length → a.getD i 0 = b.getD i 0) : a = b := by
  apply List.ext_getElem hl
  intro i h1 h2
  have := h i h1
  rw [List.getD_eq_getElem?_getD, List.getD_eq_getElem?_getD, List.getElem?_eq_getElem h1, List.getElem?_eq_getElem h2] at this
  exact this
theorem finalL_eq {l m : List Int} (hl : m.length = l.length) (h0 : ∀ i, i < l.length → 0 ≤ m.getD i 0 ∧ m.getD i 0 ≤ i) (h1 : ∀ i, i < l.length → 0 < m.getD i 0 → l.getD (m.getD i 0 - 1).toNat 0 < l.getD i 0)
    (h2 : ∀ i j : Nat, i < l.length → m.getD i 0 ≤ j → j < i → l.getD i 0 ≤ l.getD j 0) : finalL l = m := by
  refine list_ext_getD (by rw [finalL_length, hl]) fun i hi => ?_
  rw [finalL_length] at hi
  rw [finalL_getD hi]
  unfold fin1
  have a := h0 i hi
  rw [lastLt_uniq (m := (m.getD i 0).toNat) (by omega) (fun hp => by
    have := h1 i hi (by omega)
    rw [show (m.getD i 0 - 1).toNat = (m.getD i 0).toNat - 1 by omega] at this
    exact this) (fun j hj1 hj2 => h2 i j hi (by omega) hj2)]
  omega
theorem still_of {l : List Int} (h0 : ∀ i, i < l.length → 0 ≤ l.getD i 0 ∧ l.getD i 0 ≤ i) (h2 : ∀ i j : Nat, i < l.length → l.getD i 0 ≤ j → j < i → l.getD i 0 ≤ l.getD j 0) : Still l := by
  refine finalL_eq rfl h0 (fun i hi hp => ?_) h2
  have a := h0 i hi
  have b := h0 (l.getD i 0 - 1).toNat (by omega)
  omega
/-- all marks are small and not negative: of still rows -/
theorem still_mem {l : List Int} (h : Still l) {x : Int} (hx : x ∈ l) : 0 ≤ x ∧ x < l.length := by
  obtain ⟨i, hi, rfl⟩ := List.getElem_of_mem hx
  have := still_le h hi
  rw [List.getD_eq_getElem?_getD, List.getElem?_eq_getElem hi] at this
  simp only [Option.getD_some] at this
  omega
theorem still_Ln {l : List Int} (h : Still l) (h1 : 1 ≤ l.length) (h2 : l.length ≤ 60) : Ln l := ⟨h1, h2, fun x hx => by have := still_mem h hx; omega⟩
theorem lastLt_above {l : List Int} {x : Int} {n j : Nat} (hj : j < n) (h : l.getD j 0 < x) : j + 1 ≤ lastLt l x n := by
  rcases Nat.lt_or_ge j (lastLt l x n) with h1 | h1
  · exact h1
  · have := lastLt_ge l x n j h1 hj
    omega
theorem final_still (l : List Int) : Still (finalL l) := by
  refine still_of (fun i hi => ?_) (fun i j hi h1 h2 => ?_)
  · rw [finalL_length] at hi
    rw [finalL_getD hi]
    exact fin1_range l i
  · rw [finalL_length] at hi
    rw [finalL_getD hi] at h1 ⊢
    rw [finalL_getD (show j < l.length by omega)]
    unfold fin1 at *
    by_cases h0 : lastLt l (l.getD i 0) i = 0
    · omega
    · have a := lastLt_lt l (l.getD i 0) i (by omega)
      have b := lastLt_ge l (l.getD i 0) i j (by omega) h2
      have c := lastLt_above (l := l) (x := l.getD j 0) (n := j) (j := lastLt l (l.getD i 0) i - 1) (by omega) (by omega)
      omega
/-- a still row with at most as many persons as the second argument says -/
def S_still (U : Int → Prop) (F : Fn) : Prop := ∀ k p (m : Int) st, Fd U k p → k < 100000000000000000000000000 → 1 ≤ m → m ≤ 60 →
  FP (F [.loan .live p, .val (.int m)] st) (fun z ln st' => ∃ l p', z = .val (Tx .int l) ∧ ln = [(.live, p')] ∧ st' = st ∧ Still l ∧ 1 ≤ l.length ∧ l.length ≤ m ∧ Fd U (k + 2000) p') G0
/-! ### depths -/
def depB (l : List Int) : Nat → List Int
  | 0 => []
  | n + 1 => depB l n ++ [if 0 < l.getD n 0 then gx (depB l n) (l.getD n 0 - 1) + 1 else 0]
def depthL (l : List Int) : List Int := depB l l.length
theorem depB_length (l : List Int) : ∀ n, (depB l n).length = n
  | 0 => rfl
  | n + 1 => by unfold depB; rw [List.length_append, depB_length l n]; rfl
theorem depB_getD (l : List Int) : ∀ (n i : Nat), i < n → (depB l n).getD i 0 = if 0 < l.getD i 0 then gx (depB l i) (l.getD i 0 - 1) + 1 else 0
  | 0, _, h => absurd h (Nat.not_lt_zero _)
  | n + 1, i, h => by
    show (depB l n ++ [if 0 < l.getD n 0 then gx (depB l n) (l.getD n 0 - 1) + 1 else 0]).getD i 0 = _
    rw [List.getD_eq_getElem?_getD]
    by_cases hi : i < n
    · rw [List.getElem?_append_left (by rw [depB_length]; exact hi), ← List.getD_eq_getElem?_getD, depB_getD l n i hi]
    · have e : i = n := by omega
      subst e
      rw [List.getElem?_append_right (by rw [depB_length]; exact Nat.le_refl _), depB_length, Nat.sub_self]
      rfl
theorem depB_pre (l : List Int) {n m i : Nat} (h1 : i < n) (h2 : i < m) : (depB l n).getD i 0 = (depB l m).getD i 0 := by rw [depB_getD l n i h1, depB_getD l m i h2]
theorem depthL_length (l : List Int) : (depthL l).length = l.length := depB_length l _
theorem depthL_get (l : List Int) (hc : ∀ i, i < l.length → l.getD i 0 ≤ i) {i : Nat} (hi : i < l.length) : (depthL l).getD i 0 = if 0 < l.getD i 0 then (depthL l).getD (l.getD i 0 - 1).toNat 0 + 1 else 0 := by
  unfold depthL
  rw [depB_getD l _ i hi]
  split
  · have := hc i hi
    congr 1
    have e : gx (depB l i) (l.getD i 0 - 1) = (depB l i).getD (l.getD i 0 - 1).toNat 0 := rfl
    rw [e]
    exact depB_pre l (by omega) (by omega)
  · rfl
theorem depthL_nn (l : List Int) (hc : ∀ i, i < l.length → l.getD i 0 ≤ i) : ∀ (i : Nat), i < l.length → 0 ≤ (depthL l).getD i 0 ∧ (depthL l).getD i 0 ≤ i := by
  intro i
  induction i using Nat.strongRecOn with
  | ind i ih =>
    intro hi
    rw [depthL_get l hc hi]
    split
    · have := hc i hi
      have := ih (l.getD i 0 - 1).toNat (by omega) (by omega)
      omega
    · omega
/-- the depths have the row as their final row -/
theorem depth_final {l : List Int} (h : Still l) : finalL (depthL l) = l := by
  have hc : ∀ i, i < l.length → l.getD i 0 ≤ i := fun i hi => (still_le h hi).2
  have h0 : ∀ i, i < l.length → 0 ≤ l.getD i 0 := fun i hi => (still_le h hi).1
  refine finalL_eq (depthL_length l).symm (fun i hi => by rw [depthL_length] at hi; exact still_le h hi) (fun i hi hp => ?_) (fun i j hi h1 h2 => ?_)
  · rw [depthL_length] at hi
    rw [depthL_get l hc hi, if_pos hp]
    omega
  · rw [depthL_length] at hi
    -- by induction on j
    have key : ∀ j : Nat, l.getD i 0 ≤ j → j < i → (depthL l).getD i 0 ≤ (depthL l).getD j 0 := by
      intro j
      induction j using Nat.strongRecOn with
      | ind j ih =>
        intro h1 h2
        have hj := still_ge h hi h1 h2
        have hj0 := hc j (by omega)
        have hi0 := h0 i hi
        rw [depthL_get l hc (show j < l.length by omega)]
        by_cases e : l.getD j 0 = l.getD i 0
        · rw [depthL_get l hc hi, e]
          exact Int.le_refl _
        · rw [if_pos (by omega)]
          have := ih (l.getD j 0 - 1).toNat (by omega) (by omega) (by omega)
          omega
    exact key j h1 h2
/-! ### the law -/
def S_law (F : Fn) : Prop := ∀ ns : List Int, ns.length ≤ 63 → (∀ z ∈ ns, Builtin.Int.intBits z ≤ 1048576) → FP (F [.val (.scr ns)] []) (fun z _ _ => z = .val (.bl true)) G0
theorem law_pure {F : Fn} (h : S_law F) (ns : List Int) (hl : ns.length ≤ 63) (hb : ∀ z ∈ ns, Builtin.Int.intBits z ≤ 1048576) : ∃ ln st, F [.val (.scr ns)] [] = .ok (.val (.bl true)) ln st := by
  have h := h ns hl hb
  cases e : F [.val (.scr ns)] [] with
  | ok z ln st =>
    rw [e] at h
    have h : z = .val (.bl true) := h
    subst h
    exact ⟨ln, st, rfl⟩
  | exc c ln st => rw [e] at h; exact h.elim
  | no => rw [e] at h; exact h.elim
end
end BL
/-! B, the plain side: repr of nested lists and tuples of small numbers. -/
namespace BL
noncomputable section
open PySem PySem.Spec PyProof.Rows L2
theorem strOk_app {a b : Str} (h : PyData.strOk a = true) (h2 : PyData.strOk b = true) : PyData.strOk (a ++ b) = true := by
  have e : (a ++ b).cps = a.cps ++ b.cps := rfl
  unfold PyData.strOk at *
  rw [e, Array.all_append, h, h2]
  rfl
theorem strOk_textFrom : ∀ (ts : List Str) (k : Nat) (acc : Str), PyData.strOk acc = true → (∀ t ∈ ts, PyData.strOk t = true) → PyData.strOk (textFrom k acc ts) = true
  | [], _, _, h, _ => h
  | t :: ts, k, acc, h, ht => strOk_textFrom ts (k + 1) _ (strOk_app (strOk_app h (strOk_of _)) (ht t (List.mem_cons_self ..))) fun u hu => ht u (List.mem_cons_of_mem _ hu)
theorem strOk_list {ts : List Str} (h : ∀ t ∈ ts, PyData.strOk t = true) : PyData.strOk (listText ts) = true :=
  strOk_app (strOk_textFrom ts 0 _ (strOk_of _) h) (strOk_of _)
theorem strOk_join : ∀ (ts : List Str), (∀ t ∈ ts, PyData.strOk t = true) → PyData.strOk (Str.join ", " ts) = true
  | [], _ => strOk_of ""
  | [x], h => h x (List.mem_singleton.mpr rfl)
  | x :: y :: r, h => by
    show PyData.strOk (x ++ ", " ++ Str.join ", " (y :: r)) = true
    exact strOk_app (strOk_app (h x (List.mem_cons_self ..)) (strOk_of _)) (strOk_join (y :: r) fun u hu => h u (List.mem_cons_of_mem _ hu))
theorem strOk_tuple {ts : List Str} (h : ∀ t ∈ ts, PyData.strOk t = true) : PyData.strOk (tupleText ts) = true :=
  strOk_app (strOk_app (strOk_of _) (strOk_join ts h)) (strOk_of _)
theorem listText_le (ts : List Str) : (listText ts).length ≤ piled ts + 2 := by
  unfold listText
  rw [strLen_append]
  have e : (("]" : String) : Str).length = 1 := rfl
  have e1 : (("[" : String) : Str).length = 1 := rfl
  rw [e]
  cases ts with
  | nil => show (("[" : String) : Str).length + 1 ≤ _; omega
  | cons t r =>
    show (textFrom 1 (("[" : Str) ++ (if 0 > 0 then ", " else "" : String) ++ t) r).length + 1 ≤ _
    rw [textFrom_length_pos r 1 _ (by decide), strLen_append, strLen_append, piled_cons, e1]
    have e2 : (((if 0 > 0 then ", " else "" : String)) : Str).length = 0 := rfl
    rw [e2]
    omega
theorem tupleText_le (ts : List Str) : (tupleText ts).length ≤ piled ts + 3 := by
  unfold tupleText
  rw [strLen_append, strLen_append]
  have e1 : (("(" : String) : Str).length = 1 := rfl
  have e2 : (((if (ts.length == 1) = true then ",)" else ")" : String)) : Str).length ≤ 2 := by split <;> decide
  have e3 : (Str.join ", " ts).length ≤ piled ts := by
    cases ts with
    | nil => exact Nat.le_refl _
    | cons t r =>
      have := join_length_add (t :: r) (by simp)
      omega
  rw [e1]
  omega
mutual
/-- n things, d deep, of small numbers -/
inductive Sm : Nat → Nat → PV → Prop
  | non : Sm 1 1 .non
  | bl (b : Bool) : Sm 1 1 (.bl b)
  | int (i : Int) : i.natAbs.log2 < 1920 → Sm 1 1 (.int i)
  | str (s : Str) : (PyData.str s).showable = true → (PyData.str s).shown.length + 2 ≤ 2010 → PyData.strOk (PyData.str s).shown = true → Sm 1 1 (.str s)
  | lst {n d : Nat} {xs : List PV} : Sms n d xs → Sm (n + 1) (d + 1) (.lst xs)
  | tup {n d : Nat} {xs : List PV} : Sms n d xs → Sm (n + 1) (d + 1) (.tup xs)
inductive Sms : Nat → Nat → List PV → Prop
  | nil {d : Nat} : Sms 0 d []
  | cons {n m d e : Nat} {x : PV} {xs : List PV} : Sm n e x → e ≤ d → Sms m d xs → Sms (n + m) d (x :: xs)
end
mutual
theorem Sm.dat : ∀ {n d : Nat} {p : PV}, Sm n d p → ∃ D, toD p = some D ∧ D.showable = true ∧ D.hasDict = false ∧ D.depth ≤ d ∧ D.shown.length + 2 ≤ 2010 * n ∧ PyData.strOk D.shown = true
  | _, _, _, .non => ⟨.none, rfl, by simp [PyData.showable], by simp [PyData.hasDict], by simp [PyData.depth], by simp only [PyData.shown]; decide +kernel, by simp only [PyData.shown]; exact strOk_of _⟩
  | _, _, _, .bl b => ⟨.bool b, rfl, by simp [PyData.showable], by simp [PyData.hasDict], by simp [PyData.depth], by simp only [PyData.shown]; cases b <;> decide +kernel, by simp only [PyData.shown]; cases b <;> exact strOk_of _⟩
  | _, _, _, .int i h => ⟨.int i, rfl, by simp [PyData.showable, h], by simp [PyData.hasDict], by simp [PyData.depth], by
      have := int_text_length_le (k := 1920) (by decide) h
      simp only [PyData.shown]
      rw [len_ofString]
      omega, by simp only [PyData.shown]; exact strOk_of _⟩
  | _, _, _, .str s h1 h2 h3 => ⟨.str s, rfl, h1, by simp [PyData.hasDict], by simp [PyData.depth], by omega, h3⟩
  | _, _, _, .lst h => by
    obtain ⟨D, e, h1, h2, h3, h4, h5⟩ := Sms.dat h
    refine ⟨.list D, by show (toDs _).map PyData.list = _; rw [e]; rfl, by simpa [PyData.showable] using h1, by simpa [PyData.hasDict] using h2, by simp only [PyData.depth]; omega, ?_, ?_⟩
    · simp only [PyData.shown]
      have := listText_le (PyData.shownAll D)
      omega
    · simp only [PyData.shown]
      exact strOk_list h5
  | _, _, _, .tup h => by
    obtain ⟨D, e, h1, h2, h3, h4, h5⟩ := Sms.dat h
    refine ⟨.tuple D, by show (toDs _).map PyData.tuple = _; rw [e]; rfl, by simpa [PyData.showable] using h1, by simpa [PyData.hasDict] using h2, by simp only [PyData.depth]; omega, ?_, ?_⟩
    · simp only [PyData.shown]
      have := tupleText_le (PyData.shownAll D)
      omega
    · simp only [PyData.shown]
      exact strOk_tuple h5
theorem Sms.dat : ∀ {n d : Nat} {ps : List PV}, Sms n d ps → ∃ D, toDs ps = some D ∧ PyData.showableAll D = true ∧ PyData.hasDictAll D = false ∧ PyData.depthAll D ≤ d ∧ piled (PyData.shownAll D) ≤ 2010 * n ∧ ∀ t ∈ PyData.shownAll D, PyData.strOk t = true
  | _, _, _, .nil => ⟨[], rfl, by simp [PyData.showableAll], by simp [PyData.hasDictAll], by simp [PyData.depthAll], by simp [PyData.shownAll, piled], by simp [PyData.shownAll]⟩
  | _, _, _, .cons h hd hs => by
    obtain ⟨D, e, h1, h2, h3, h4, h5⟩ := Sm.dat h
    obtain ⟨Ds, e', h1', h2', h3', h4', h5'⟩ := Sms.dat hs
    have hn := h.pos
    refine ⟨D :: Ds, by show (match toD _, toDs _ with | some d, some ds => some (d :: ds) | _, _ => none) = _; rw [e, e'], by simp [PyData.showableAll, h1, h1'], by simp [PyData.hasDictAll, h2, h2'], by simp only [PyData.depthAll]; omega, ?_, ?_⟩
    · simp only [PyData.shownAll, piled_cons]
      omega
    · intro t ht
      simp only [PyData.shownAll] at ht
      rcases List.mem_cons.mp ht with rfl | ht
      · exact h5
      · exact h5' t ht
theorem Sm.pos : ∀ {n d : Nat} {p : PV}, Sm n d p → 1 ≤ n
  | _, _, _, .non => Nat.le_refl _
  | _, _, _, .bl _ => Nat.le_refl _
  | _, _, _, .int _ _ => Nat.le_refl _
  | _, _, _, .str _ _ _ _ => Nat.le_refl _
  | _, _, _, .lst _ => Nat.le_add_left ..
  | _, _, _, .tup _ => Nat.le_add_left ..
end
/-- repr gives a text -/
def Rp (p : PV) : Prop := ∃ s, reprF [p] = some (.val (.str s)) ∧ PyData.strOk s = true
theorem Sm.rp {n d : Nat} {p : PV} (h : Sm n d p) (hn : n ≤ 8000) (hd : d ≤ 64) : Rp p := by
  obtain ⟨D, e, h1, h2, h3, h4, h5⟩ := h.dat
  refine ⟨D.shown, ?_, h5⟩
  show (shwP p).map (fun d => RV.val (.str d.shown)) = _
  unfold shwP
  rw [e]
  show Option.map _ (@ite _ _ (Classical.propDecidable _) _ _) = _
  rw [if_pos ⟨h1, h2, by omega, by unfold lim; omega⟩]
  rfl
def rpS (p : PV) : Str := match reprF [p] with
  | some (.val (.str s)) => s
  | _ => ""
theorem Rp.eq {p : PV} (h : Rp p) : reprF [p] = some (.val (.str (rpS p))) := by
  obtain ⟨s, e, h⟩ := h
  unfold rpS
  rw [e]
theorem Rp.ok {p : PV} (h : Rp p) : PyData.strOk (rpS p) = true := by
  obtain ⟨s, e, h⟩ := h
  unfold rpS
  rw [e]
  exact h
theorem eq_ss {s : Str} (h : PyData.strOk s = true) : eqF (.str s) (.str s) = some true := by
  unfold eqF
  rw [datP_str h]
  show some (PyData.eqv (.str s) (.str s)) = _
  simp [PyData.eqv]
theorem ne_ss {s : Str} (h : PyData.strOk s = true) : neF (.str s) (.str s) = some false := neF_str h
theorem Sms.map {α : Type} {n d : Nat} {f : α → PV} : ∀ {xs : List α}, (∀ x ∈ xs, Sm n d (f x)) → Sms (n * xs.length) d (xs.map f)
  | [], _ => .nil
  | x :: r, h => by
    have := Sms.cons (h x (List.mem_cons_self ..)) (Nat.le_refl _) (Sms.map (xs := r) fun y hy => h y (List.mem_cons_of_mem _ hy))
    rw [List.length_cons, Nat.mul_add, Nat.mul_one, Nat.add_comm (n * r.length) n]
    exact this
theorem Sm.small {i : Int} (h1 : -10000000000000000000000000000000000000000000000000000000000000000000000000000000000000000000000000000 < i) (h2 : i < 10000000000000000000000000000000000000000000000000000000000000000000000000000000000000000000000000000) : Sm 1 1 (.int i) := .int i (by have := lg_sm h1 h2; omega)
theorem Sm.L {α : Type} {n d : Nat} {f : α → PV} {xs : List α} (h : ∀ x ∈ xs, Sm n d (f x)) : Sm (n * xs.length + 1) (d + 1) (Lx f xs) := .lst (Sms.map h)
theorem Sm.T {α : Type} {n d : Nat} {f : α → PV} {xs : List α} (h : ∀ x ∈ xs, Sm n d (f x)) : Sm (n * xs.length + 1) (d + 1) (Tx f xs) := .tup (Sms.map h)
/-- the text of a display -/
theorem repr_L {ps : List PV} (h : Rp (.lst ps)) (hl : ps.length ≤ 16777216) : reprLF ps = some (.val (.str (rpS (.lst ps)))) := (if_pos hl).trans h.eq
theorem repr_T {ps : List PV} (h : Rp (.tup ps)) (hl : ps.length ≤ 16777216) : reprTF ps = some (.val (.str (rpS (.tup ps)))) := (if_pos hl).trans h.eq
theorem datP_bl (b : Bool) : datP (.bl b) = some (.bool b) := by
  unfold datP
  show (match (some (PyData.bool b) : Option PyData) with | some d => _ | none => none) = _
  exact if_pos (by simp [SeqAt.shaped, PyData.canLay0, PyData.depth])
theorem eq_bb {a b : Bool} : eqF (.bl a) (.bl b) = some (decide (a = b)) := by
  unfold eqF
  rw [datP_bl, datP_bl]
  show some (PyData.eqv (.bool a) (.bool b)) = _
  cases a <;> cases b <;> simp [PyData.eqv]
theorem ne_bb {a b : Bool} : neF (.bl a) (.bl b) = some (decide (a ≠ b)) := by
  unfold neF
  rw [eq_bb]
  simp
end
end BL
/-! B, the plain side: rounds, codes, their sequences, the least marks along a sequence. -/
namespace BL
noncomputable section
open PySem PySem.Spec PyProof.Rows L2
/-- the mark of place i after a round -/
def cntL (x : List Int) (i : Nat) : Nat := ((x.take i).filter fun y => decide (y < x.getD i 0)).length
def roundL (x : List Int) : List Int := (List.range x.length).map fun i => (cntL x i : Int)
theorem roundL_length (x : List Int) : (roundL x).length = x.length := by unfold roundL; simp
theorem roundL_getD {x : List Int} {i : Nat} (h : i < x.length) : (roundL x).getD i 0 = (cntL x i : Int) := by
  unfold roundL
  rw [List.getD_eq_getElem?_getD, List.getElem?_map, List.getElem?_range h]
  rfl
theorem cntL_le (x : List Int) (i : Nat) : cntL x i ≤ i := by
  unfold cntL
  exact Nat.le_trans (List.length_filter_le _ _) (by rw [List.length_take]; omega)
/-- a code -/
def Cd (c : List Int) : Prop := ∀ i, i < c.length → 0 ≤ c.getD i 0 ∧ c.getD i 0 ≤ i
theorem cd_Ln {c : List Int} (h : Cd c) (h1 : 1 ≤ c.length) (h2 : c.length ≤ 60) : Ln c := ⟨h1, h2, fun y hy => by
  obtain ⟨i, hi, rfl⟩ := List.getElem_of_mem hy
  have := h i hi
  rw [List.getD_eq_getElem?_getD, List.getElem?_eq_getElem hi] at this
  simp only [Option.getD_some] at this
  omega⟩
theorem round_Cd (x : List Int) : Cd (roundL x) := fun i hi => by
  rw [roundL_length] at hi
  rw [roundL_getD hi]
  have := cntL_le x i
  omega
/-- the persons from the smallest to the greatest mark of the order of the first n -/
def seqB (c : List Int) : Nat → List Int
  | 0 => []
  | n + 1 => (seqB c n).take (c.getD n 0).toNat ++ [(n : Int)] ++ (seqB c n).drop (c.getD n 0).toNat
theorem seqB_perm (c : List Int) : ∀ n, (seqB c n).Perm (rgI 0 n)
  | 0 => List.Perm.refl _
  | n + 1 => by
    show ((seqB c n).take (c.getD n 0).toNat ++ [(n : Int)] ++ (seqB c n).drop (c.getD n 0).toNat).Perm _
    have e : rgI 0 (n + 1) = rgI 0 n ++ [(n : Int)] := by
      unfold rgI
      rw [List.range_succ, List.map_append]
      simp
    rw [e, List.append_assoc]
    refine List.perm_middle.trans ?_
    show ((n : Int) :: ((seqB c n).take (c.getD n 0).toNat ++ (seqB c n).drop (c.getD n 0).toNat)).Perm _
    rw [List.take_append_drop]
    exact (List.Perm.cons _ (seqB_perm c n)).trans (List.perm_append_singleton _ _).symm
theorem seqB_length (c : List Int) (n : Nat) : (seqB c n).length = n := by rw [(seqB_perm c n).length_eq, rgI_length]
theorem rgI_mem {n : Nat} {a : Int} : a ∈ rgI 0 n ↔ 0 ≤ a ∧ a < n := by
  unfold rgI
  constructor
  · intro h
    obtain ⟨i, hi, rfl⟩ := List.mem_map.mp h
    rw [List.mem_range] at hi
    omega
  · intro h
    exact List.mem_map.mpr ⟨a.toNat, List.mem_range.mpr (by omega), by omega⟩
theorem seqB_mem {c : List Int} {n : Nat} {a : Int} : a ∈ seqB c n ↔ 0 ≤ a ∧ a < n := (seqB_perm c n).mem_iff.trans rgI_mem
theorem rgI_nodup (n : Nat) : (rgI 0 n).Nodup := by
  unfold rgI
  rw [List.nodup_iff_pairwise_ne, List.pairwise_map]
  exact (List.nodup_range (n := n)).imp fun h e => h (by omega)
theorem seqB_nodup (c : List Int) (n : Nat) : (seqB c n).Nodup := (seqB_perm c n).nodup_iff.mpr (rgI_nodup n)
/-- whether the place rises -/
def rise (a b : Int) : Int := if decide (a < b) = true then 1 else 0
theorem rise_lt {a b : Int} (h : a < b) : rise a b = 1 := by unfold rise; simp [h]
theorem rise_ge {a b : Int} (h : ¬ a < b) : rise a b = 0 := by unfold rise; simp [h]
theorem rise_nn (a b : Int) : 0 ≤ rise a b := by unfold rise; split <;> omega
/-- a may stand ahead of b in the sequence of the line x -/
def Rs (x : List Int) (a b : Int) : Prop := gx x a + rise a b ≤ gx x b
theorem Rs.trans {x : List Int} {a b c : Int} (h1 : Rs x a b) (h2 : Rs x b c) : Rs x a c := by
  unfold Rs at *
  have e1 := rise_nn a b
  have e2 := rise_nn b c
  by_cases h : a < c
  · rw [rise_lt h]
    by_cases h3 : a < b
    · rw [rise_lt h3] at h1; omega
    · rw [rise_lt (show b < c by omega)] at h2; omega
  · rw [rise_ge h]; omega
theorem Rs.le {x : List Int} {a b : Int} (h : Rs x a b) : gx x a ≤ gx x b := by
  unfold Rs at h
  have := rise_nn a b
  omega
theorem pw_of_chain {α : Type} {R : α → α → Prop} (ht : ∀ a b c, R a b → R b c → R a c) : ∀ {s : List α}, (∀ i (h : i + 1 < s.length), R (s[i]'(by omega)) s[i + 1]) → s.Pairwise R
  | [], _ => .nil
  | [a], _ => List.pairwise_singleton _ _
  | a :: b :: r, h => by
    have ih : (b :: r).Pairwise R := pw_of_chain ht (s := b :: r) fun i hi => h (i + 1) (by simp only [List.length_cons] at hi ⊢; omega)
    refine List.pairwise_cons.mpr ⟨fun c hc => ?_, ih⟩
    have h0 : R a b := h 0 (by simp)
    rcases List.mem_cons.mp hc with rfl | hc
    · exact h0
    · exact ht a b c h0 ((List.pairwise_cons.mp ih).1 c hc)
/-- counting along a sequence is counting among the first places -/
theorem cnt_seq {c x : List Int} {n : Nat} (v : Int) (hx : n ≤ x.length) : (seqB c n).countP (fun a => decide (gx x a < v)) = ((x.take n).filter fun y => decide (y < v)).length := by
  rw [(seqB_perm c n).countP_eq, ← List.countP_eq_length_filter]
  have e : x.take n = (rgI 0 n).map (gx x) := by
    apply List.ext_getElem
    · rw [List.length_take, List.length_map, rgI_length]; omega
    · intro i h1 h2
      rw [List.length_map, rgI_length] at h2
      rw [List.getElem_take, List.getElem_map, rgI_get h2, Int.zero_add, gx_nat, List.getD_eq_getElem?_getD, List.getElem?_eq_getElem (by omega)]
      rfl
  rw [e, List.countP_map]
  rfl
theorem split_of_cnt {α : Type} {f : α → Int} {v : Int} : ∀ {s : List α} {k : Nat}, s.Pairwise (fun a b => f a ≤ f b) → s.countP (fun a => decide (f a < v)) = k → (∀ a ∈ s.take k, f a < v) ∧ ∀ b ∈ s.drop k, v ≤ f b
  | [], k, _, _ => ⟨by simp, by simp⟩
  | a :: r, k, hp, hc => by
    obtain ⟨h1, h2⟩ := List.pairwise_cons.mp hp
    by_cases ha : f a < v
    · rw [List.countP_cons_of_pos (by simpa using ha)] at hc
      obtain ⟨j, rfl⟩ : ∃ j, k = j + 1 := ⟨r.countP (fun a => decide (f a < v)), hc.symm⟩
      obtain ⟨i1, i2⟩ := split_of_cnt (f := f) (v := v) h2 (k := j) (by omega)
      refine ⟨fun b hb => ?_, fun b hb => i2 b (by simpa using hb)⟩
      rw [List.take_succ_cons] at hb
      rcases List.mem_cons.mp hb with rfl | hb
      · exact ha
      · exact i1 b hb
    · have h0 : k = 0 := by
        rw [← hc, List.countP_eq_zero]
        intro b hb
        rcases List.mem_cons.mp hb with rfl | hb
        · simpa using ha
        · have := h1 b hb
          simp only [decide_eq_true_eq]
          omega
      subst h0
      refine ⟨by simp, fun b hb => ?_⟩
      rw [List.drop_zero] at hb
      rcases List.mem_cons.mp hb with rfl | hb
      · omega
      · have := h1 b hb
        omega
theorem cnt_of_split {α : Type} {f : α → Int} {v : Int} {s : List α} {k : Nat} (hk : k ≤ s.length) (h1 : ∀ a ∈ s.take k, f a < v) (h2 : ∀ b ∈ s.drop k, v ≤ f b) : s.countP (fun a => decide (f a < v)) = k := by
  have e : s.countP (fun a => decide (f a < v)) = (s.take k ++ s.drop k).countP (fun a => decide (f a < v)) := by rw [List.take_append_drop]
  rw [e, List.countP_append, List.countP_eq_length.mpr (fun a ha => by simpa using h1 a ha), List.countP_eq_zero.mpr (fun b hb => by have := h2 b hb; simp only [decide_eq_true_eq]; omega), List.length_take]
  omega
/-- THE LAW: a round leads to the code exactly if the sequence is sorted -/
theorem seq_iff {c x : List Int} (hc : Cd c) : ∀ n, n ≤ c.length → n ≤ x.length → ((∀ i, i < n → (cntL x i : Int) = c.getD i 0) ↔ (seqB c n).Pairwise (Rs x))
  | 0, _, _ => ⟨fun _ => .nil, fun _ i h => absurd h (Nat.not_lt_zero _)⟩
  | n + 1, h1, h2 => by
    have ih := seq_iff (x := x) hc n (by omega) (by omega)
    have hcn := hc n (by omega)
    have hlen := seqB_length c n
    have hm : ∀ a ∈ seqB c n, 0 ≤ a ∧ a < n := fun a ha => seqB_mem.mp ha
    have hgx : gx x (n : Int) = x.getD n 0 := gx_nat
    have hcnt : cntL x n = (seqB c n).countP (fun a => decide (gx x a < x.getD n 0)) := (cnt_seq (x.getD n 0) (by omega)).symm
    have hsp : (seqB c (n + 1)).Pairwise (Rs x) ↔ (seqB c n).Pairwise (Rs x) ∧ (∀ a ∈ (seqB c n).take (c.getD n 0).toNat, gx x a < x.getD n 0) ∧ ∀ b ∈ (seqB c n).drop (c.getD n 0).toNat, x.getD n 0 ≤ gx x b := by
      show ((seqB c n).take (c.getD n 0).toNat ++ [(n : Int)] ++ (seqB c n).drop (c.getD n 0).toNat).Pairwise (Rs x) ↔ _
      have hR1 : ∀ a ∈ (seqB c n).take (c.getD n 0).toNat, (Rs x a n ↔ gx x a < x.getD n 0) := fun a ha => by
        have := hm a (List.mem_of_mem_take ha)
        unfold Rs
        rw [rise_lt this.2, hgx]
        omega
      have hR2 : ∀ b ∈ (seqB c n).drop (c.getD n 0).toNat, (Rs x n b ↔ x.getD n 0 ≤ gx x b) := fun b hb => by
        have := hm b (List.mem_of_mem_drop hb)
        unfold Rs
        rw [rise_ge (show ¬ (n : Int) < b by omega), hgx]
        omega
      constructor
      · intro h
        obtain ⟨h3, h4, h5⟩ := List.pairwise_append.mp h
        obtain ⟨h6, _, h7⟩ := List.pairwise_append.mp h3
        refine ⟨?_, fun a ha => (hR1 a ha).mp (h7 a ha _ (List.mem_singleton.mpr rfl)), fun b hb => (hR2 b hb).mp (h5 _ (List.mem_append_right _ (List.mem_singleton.mpr rfl)) b hb)⟩
        rw [← List.take_append_drop (c.getD n 0).toNat (seqB c n)]
        exact List.pairwise_append.mpr ⟨h6, h4, fun a ha b hb => h5 a (List.mem_append_left _ ha) b hb⟩
      · rintro ⟨h3, h4, h5⟩
        rw [← List.take_append_drop (c.getD n 0).toNat (seqB c n)] at h3
        obtain ⟨h6, h7, h8⟩ := List.pairwise_append.mp h3
        refine List.pairwise_append.mpr ⟨List.pairwise_append.mpr ⟨h6, List.pairwise_singleton _ _, fun a ha b hb => ?_⟩, h7, fun a ha b hb => ?_⟩
        · rw [List.mem_singleton.mp hb]
          exact (hR1 a ha).mpr (h4 a ha)
        · rcases List.mem_append.mp ha with ha | ha
          · exact h8 a ha b hb
          · rw [List.mem_singleton.mp ha]
            exact (hR2 b hb).mpr (h5 b hb)
    rw [hsp]
    constructor
    · intro h
      have hs := ih.mp fun i hi => h i (by omega)
      refine ⟨hs, ?_⟩
      have hn := h n (by omega)
      exact split_of_cnt (hs.imp fun h => h.le) (by rw [← hcnt]; omega)
    · rintro ⟨h3, h4, h5⟩ i hi
      by_cases e : i = n
      · subst e
        have := cnt_of_split (f := gx x) (v := x.getD i 0) (s := seqB c i) (k := (c.getD i 0).toNat) (by omega) h4 h5
        rw [hcnt, this]
        omega
      · exact ih.mpr h3 i (by omega)
theorem round_iff {c x : List Int} (hc : Cd c) (hl : x.length = c.length) : roundL x = c ↔ (seqB c c.length).Pairwise (Rs x) := by
  rw [← seq_iff hc c.length (Nat.le_refl _) (by omega)]
  constructor
  · intro h i hi
    have := roundL_getD (x := x) (i := i) (by omega)
    rw [h] at this
    exact this.symm
  · intro h
    refine list_ext_getD (by rw [roundL_length, hl]) fun i hi => ?_
    rw [roundL_length] at hi
    rw [roundL_getD hi]
    exact h i (by omega)
/-! ### the least marks -/
def lmB (s : List Int) : Nat → List Int
  | 0 => List.replicate s.length 0
  | k + 1 => (lmB s k).set (s.getD (k + 1) 0).toNat (gx (lmB s k) (s.getD k 0) + rise (s.getD k 0) (s.getD (k + 1) 0))
def leastM (s : List Int) : List Int := lmB s (s.length - 1)
theorem lmB_length (s : List Int) : ∀ k, (lmB s k).length = s.length
  | 0 => by unfold lmB; simp
  | k + 1 => by unfold lmB; rw [List.length_set, lmB_length s k]
theorem gx_set_eq {l : List Int} {i v : Int} (h0 : 0 ≤ i) (h : i < l.length) : gx (l.set i.toNat v) i = v := by
  unfold gx
  rw [List.getD_eq_getElem?_getD, List.getElem?_set_self (by omega)]
  rfl
theorem gx_set_ne {l : List Int} {i j v : Int} (h0 : 0 ≤ i) (h1 : 0 ≤ j) (h : i ≠ j) : gx (l.set i.toNat v) j = gx l j := by
  unfold gx
  rw [List.getD_eq_getElem?_getD, List.getD_eq_getElem?_getD, List.getElem?_set_ne (by omega)]
theorem lmB_inv {s : List Int} (hn : s.Nodup) (hm : ∀ a ∈ s, 0 ≤ a ∧ a < s.length) : ∀ k, k + 1 ≤ s.length →
    gx (lmB s k) (s.getD 0 0) = 0 ∧ ∀ i, i < k → gx (lmB s k) (s.getD (i + 1) 0) = gx (lmB s k) (s.getD i 0) + rise (s.getD i 0) (s.getD (i + 1) 0)
  | 0, h => by
    refine ⟨?_, fun i hi => absurd hi (Nat.not_lt_zero _)⟩
    unfold lmB gx
    rw [List.getD_eq_getElem?_getD, List.getElem?_replicate]
    split <;> rfl
  | k + 1, h => by
    obtain ⟨h1, h2⟩ := lmB_inv hn hm k (by omega)
    have hg : ∀ i, i < s.length → s.getD i 0 ∈ s := fun i hi => by
      rw [List.getD_eq_getElem?_getD, List.getElem?_eq_getElem hi]
      exact List.getElem_mem hi
    have hne : ∀ i, i ≤ k → s.getD (k + 1) 0 ≠ s.getD i 0 := fun i hi e => by
      rw [List.getD_eq_getElem?_getD, List.getD_eq_getElem?_getD, List.getElem?_eq_getElem (show k + 1 < s.length by omega), List.getElem?_eq_getElem (show i < s.length by omega)] at e
      have e : s[k + 1]'(by omega) = s[i]'(by omega) := e
      exact (List.pairwise_iff_getElem.mp hn) i (k + 1) (by omega) (by omega) (by omega) e.symm
    have hk1 := hm _ (hg (k + 1) (by omega))
    have hlen := lmB_length s k
    have key : ∀ i, i ≤ k → gx (lmB s (k + 1)) (s.getD i 0) = gx (lmB s k) (s.getD i 0) := fun i hi => by
      show gx ((lmB s k).set (s.getD (k + 1) 0).toNat _) (s.getD i 0) = _
      exact gx_set_ne hk1.1 (hm _ (hg i (by omega))).1 (hne i hi)
    have key2 : gx (lmB s (k + 1)) (s.getD (k + 1) 0) = gx (lmB s k) (s.getD k 0) + rise (s.getD k 0) (s.getD (k + 1) 0) := by
      show gx ((lmB s k).set (s.getD (k + 1) 0).toNat _) (s.getD (k + 1) 0) = _
      exact gx_set_eq hk1.1 (by rw [hlen]; exact hk1.2)
    refine ⟨by rw [key 0 (by omega)]; exact h1, fun i hi => ?_⟩
    by_cases e : i = k
    · subst e
      rw [key2, key i (Nat.le_refl _)]
    · rw [key (i + 1) (by omega), key i (by omega)]
      exact h2 i (by omega)
theorem getD_get {s : List Int} {i : Nat} (h : i < s.length) : s.getD i 0 = s[i] := by rw [List.getD_eq_getElem?_getD, List.getElem?_eq_getElem h]; rfl
theorem least_pw {s : List Int} (hn : s.Nodup) (hm : ∀ a ∈ s, 0 ≤ a ∧ a < s.length) (h1 : 1 ≤ s.length) : s.Pairwise (Rs (leastM s)) := by
  refine pw_of_chain (R := Rs (leastM s)) (fun a b c => Rs.trans) fun i hi => ?_
  have := (lmB_inv hn hm (s.length - 1) (by omega)).2 i (by omega)
  rw [getD_get hi, getD_get (show i < s.length by omega)] at this
  unfold Rs leastM
  omega
theorem least_round {c : List Int} (hc : Cd c) (h1 : 1 ≤ c.length) : roundL (leastM (seqB c c.length)) = c := by
  have hl := seqB_length c c.length
  refine (round_iff hc (by unfold leastM; rw [lmB_length, hl])).mpr ?_
  exact least_pw (seqB_nodup c _) (fun a ha => by rw [hl]; exact seqB_mem.mp ha) (by omega)
/-- the least marks are nowhere above a line less its least mark -/
theorem least_le {c x : List Int} (hc : Cd c) (hl : x.length = c.length) (hr : roundL x = c) {m : Int} (hm : ∀ y ∈ x, m ≤ y) : ∀ i, i < c.length → gx (leastM (seqB c c.length)) (i : Nat) ≤ gx x (i : Nat) - m := by
  have hlen := seqB_length c c.length
  have hpw := (round_iff hc hl).mp hr
  intro i hi
  have hmem : ((i : Nat) : Int) ∈ seqB c c.length := seqB_mem.mpr (by omega)
  obtain ⟨k, hk, e⟩ := List.getElem_of_mem hmem
  have inv := lmB_inv (seqB_nodup c c.length) (fun a ha => by rw [hlen]; exact seqB_mem.mp ha) (c.length - 1) (by omega)
  have key : ∀ k, k < c.length → gx (leastM (seqB c c.length)) ((seqB c c.length).getD k 0) ≤ gx x ((seqB c c.length).getD k 0) - m := by
    intro k
    induction k with
    | zero =>
      intro h
      have h0 : gx (leastM (seqB c c.length)) ((seqB c c.length).getD 0 0) = 0 := by unfold leastM; rw [hlen]; exact inv.1
      rw [h0]
      have := seqB_mem.mp (show (seqB c c.length).getD 0 0 ∈ seqB c c.length by rw [getD_get (by omega)]; exact List.getElem_mem _)
      have := hm _ (gx_mem (xs := x) this.1 (by omega))
      omega
    | succ k ih =>
      intro h
      have h2 := inv.2 k (by omega)
      have h3 := ih (by omega)
      have h4 : Rs x ((seqB c c.length)[k]'(by omega)) ((seqB c c.length)[k + 1]'(by omega)) := (List.pairwise_iff_getElem.mp hpw) k (k + 1) (by omega) (by omega) (by omega)
      unfold Rs at h4
      rw [← getD_get, ← getD_get] at h4
      unfold leastM at h3 ⊢
      rw [hlen] at h3 ⊢
      omega
  have := key k (by omega)
  rw [getD_get hk, e] at this
  exact this
end
end BL
/-! B, the plain side: still rows by chains. -/
namespace BL
noncomputable section
open PySem PySem.Spec PyProof.Rows L2
/-- the chain of the last person's ancestors -/
structure Chq (found chain : List Int) : Prop where
  st : Still found
  rng : ∀ c ∈ chain, 0 ≤ c ∧ c < found.length
  srt : chain.Pairwise (· < ·)
  und : ∀ c ∈ chain, ∀ j : Nat, c < j → j < found.length → c + 1 ≤ found.getD j 0
theorem chq_step {found chain : List Int} {kept : Int} (h : Chq found chain) (h0 : 0 ≤ kept) (h1 : kept ≤ chain.length) :
    Chq (found ++ [if 0 < kept then gx chain (kept - 1) + 1 else 0]) (chain.take kept.toNat ++ [(found.length : Int)]) := by
  have hm : (0 ≤ (if 0 < kept then gx chain (kept - 1) + 1 else 0) ∧ (if 0 < kept then gx chain (kept - 1) + 1 else 0) ≤ found.length) ∧
      (∀ j : Nat, (if 0 < kept then gx chain (kept - 1) + 1 else 0) ≤ j → j < found.length → (if 0 < kept then gx chain (kept - 1) + 1 else 0) ≤ found.getD j 0) ∧
      ∀ c ∈ chain.take kept.toNat, c + 1 ≤ (if 0 < kept then gx chain (kept - 1) + 1 else 0) := by
    by_cases hk : 0 < kept
    · rw [if_pos hk]
      have hmem : gx chain (kept - 1) ∈ chain := gx_mem (by omega) (by omega)
      have hr := h.rng _ hmem
      refine ⟨by omega, fun j hj1 hj2 => h.und _ hmem j (by omega) hj2, fun c hc => ?_⟩
      obtain ⟨i, hi, rfl⟩ := List.getElem_of_mem hc
      rw [List.length_take] at hi
      rw [List.getElem_take, gx_get (by omega)]
      by_cases e : i = (kept - 1).toNat
      · subst e; omega
      · have := (List.pairwise_iff_getElem.mp h.srt) i (kept - 1).toNat (by omega) (by omega) (by omega)
        omega
    · rw [if_neg hk]
      refine ⟨by omega, fun j _ hj2 => (still_le h.st hj2).1, fun c hc => ?_⟩
      rw [show kept.toNat = 0 by omega] at hc
      cases hc
  generalize (if 0 < kept then gx chain (kept - 1) + 1 else 0) = m at hm ⊢
  obtain ⟨⟨m0, m1⟩, m2, m3⟩ := hm
  have gl : ∀ j, j < found.length → (found ++ [m]).getD j 0 = found.getD j 0 := fun j hj => by
    rw [List.getD_eq_getElem?_getD, List.getD_eq_getElem?_getD, List.getElem?_append_left hj]
  have gr : (found ++ [m]).getD found.length 0 = m := by
    rw [List.getD_eq_getElem?_getD, List.getElem?_append_right (Nat.le_refl _), Nat.sub_self]
    rfl
  have hlen : (found ++ [m]).length = found.length + 1 := by simp
  refine ⟨still_of (fun i hi => ?_) (fun i j hi h1 h2 => ?_), fun c hc => ?_, ?_, fun c hc j h1 h2 => ?_⟩
  · rw [hlen] at hi
    by_cases e : i = found.length
    · subst e; rw [gr]; omega
    · rw [gl i (by omega)]; exact still_le h.st (by omega)
  · rw [hlen] at hi
    by_cases e : i = found.length
    · subst e
      rw [gr] at h1 ⊢
      rw [gl j h2]
      exact m2 j h1 h2
    · rw [gl i (by omega)] at h1 ⊢
      rw [gl j (by omega)]
      exact still_ge h.st (by omega) h1 h2
  · rw [hlen]
    rcases List.mem_append.mp hc with hc | hc
    · have := h.rng c (List.mem_of_mem_take hc)
      omega
    · rw [List.mem_singleton.mp hc]; omega
  · refine List.pairwise_append.mpr ⟨h.srt.sublist (List.take_sublist _ _), List.pairwise_singleton _ _, fun a ha b hb => ?_⟩
    rw [List.mem_singleton.mp hb]
    exact (h.rng a (List.mem_of_mem_take ha)).2
  · rw [hlen] at h2
    rcases List.mem_append.mp hc with hc | hc
    · by_cases e : j = found.length
      · subst e; rw [gr]; exact m3 c hc
      · rw [gl j (by omega)]; exact h.und c (List.mem_of_mem_take hc) j h1 (by omega)
    · rw [List.mem_singleton.mp hc] at h1; omega
end
end BL
/-! B, the plain side: the text of a list of two. -/
namespace BL
noncomputable section
open PySem PySem.Spec PyProof.Rows L2
theorem str_app_nil (x : Str) : x ++ ("" : Str) = x := by
  show (⟨x.cps ++ (("" : Str)).cps⟩ : Str) = x
  have e : (("" : Str)).cps = #[] := by decide +kernel
  rw [e, Array.append_empty]
theorem Sm.shown {n d : Nat} {p : PV} (h : Sm n d p) (hn : n ≤ 8000) (hd : d ≤ 64) : ∃ D, toD p = some D ∧ rpS p = D.shown ∧ D.shown.length + 2 ≤ 2010 * n := by
  obtain ⟨D, e, h1, h2, h3, h4, h5⟩ := h.dat
  refine ⟨D, e, ?_, h4⟩
  have hr : reprF [p] = some (.val (.str D.shown)) := by
    show (shwP p).map (fun d => RV.val (.str d.shown)) = _
    unfold shwP
    rw [e]
    show Option.map _ (@ite _ _ (Classical.propDecidable _) _ _) = _
    rw [if_pos ⟨h1, h2, by omega, by unfold lim; omega⟩]
    rfl
  unfold rpS
  rw [hr]
theorem Sm.len {n d : Nat} {p : PV} (h : Sm n d p) (hn : n ≤ 8000) (hd : d ≤ 64) : (rpS p).length + 2 ≤ 2010 * n := by
  obtain ⟨D, _, e, hl⟩ := h.shown hn hd
  rw [e]
  exact hl
theorem rp_two {n d m e : Nat} {p q : PV} (h : Sm n d p) (h' : Sm m e q) (hn : n + m ≤ 7999) (hd : d ≤ 63) (he : e ≤ 63) : rpS (.lst [p, q]) = (("[" : Str) ++ rpS p) ++ (", " : Str) ++ rpS q ++ ("]" : Str) := by
  obtain ⟨D, e1, e2, _⟩ := h.shown (by omega) (by omega)
  obtain ⟨D', e1', e2', _⟩ := h'.shown (by omega) (by omega)
  have hb : Sm (n + (m + 0) + 1) (max d e + 1) (.lst [p, q]) := .lst (.cons h (Nat.le_max_left ..) (.cons h' (Nat.le_max_right ..) .nil))
  obtain ⟨D2, e3, e4, _⟩ := hb.shown (by omega) (by omega)
  have e5 : toD (.lst [p, q]) = some (.list [D, D']) := by
    show (match toD p, (match toD q, (some [] : Option (List PyData)) with | some d, some ds => some (d :: ds) | _, _ => none) with | some d, some ds => some (d :: ds) | _, _ => none).map PyData.list = _
    rw [e1, e1']
    rfl
  rw [e5] at e3
  cases e3
  rw [e4, e2, e2']
  simp only [PyData.shown, PyData.shownAll]
  show textFrom 2 ((("[" : Str) ++ ("" : Str) ++ D.shown) ++ (", " : Str) ++ D'.shown) [] ++ ("]" : Str) = _
  rw [str_app_nil]
  rfl
theorem eqF_of {p q : PV} {d e : PyData} (h : toD p = some d) (h' : toD q = some e) (s : SeqAt.shaped d = true) (s' : SeqAt.shaped e = true) : eqF p q = some (PyData.eqv d e) := by
  unfold eqF datP
  rw [h, h']
  show (match (@ite _ (SeqAt.shaped d = true) (Classical.propDecidable _) (some d) none), (@ite _ (SeqAt.shaped e = true) (Classical.propDecidable _) (some e) none) with | some d, some e => some (PyData.eqv d e) | _, _ => none) = _
  rw [if_pos s, if_pos s']
theorem add_ss {a b : Str} (h : a.length + b.length ≤ 16777216) : addF (.str a) (.str b) = some (.val (.str (a ++ b))) := if_pos h
end
end BL
/-! B, the plain side: brackets of still rows. -/
namespace BL
noncomputable section
open PySem PySem.Spec PyProof.Rows L2
def sg (b : Bool) : Nat := if b then 40 else 41
def tx (l : List Bool) : Str := ⟨(l.map sg).toArray⟩
theorem tx_app (a b : List Bool) : tx (a ++ b) = tx a ++ tx b := by
  show (⟨((a ++ b).map sg).toArray⟩ : Str) = ⟨(a.map sg).toArray ++ (b.map sg).toArray⟩
  simp
theorem tx_len (a : List Bool) : (tx a).length = a.length := by
  show ((a.map sg).toArray).size = _
  simp
theorem tx_inj {a b : List Bool} (h : tx a = tx b) : a = b := by
  have h : (a.map sg).toArray = (b.map sg).toArray := Str.mk.inj h
  have h : a.map sg = b.map sg := by simpa using h
  refine (List.map_inj_right fun x y => ?_).mp h
  cases x <;> cases y <;> decide
theorem tx_open : (("(" : Str)) = tx [true] := by decide +kernel
theorem tx_close : ((")" : Str)) = tx [false] := by decide +kernel
theorem tx_empty : (("" : Str)) = tx [] := by decide +kernel
theorem tx_rep (b : Bool) (k : Int) : repS (tx [b]) k = tx (List.replicate k.toNat b) := by
  unfold repS tx
  congr 2
  rw [List.map_replicate]
  show (List.replicate k.toNat [sg b]).flatten = _
  rw [List.flatten_replicate_singleton]
/-! stacks of persons -/
def tm : List Nat → Int
  | [] => 0
  | p :: _ => (p : Int) + 1
theorem tm_nil : tm [] = 0 := rfl
theorem tm_cons {p : Nat} {r : List Nat} : tm (p :: r) = (p : Int) + 1 := rfl
def Stk (l : List Int) : List Nat → Prop
  | [] => True
  | i :: r => i < l.length ∧ l.getD i 0 = tm r ∧ Stk l r
theorem stk_depth {l : List Int} (hs : Still l) : ∀ {r : List Nat} {i : Nat}, Stk l (i :: r) → (depthL l).getD i 0 = r.length
  | [], i, h => by
    rw [depthL_get l (fun i hi => (still_le hs hi).2) h.1, h.2.1]
    rfl
  | p :: r, i, h => by
    rw [depthL_get l (fun i hi => (still_le hs hi).2) h.1, h.2.1]
    show (if (0 : Int) < (p : Int) + 1 then (depthL l).getD ((p : Int) + 1 - 1).toNat 0 + 1 else 0) = _
    rw [if_pos (by omega), show ((p : Int) + 1 - 1).toNat = p by omega, stk_depth hs h.2.2]
    rfl
/-- the top of a stack's rest is less -/
theorem stk_tm {l : List Int} (hs : Still l) {r : List Nat} {i : Nat} (h : Stk l (i :: r)) : 0 ≤ tm r ∧ tm r ≤ i := by
  have := still_le hs h.1
  rw [h.2.1] at this
  exact this
theorem stk_cut {l : List Int} (hs : Still l) {q : Nat} (hq : q < l.length) : ∀ {s : List Nat}, Stk l s → l.getD q 0 ≤ tm s → (∀ j ∈ s, j < q) → ∃ a r, s = a ++ r ∧ l.getD q 0 = tm r
  | [], _, h, _ => ⟨[], [], rfl, by have := still_le hs hq; rw [tm_nil] at h ⊢; omega⟩
  | j :: r, hk, h, hj => by
    by_cases e : l.getD q 0 = tm (j :: r)
    · exact ⟨[], j :: r, rfl, e⟩
    · have h1 : l.getD q 0 ≤ j := by rw [tm_cons] at h e; omega
      have h2 := still_ge hs hq h1 (hj j (List.mem_cons_self ..))
      rw [hk.2.1] at h2
      obtain ⟨a, r2, e1, e2⟩ := stk_cut hs hq (s := r) hk.2.2 h2 fun y hy => hj y (List.mem_cons_of_mem _ hy)
      exact ⟨j :: a, r2, by rw [e1]; rfl, e2⟩
theorem stk_app {l : List Int} : ∀ {a r : List Nat}, Stk l (a ++ r) → Stk l r
  | [], _, h => h
  | _ :: a, _, h => stk_app (a := a) h.2.2
/-- the places of a stack are below -/
theorem stk_lt {l : List Int} (hs : Still l) : ∀ {s : List Nat} {j : Nat}, Stk l s → j ∈ s → (j : Int) < tm s
  | i :: r, j, h, hj => by
    rcases List.mem_cons.mp hj with e | hj
    · subst e; rw [tm_cons]; omega
    · have := stk_lt hs h.2.2 hj
      have := stk_tm hs h
      rw [tm_cons]
      omega
/-! the text: what is left with k persons behind, o open ones -/
def restT (d : List Int) (n : Nat) : Nat → Int → List Bool
  | 0, o => List.replicate o.toNat false
  | k + 1, o => List.replicate (o - d.getD (n - k - 1) 0).toNat false ++ [true] ++ restT d n k (d.getD (n - k - 1) 0 + 1)
def brL (l : List Int) : List Bool := restT (depthL l) l.length l.length 0
def opnD (d : List Int) : Nat → Int
  | 0 => 0
  | i + 1 => d.getD i 0 + 1
def pieceD (d : List Int) (i : Nat) : List Bool := List.replicate (opnD d i - d.getD i 0).toNat false ++ [true]
theorem pieces_rest (d : List Int) (n : Nat) : ∀ i, i ≤ n → ((List.range i).map (pieceD d)).flatten ++ restT d n (n - i) (opnD d i) = restT d n n 0
  | 0, _ => by rfl
  | i + 1, h => by
    rw [← pieces_rest d n i (by omega), List.range_succ, List.map_append, List.flatten_append, List.append_assoc]
    congr 1
    have e : n - i = (n - (i + 1)) + 1 := by omega
    rw [e]
    show _ = List.replicate (opnD d i - d.getD (n - (n - (i + 1)) - 1) 0).toNat false ++ [true] ++ restT d n (n - (i + 1)) (d.getD (n - (n - (i + 1)) - 1) 0 + 1)
    rw [show n - (n - (i + 1)) - 1 = i by omega]
    simp [pieceD, opnD]
theorem brL_pieces (l : List Int) : brL l = ((List.range l.length).map (pieceD (depthL l))).flatten ++ List.replicate (opnD (depthL l) l.length).toNat false := by
  have := pieces_rest (depthL l) l.length l.length (Nat.le_refl _)
  rw [Nat.sub_self] at this
  exact this.symm
/-! reading -/
def rdStep (b : Bool) (s : List Int × List Nat) : Option (List Int × List Nat) := match b, s.2 with
  | true, st => some (s.1 ++ [tm st], s.1.length :: st)
  | false, _ :: r => some (s.1, r)
  | false, [] => none
def rd : List Bool → List Int × List Nat → Option (List Int × List Nat)
  | [], s => some s
  | b :: bs, s => (rdStep b s).bind (rd bs)
theorem rd_app : ∀ (a b : List Bool) (s : List Int × List Nat), rd (a ++ b) s = (rd a s).bind (rd b)
  | [], _, _ => rfl
  | x :: a, b, s => by
    show (rdStep x s).bind (rd (a ++ b)) = ((rdStep x s).bind (rd a)).bind (rd b)
    cases rdStep x s with
    | none => rfl
    | some t => exact rd_app a b t
theorem rd_close : ∀ (a r : List Nat) (f : List Int), rd (List.replicate a.length false) (f, a ++ r) = some (f, r)
  | [], _, _ => rfl
  | _ :: a, r, f => by
    show (some (f, a ++ r)).bind (rd (List.replicate a.length false)) = _
    exact rd_close a r f
theorem rd_rest {l : List Int} (hs : Still l) : ∀ (k : Nat) (s : List Nat), k ≤ l.length → Stk l s → (∀ j ∈ s, j < l.length - k) → (l.length - k ≠ 0 → tm s = ((l.length - k : Nat) : Int)) → (l.length - k = 0 → s = []) →
    rd (restT (depthL l) l.length k s.length) (l.take (l.length - k), s) = some (l, [])
  | 0, s, _, hk, _, _, _ => by
    have := rd_close s [] l
    rw [List.append_nil] at this
    show rd (List.replicate ((s.length : Int)).toNat false) _ = _
    rw [Int.toNat_natCast, Nat.sub_zero, List.take_length]
    exact this
  | k + 1, s, h, hk, hj, ht, h0 => by
    have hq : l.length - (k + 1) < l.length := by omega
    obtain ⟨a, r, rfl, e⟩ := stk_cut hs hq hk (by
      have := still_le hs hq
      by_cases z : l.length - (k + 1) = 0
      · rw [h0 z, tm_nil]
        omega
      · rw [ht z]; omega) hj
    have hi : l.length - k - 1 = l.length - (k + 1) := by omega
    have hst : Stk l ((l.length - (k + 1)) :: r) := ⟨hq, e, stk_app hk⟩
    have hd := stk_depth hs hst
    show rd (List.replicate (((a ++ r).length : Int) - (depthL l).getD (l.length - k - 1) 0).toNat false ++ [true] ++ restT (depthL l) l.length k ((depthL l).getD (l.length - k - 1) 0 + 1)) _ = _
    rw [hi, hd, List.length_append, show (((a.length + r.length : Nat) : Int) - (r.length : Int)).toNat = a.length by omega, List.append_assoc, rd_app, rd_close]
    show (rdStep true (l.take (l.length - (k + 1)), r)).bind _ = _
    have e2 : (l.take (l.length - (k + 1))).length = l.length - (k + 1) := by rw [List.length_take]; omega
    have e3 : l.take (l.length - (k + 1)) ++ [tm r] = l.take (l.length - k) := by
      rw [show l.length - k = l.length - (k + 1) + 1 by omega, List.take_succ, List.getElem?_eq_getElem hq, ← e, List.getD_eq_getElem?_getD, List.getElem?_eq_getElem hq]
      rfl
    show rd (restT (depthL l) l.length k ((r.length : Int) + 1)) (l.take (l.length - (k + 1)) ++ [tm r], (l.take (l.length - (k + 1))).length :: r) = _
    rw [e2, e3]
    have := rd_rest hs k ((l.length - (k + 1)) :: r) (by omega) hst (fun j hj' => by
      rcases List.mem_cons.mp hj' with e | hj'
      · omega
      · have := hj j (List.mem_append_right _ hj'); omega) (fun _ => by rw [tm_cons]; omega) (fun z => by omega)
    rw [List.length_cons] at this
    exact this
theorem rd_brL {l : List Int} (hs : Still l) : rd (brL l) ([], []) = some (l, []) := by
  have := rd_rest hs l.length [] (Nat.le_refl _) trivial (fun _ h => nomatch h) (fun h => absurd (Nat.sub_self _) h) (fun _ => rfl)
  rw [Nat.sub_self] at this
  exact this
theorem brL_inj {l m : List Int} (h1 : Still l) (h2 : Still m) (h : brL l = brL m) : l = m := by
  have a := rd_brL h1
  rw [h, rd_brL h2] at a
  exact (Prod.mk.inj (Option.some.inj a)).1.symm
/-! from the last person on -/
def insA (l : List Int) : Nat → List (List Bool)
  | 0 => List.replicate (l.length + 1) []
  | k + 1 => (insA l k).set (l.getD (l.length - 1 - k) 0).toNat ([true] ++ (insA l k).getD (l.length - 1 - k + 1) [] ++ [false] ++ (insA l k).getD (l.getD (l.length - 1 - k) 0).toNat [])
theorem insA_length (l : List Int) : ∀ k, (insA l k).length = l.length + 1
  | 0 => by unfold insA; simp
  | k + 1 => by unfold insA; rw [List.length_set]; exact insA_length l k
def ins (l : List Int) (k : Nat) (m : Int) : List Bool := (insA l k).getD m.toNat []
theorem ins_succ {l : List Int} (hs : Still l) {k : Nat} (hk : k < l.length) {m : Int} (h0 : 0 ≤ m) (h1 : m ≤ l.length) :
    ins l (k + 1) m = if m = l.getD (l.length - 1 - k) 0 then [true] ++ ins l k ((l.length - 1 - k : Nat) + 1) ++ [false] ++ ins l k m else ins l k m := by
  have hq : l.length - 1 - k < l.length := by omega
  have hr := still_le hs hq
  unfold ins
  show ((insA l k).set _ _).getD m.toNat [] = _
  by_cases e : m = l.getD (l.length - 1 - k) 0
  · rw [if_pos e, ← e, List.getD_eq_getElem?_getD, List.getElem?_set_self (by rw [insA_length]; omega)]
    rw [show (((l.length - 1 - k : Nat) : Int) + 1).toNat = l.length - 1 - k + 1 by omega]
    rfl
  · rw [if_neg e, List.getD_eq_getElem?_getD, List.getElem?_set_ne (by omega), ← List.getD_eq_getElem?_getD]
theorem ins_nil {l : List Int} (hs : Still l) {m : Int} (h0 : 0 ≤ m) (h1 : m ≤ l.length) : ∀ k, k ≤ l.length → (∀ q : Nat, l.length - k ≤ q → q < l.length → l.getD q 0 ≠ m) → ins l k m = []
  | 0, _, _ => by
    unfold ins insA
    rw [List.getD_eq_getElem?_getD, List.getElem?_replicate, if_pos (by omega)]
    rfl
  | k + 1, h, hq => by
    rw [ins_succ hs (by omega) h0 h1, if_neg (fun e => hq (l.length - 1 - k) (by omega) (by omega) e.symm)]
    exact ins_nil hs h0 h1 k (by omega) fun q a b => hq q (by omega) b
def zT (l : List Int) (k : Nat) : List Nat → List Bool
  | [] => ins l k 0
  | p :: r => ins l k ((p : Int) + 1) ++ [false] ++ zT l k r
theorem zT_pop {l : List Int} {k : Nat} : ∀ (a r : List Nat), (∀ b c, a = b ++ c → c ≠ [] → ins l k (tm (c ++ r)) = []) → zT l k (a ++ r) = List.replicate a.length false ++ zT l k r
  | [], _, _ => rfl
  | p :: a, r, h => by
    have e : ins l k ((p : Int) + 1) = [] := h [] (p :: a) rfl (by simp)
    show ins l k ((p : Int) + 1) ++ [false] ++ zT l k (a ++ r) = _
    rw [e, zT_pop a r fun b c e1 hc => h (p :: b) c (by rw [e1]; rfl) hc]
    rfl
theorem zT_below {l : List Int} (hs : Still l) {k : Nat} (hk : k < l.length) : ∀ (r : List Nat), Stk l r → tm r ≤ l.getD (l.length - 1 - k) 0 → (∀ j ∈ r, j < l.length) → (match r with | [] => True | p :: t => zT l (k + 1) t = zT l k t)
  | [], _, _, _ => trivial
  | p :: t, h, ht, hj => by
    have key : ∀ t : List Nat, Stk l t → tm t < l.getD (l.length - 1 - k) 0 → (∀ j ∈ t, j < l.length) → zT l (k + 1) t = zT l k t := by
      intro t
      induction t with
      | nil =>
        intro _ h2 _
        show ins l (k + 1) 0 = ins l k 0
        rw [ins_succ hs hk (Int.le_refl _) (by omega), if_neg (by rw [tm_nil] at h2; omega)]
      | cons p t ih =>
        intro h1 h2 h3
        show ins l (k + 1) ((p : Int) + 1) ++ [false] ++ zT l (k + 1) t = ins l k ((p : Int) + 1) ++ [false] ++ zT l k t
        have hp := h3 p (List.mem_cons_self ..)
        have h2 : (p : Int) + 1 < l.getD (l.length - 1 - k) 0 := h2
        have := stk_tm hs h1
        rw [ins_succ hs hk (by omega) (by omega), if_neg (by omega), ih h1.2.2 (by omega) fun j hj => h3 j (List.mem_cons_of_mem _ hj)]
    have := stk_tm hs h
    have ht : (p : Int) + 1 ≤ l.getD (l.length - 1 - k) 0 := ht
    exact key t h.2.2 (by omega) fun j hj' => hj j (List.mem_cons_of_mem _ hj')
theorem rest_zT {l : List Int} (hs : Still l) : ∀ (k : Nat) (s : List Nat), k ≤ l.length → Stk l s → (∀ j ∈ s, j < l.length - k) → (l.length - k ≠ 0 → tm s = ((l.length - k : Nat) : Int)) → (l.length - k = 0 → s = []) →
    restT (depthL l) l.length k s.length = zT l k s
  | 0, s, _, hk, hj, _, _ => by
    have e : ∀ m : Int, 0 ≤ m → m ≤ l.length → ins l 0 m = [] := fun m a b => ins_nil hs a b 0 (Nat.zero_le _) fun q x y => by omega
    show List.replicate ((s.length : Int)).toNat false = _
    rw [Int.toNat_natCast]
    have := zT_pop (l := l) (k := 0) s [] (fun b c hbc hc => by
      rw [List.append_nil]
      cases c with
      | nil => exact absurd rfl hc
      | cons p c =>
        have := hj p (by rw [hbc]; simp)
        exact e _ (by show 0 ≤ (p : Int) + 1; omega) (by show (p : Int) + 1 ≤ _; omega))
    rw [List.append_nil] at this
    rw [this]
    show _ = List.replicate s.length false ++ ins l 0 0
    rw [e 0 (Int.le_refl _) (by omega), List.append_nil]
  | k + 1, s, h, hk, hj, ht, h0 => by
    have hq : l.length - (k + 1) < l.length := by omega
    obtain ⟨a, r, rfl, e⟩ := stk_cut hs hq hk (by
      have := still_le hs hq
      by_cases z : l.length - (k + 1) = 0
      · rw [h0 z, tm_nil]
        omega
      · rw [ht z]; omega) hj
    have hi : l.length - k - 1 = l.length - (k + 1) := by omega
    have hi2 : l.length - 1 - k = l.length - (k + 1) := by omega
    have hsr := stk_app hk
    have hst : Stk l ((l.length - (k + 1)) :: r) := ⟨hq, e, hsr⟩
    have hd := stk_depth hs hst
    have htr := stk_tm hs hst
    rw [zT_pop a r (fun b c hbc hc => by
      cases c with
      | nil => exact absurd rfl hc
      | cons p c =>
        have hp := hj p (by rw [hbc]; simp)
        have hsp : Stk l (p :: (c ++ r)) := by rw [hbc, List.append_assoc] at hk; exact stk_app hk
        have hpr : tm r ≤ p := by
          have h1 := stk_tm hs hsp
          cases r with
          | nil => show (0 : Int) ≤ p; omega
          | cons x r =>
            have := stk_lt hs hsp.2.2 (show x ∈ c ++ x :: r by simp)
            show (x : Int) + 1 ≤ p
            omega
        show ins l (k + 1) ((p : Int) + 1) = []
        refine ins_nil hs (by omega) (by omega) (k + 1) h fun q hq1 hq2 eq => ?_
        rcases Nat.lt_or_ge (l.length - (k + 1)) q with z | z
        · have := still_ge hs hq2 (j := l.length - (k + 1)) (by omega) z
          omega
        · have : q = l.length - (k + 1) := by omega
          subst this
          omega)]
    show List.replicate (((a ++ r).length : Int) - (depthL l).getD (l.length - k - 1) 0).toNat false ++ [true] ++ restT (depthL l) l.length k ((depthL l).getD (l.length - k - 1) 0 + 1) = _
    rw [hi, hd, List.length_append, show (((a.length + r.length : Nat) : Int) - (r.length : Int)).toNat = a.length by omega, List.append_assoc]
    congr 1
    have ih := rest_zT hs k ((l.length - (k + 1)) :: r) (by omega) hst (fun j hj' => by
      rcases List.mem_cons.mp hj' with e | hj'
      · omega
      · have := hj j (List.mem_append_right _ hj'); omega) (fun _ => by rw [tm_cons]; omega) (fun z => by omega)
    rw [List.length_cons] at ih
    have ih : restT (depthL l) l.length k ((r.length : Int) + 1) = ins l k (((l.length - (k + 1) : Nat) : Int) + 1) ++ [false] ++ zT l k r := ih
    rw [ih]
    have hb := zT_below hs (k := k) (by omega) r hsr (by rw [hi2, e]; exact Int.le_refl _) (fun j hj' => by have := hj j (List.mem_append_right _ hj'); omega)
    have hin := ins_succ hs (k := k) (by omega) (m := tm r) htr.1 (by omega)
    rw [hi2, e, if_pos rfl] at hin
    cases r with
    | nil =>
      show _ = ins l (k + 1) 0
      have hin : ins l (k + 1) 0 = _ := hin
      rw [hin]
      simp [zT, tm]
    | cons p t =>
      show _ = ins l (k + 1) ((p : Int) + 1) ++ [false] ++ zT l (k + 1) t
      have hb : zT l (k + 1) t = zT l k t := hb
      have hin : ins l (k + 1) ((p : Int) + 1) = _ := hin
      rw [hb, hin]
      simp [zT, tm]
theorem brL_ins {l : List Int} (hs : Still l) : brL l = ins l l.length 0 := by
  have := rest_zT hs l.length [] (Nat.le_refl _) trivial (fun _ h => nomatch h) (fun h => absurd (Nat.sub_self _) h) (fun _ => rfl)
  exact this
/-! repr of such a text -/
theorem sg_ok (q : Nat) (hq : q = 34 ∨ q = 39) (b : Bool) : ∀ c ∈ Builtin.Str.reprChar q (sg b), c < 0x110000 := by
  have h : ∀ q ∈ [34, 39], ∀ b ∈ [true, false], ∀ c ∈ Builtin.Str.reprChar q (sg b), c < 0x110000 := by decide +kernel
  exact h q (by simpa using hq) b (by cases b <;> simp)
theorem fold_ok (q : Nat) (hq : q = 34 ∨ q = 39) : ∀ (l : List Bool) (acc : Array Nat), (∀ c ∈ acc, c < 0x110000) → ∀ c ∈ (l.map sg).foldl (fun out c => out ++ (Builtin.Str.reprChar q c).toArray) acc, c < 0x110000
  | [], _, h => h
  | b :: r, acc, h => fold_ok q hq r _ fun c hc => by
    rcases Array.mem_append.mp hc with z | z
    · exact h c z
    · exact sg_ok q hq b c (by simpa using z)
theorem quote_or (x : Str) : reprQuote x = 34 ∨ reprQuote x = 39 := by
  unfold reprQuote
  split
  · exact .inl rfl
  · exact .inr rfl
theorem sm_tx {l : List Bool} (h : l.length ≤ 180) : Sm 1 1 (.str (tx l)) := by
  refine .str _ (by simp [PyData.showable]) ?_ ?_
  · simp only [PyData.shown]
    have := StrLaws.reprText_len (tx l) (fun c hc => by
      have hc : c ∈ (l.map sg).toArray.toList := hc
      rw [List.toList_toArray] at hc
      obtain ⟨b, _, rfl⟩ := List.mem_map.mp hc
      cases b <;> decide)
    rw [tx_len] at this
    omega
  · simp only [PyData.shown]
    have hq := quote_or (tx l)
    unfold PyData.strOk reprText
    rw [Array.all_eq_true']
    intro c hc
    have hc : c ∈ (((l.map sg).toArray.foldl (fun out c => out ++ (Builtin.Str.reprChar (reprQuote (tx l)) c).toArray) #[reprQuote (tx l)]).push (reprQuote (tx l))) := hc
    rw [← Array.foldl_toList, List.toList_toArray] at hc
    rcases Array.mem_push.mp hc with z | z
    · exact decide_eq_true (fold_ok _ hq l _ (fun c hc => by
        have : c = reprQuote (tx l) := by simpa using hc
        rw [this]
        rcases hq with h | h <;> rw [h] <;> decide) c z)
    · rw [z]
      rcases hq with h | h <;> rw [h] <;> decide
/-! join -/
theorem join_tx (ls : List (List Bool)) : Txt.join (tx []) (ls.map tx) = tx ls.flatten := by
  have key : ∀ (ls : List (List Bool)) (acc : List Bool), (ls.map tx).foldl (fun (a : Array Nat) (p : Str) => a ++ (tx []).cps ++ p.cps) (tx acc).cps = (tx (acc ++ ls.flatten)).cps := by
    intro ls
    induction ls with
    | nil => intro acc; simp
    | cons l ls ih =>
      intro acc
      rw [List.map_cons, List.foldl_cons, List.flatten_cons, ← List.append_assoc, ← ih (acc ++ l)]
      congr 1
      simp [tx]
  cases ls with
  | nil => rfl
  | cons l ls =>
    have h := key ls l
    show (⟨(ls.map tx).foldl (fun (a : Array Nat) (p : Str) => a ++ (tx []).cps ++ p.cps) (tx l).cps⟩ : Str) = _
    rw [h, List.flatten_cons]
end
end BL
/-! B, the plain side: what the mirrors' functions answer of texts of brackets; dicts with text keys. -/
namespace BL
noncomputable section
open PySem PySem.Spec PyProof.Rows L2
theorem mul_tx {b : Bool} {k : Int} (h1 : k ≤ 100000) (h2 : -100000 ≤ k) : mulF (.str (tx [b])) (.int k) = some (.val (.str (tx (List.replicate k.toNat b)))) := by
  show @ite _ (k ≤ 100000 ∧ -100000 ≤ k ∧ (tx [b]).length ≤ 100) (Classical.propDecidable _) (some (RV.val (.str (repS (tx [b]) k)))) none = _
  rw [if_pos ⟨h1, h2, by rw [tx_len, List.length_singleton]; decide⟩, tx_rep]
theorem add_tx {a b : List Bool} (h : a.length + b.length ≤ 16777216) : addF (.str (tx a)) (.str (tx b)) = some (.val (.str (tx (a ++ b)))) := by
  rw [add_ss (by rw [tx_len, tx_len]; exact h), tx_app]
theorem sum_tx : ∀ ls : List (List Bool), ((ls.map tx).map (·.length)).sum = ls.flatten.length
  | [] => rfl
  | l :: ls => by
    rw [List.map_cons, List.map_cons, List.sum_cons, sum_tx ls, List.flatten_cons, List.length_append, tx_len]
theorem join_txL {ls : List (List Bool)} (h : ls.flatten.length ≤ 16777216) : joinF (.str (tx [])) [Lx PV.str (ls.map tx)] = some (.val (.str (tx ls.flatten))) := by
  show (toStrs ((ls.map tx).map PV.str)).bind _ = _
  rw [toStrs_map]
  show @ite _ _ (Classical.propDecidable _) _ _ = _
  rw [if_pos (by rw [sum_tx, tx_len]; simpa using h), join_tx]
theorem eq_tx {a b : List Bool} : eqF (.str (tx a)) (.str (tx b)) = some (decide (a = b)) := by
  have ok : ∀ l : List Bool, PyData.strOk (tx l) = true := by
    intro l
    unfold PyData.strOk
    rw [Array.all_eq_true']
    intro c hc
    have hc : c ∈ (l.map sg).toArray := hc
    rw [List.mem_toArray] at hc
    obtain ⟨b, _, rfl⟩ := List.mem_map.mp hc
    cases b <;> decide
  unfold eqF
  rw [datP_str (ok a), datP_str (ok b)]
  show some (PyData.eqv (.str (tx a)) (.str (tx b))) = _
  have e : PyData.eqv (.str (tx a)) (.str (tx b)) = (tx a == tx b) := by simp [PyData.eqv]
  rw [e]
  by_cases h : a = b
  · subst h
    simp
  · rw [decide_eq_false h]
    have : tx a ≠ tx b := fun z => h (tx_inj z)
    simp [this]
theorem signs_tx (l : List Bool) : (tx l).cps.toList.map signP = l.map fun b => PV.str (tx [b]) := by
  show ((l.map sg).toArray.toList).map signP = _
  rw [List.toList_toArray, List.map_map]
  rfl
theorem ix_Lm2 {α : Type} {f : α → PV} {xs : List α} [Inhabited α] (h : 1 < xs.length) : ixF (Lx f xs) (.int (-2)) = some (.val (f (gx xs (xs.length - 2)))) := by
  show (atI (xs.map f) (-2)).map RV.val = _
  rw [atI_map]
  have e : atI xs (-2) = some (gx xs (xs.length - 2)) := by
    unfold atI ixN
    rw [if_neg (by decide), if_pos (by omega)]
    show xs[((-2 : Int) + xs.length).toNat]? = _
    rw [show ((-2 : Int) + xs.length).toNat = ((xs.length : Int) - 2).toNat by omega]
    exact gx_some (by omega) (by omega)
  rw [e]
  rfl
/-! lengths -/
theorem rest_len {l : List Int} (hs : Still l) : ∀ (k : Nat) (s : List Nat), k ≤ l.length → Stk l s → (∀ j ∈ s, j < l.length - k) → (l.length - k ≠ 0 → tm s = ((l.length - k : Nat) : Int)) → (l.length - k = 0 → s = []) →
    (restT (depthL l) l.length k s.length).length = s.length + 2 * k
  | 0, s, _, hk, hj, _, _ => by
    show (List.replicate ((s.length : Int)).toNat false).length = _
    rw [List.length_replicate]
    omega
  | k + 1, s, h, hk, hj, ht, h0 => by
    have hq : l.length - (k + 1) < l.length := by omega
    obtain ⟨a, r, rfl, e⟩ := stk_cut hs hq hk (by
      have := still_le hs hq
      by_cases z : l.length - (k + 1) = 0
      · rw [h0 z, tm_nil]
        omega
      · rw [ht z]; omega) hj
    have hi : l.length - k - 1 = l.length - (k + 1) := by omega
    have hst : Stk l ((l.length - (k + 1)) :: r) := ⟨hq, e, stk_app hk⟩
    have hd := stk_depth hs hst
    have ih := rest_len hs k ((l.length - (k + 1)) :: r) (by omega) hst (fun j hj' => by
      rcases List.mem_cons.mp hj' with e | hj'
      · omega
      · have := hj j (List.mem_append_right _ hj'); omega) (fun _ => by rw [tm_cons]; omega) (fun z => by omega)
    rw [List.length_cons] at ih
    have ih : (restT (depthL l) l.length k ((r.length : Int) + 1)).length = _ := ih
    show (List.replicate (((a ++ r).length : Int) - (depthL l).getD (l.length - k - 1) 0).toNat false ++ [true] ++ restT (depthL l) l.length k ((depthL l).getD (l.length - k - 1) 0 + 1)).length = _
    rw [hi, hd, List.length_append, List.length_append, List.length_replicate, ih, List.length_append, List.length_singleton]
    omega
theorem brL_len {l : List Int} (hs : Still l) : (brL l).length = 2 * l.length := by
  have := rest_len hs l.length [] (Nat.le_refl _) trivial (fun _ h => nomatch h) (fun h => absurd (Nat.sub_self _) h) (fun _ => rfl)
  rw [List.length_nil, Nat.zero_add] at this
  exact this
theorem stk_ex {l : List Int} (hs : Still l) : ∀ i : Nat, i < l.length → ∃ r, Stk l (i :: r) ∧ ∀ j ∈ r, j < i := by
  intro i
  induction i using Nat.strongRecOn with
  | ind i ih =>
    intro hi
    have hr := still_le hs hi
    by_cases h : l.getD i 0 = 0
    · exact ⟨[], ⟨hi, h, trivial⟩, fun _ h => nomatch h⟩
    · obtain ⟨r, h1, h2⟩ := ih (l.getD i 0 - 1).toNat (by omega) (by omega)
      refine ⟨(l.getD i 0 - 1).toNat :: r, ⟨hi, by rw [tm_cons]; omega, h1⟩, fun j hj => ?_⟩
      rcases List.mem_cons.mp hj with e | hj
      · omega
      · have := h2 j hj; omega
/-- the parts that are put together for the person i -/
theorem ins_len {l : List Int} (hs : Still l) {k : Nat} (hk : k < l.length) : (ins l k ((l.length - 1 - k : Nat) + 1)).length + (ins l k (l.getD (l.length - 1 - k) 0)).length ≤ l.length + 2 * k := by
  obtain ⟨r, h1, h2⟩ := stk_ex hs (l.length - 1 - k) (by omega)
  have c1 : ∀ j ∈ (l.length - 1 - k) :: r, j < l.length - k := fun j hj => by
    rcases List.mem_cons.mp hj with e | hj
    · omega
    · have := h2 j hj; omega
  have a := rest_zT hs k _ (by omega) h1 c1 (fun _ => by rw [tm_cons]; omega) (fun z => by omega)
  have b := rest_len hs k _ (by omega) h1 c1 (fun _ => by rw [tm_cons]; omega) (fun z => by omega)
  rw [a] at b
  have hd := stk_depth hs h1
  have hdn := depthL_nn l (fun i hi => (still_le hs hi).2) (l.length - 1 - k) (by omega)
  rw [h1.2.1]
  have e : (zT l k ((l.length - 1 - k) :: r)).length = (ins l k ((l.length - 1 - k : Nat) + 1)).length + 1 + (zT l k r).length := by
    show (ins l k ((l.length - 1 - k : Nat) + 1) ++ [false] ++ zT l k r).length = _
    rw [List.length_append, List.length_append, List.length_singleton]
  have e2 : (ins l k (tm r)).length ≤ (zT l k r).length := by
    cases r with
    | nil => exact Nat.le_refl _
    | cons p t =>
      show _ ≤ (ins l k ((p : Int) + 1) ++ [false] ++ zT l k t).length
      rw [tm_cons, List.length_append, List.length_append]
      omega
  rw [List.length_cons] at b
  omega
theorem flat_len {c : Nat} : ∀ {ls : List (List Bool)}, (∀ x ∈ ls, x.length ≤ c) → ls.flatten.length ≤ ls.length * c
  | [], _ => by simp
  | l :: ls, h => by
    have := flat_len (ls := ls) fun x hx => h x (List.mem_cons_of_mem _ hx)
    have := h l (List.mem_cons_self ..)
    rw [List.flatten_cons, List.length_append, List.length_cons, Nat.add_mul]
    omega
/-! dicts with text keys -/
theorem dfind_new {t : Str} : ∀ {ts : List Str} {xs : List PV}, ts.length = xs.length → t ∉ ts → dfind (.inr t) (ts.map PV.str) xs = some none
  | [], [], _, _ => rfl
  | [], _ :: _, h, _ => nomatch h
  | _ :: _, [], h, _ => nomatch h
  | s :: ts, x :: xs, h, hn => by
    show ((keyP (PV.str s)).bind fun k' => @ite _ (k' = Sum.inr t) (Classical.propDecidable _) (some (some x)) (dfind (.inr t) (ts.map PV.str) xs)) = _
    rw [dfind_new (Nat.succ.inj h) fun z => hn (List.mem_cons_of_mem _ z)]
    show @ite _ ((Sum.inr s : Key) = Sum.inr t) (Classical.propDecidable _) (some (some x)) (some none) = _
    rw [if_neg fun e => hn (by rw [Sum.inr.inj e]; exact List.mem_cons_self ..)]
theorem set_new {t : Str} {y : PV} {ts : List Str} {xs : List PV} (hl : ts.length = xs.length) (hn : t ∉ ts) (hz : ts.length < 1000000) : setDF (.dic (ts.map PV.str) xs) (.str t) y = some (.dic ((ts ++ [t]).map PV.str) (xs ++ [y])) := by
  show (dfind (.inr t) (ts.map PV.str) xs).bind (fun r => @ite _ ((ts.map PV.str).length < lim) (Classical.propDecidable _) (match r with
    | some _ => some (PV.dic (ts.map PV.str) (drep (.inr t) y (ts.map PV.str) xs))
    | none => some (PV.dic (ts.map PV.str ++ [.str t]) (xs ++ [y]))) none) = _
  rw [dfind_new hl hn, Option.bind_some, if_pos (by rw [List.length_map]; exact Nat.lt_trans hz (by unfold lim; decide)), List.map_append]
  rfl
theorem len_dic {ks xs : List PV} : lenF [.dic ks xs] = some (.val (.int ks.length)) := id rfl
/-! all rows -/
def rowsL : Nat → List (List Int)
  | 0 => [[]]
  | k + 1 => (rowsL k).flatMap fun r => (rgI 0 (k + 1)).map fun m => r ++ [m]
def stillB (r : List Int) : Bool := decide (finalL r = r)
def accR : Nat → List (List Int)
  | 0 => []
  | k + 1 => accR k ++ (rowsL (k + 1)).filter stillB
theorem accR_5 : (accR 5).length = 64 ∧ (accR 5).Nodup := by decide +kernel
theorem accR_nodup : ∀ n, n ≤ 5 → (accR n).Nodup := by
  intro n hn
  have h := accR_5.2
  have key : ∀ m, (accR (n + m)).Nodup → (accR n).Nodup := by
    intro m
    induction m with
    | zero => exact id
    | succ m ih =>
      intro h
      refine ih ?_
      have h : (accR (n + m) ++ (rowsL (n + m + 1)).filter stillB).Nodup := h
      exact (List.nodup_append.mp h).1
  exact key (5 - n) (by rw [show n + (5 - n) = 5 by omega]; exact h)
theorem rowsL_len : ∀ n, n ≤ 5 → (rowsL n).length ≤ 120 := by decide +kernel
theorem rowsL_row : ∀ n, n ≤ 5 → ∀ r ∈ rowsL n, r.length = n := by
  intro n _
  induction n with
  | zero => intro r hr; rw [List.mem_singleton.mp hr]; rfl
  | succ n ih =>
    intro r hr
    obtain ⟨q, hq, hr⟩ := List.mem_flatMap.mp hr
    obtain ⟨m, _, rfl⟩ := List.mem_map.mp hr
    rw [List.length_append, ih (by omega) q hq]
    rfl
end
end BL
/-! B, the plain side: dicts with int keys. -/
namespace BL
noncomputable section
open PySem PySem.Spec PyProof.Rows L2
section
variable {α : Type} {f : α → PV}
def Dm (f : α → PV) (kvs : List (Int × α)) : PV := .dic (kvs.map fun z => .int z.1) (kvs.map fun z => f z.2)
def lk (k : Int) : List (Int × α) → Option α
  | [] => none
  | z :: r => @ite _ (z.1 = k) (Classical.propDecidable _) (some z.2) (lk k r)
def dset (k : Int) (v : α) : List (Int × α) → List (Int × α)
  | [] => [(k, v)]
  | z :: r => @ite _ (z.1 = k) (Classical.propDecidable _) ((z.1, v) :: (r.map fun y => @ite _ (y.1 = k) (Classical.propDecidable _) (y.1, v) y)) (z :: dset k v r)
theorem lk_cons {k : Int} {z : Int × α} {r : List (Int × α)} : lk k (z :: r) = @ite _ (z.1 = k) (Classical.propDecidable _) (some z.2) (lk k r) := rfl
theorem dm_nil : PV.dic [] [] = Dm f [] := rfl
theorem lk_map (k j : Int) (v : α) : ∀ r : List (Int × α), lk j (r.map fun y => @ite _ (y.1 = k) (Classical.propDecidable _) (y.1, v) y) = if j = k then (lk j r).map fun _ => v else lk j r
  | [] => by split <;> rfl
  | z :: r => by
    rw [List.map_cons]
    unfold lk
    rw [lk_map k j v r]
    by_cases e : z.1 = k
    · rw [if_pos e]
      by_cases e2 : j = k
      · rw [if_pos e2, if_pos e2, if_pos (by rw [e, e2]), if_pos (by rw [e, e2])]
        rfl
      · rw [if_neg e2, if_neg e2, if_neg (by rw [e]; exact fun z => e2 z.symm), if_neg (by rw [e]; exact fun z => e2 z.symm)]
    · rw [if_neg e]
      by_cases e2 : j = k
      · rw [if_pos e2, if_pos e2, if_neg (by rw [e2]; exact e), if_neg (by rw [e2]; exact e)]
      · rw [if_neg e2, if_neg e2]
theorem lk_set (k j : Int) (v : α) : ∀ r : List (Int × α), lk j (dset k v r) = if j = k then some v else lk j r
  | [] => by
    unfold dset lk lk
    by_cases e : j = k
    · rw [if_pos e, if_pos e.symm]
    · rw [if_neg e, if_neg (fun z => e z.symm)]
  | z :: r => by
    unfold dset
    by_cases e : z.1 = k
    · rw [if_pos e]
      show lk j ((z.1, v) :: _) = _
      unfold lk
      rw [lk_map]
      by_cases e2 : j = k
      · rw [if_pos e2, if_pos (show z.1 = j by rw [e, e2])]
        rw [if_pos e2]
      · rw [if_neg e2, if_neg e2, if_neg (show ¬ z.1 = j by rw [e]; exact fun z => e2 z.symm), if_neg (show ¬ z.1 = j by rw [e]; exact fun z => e2 z.symm)]
    · rw [if_neg e]
      unfold lk
      rw [lk_set k j v r]
      by_cases e2 : j = k
      · rw [if_pos e2, if_pos e2, if_neg (by rw [e2]; exact e)]
      · rw [if_neg e2, if_neg e2]
theorem dset_length (k : Int) (v : α) : ∀ r : List (Int × α), (dset k v r).length ≤ r.length + 1
  | [] => Nat.le_refl _
  | z :: r => by
    unfold dset
    split
    · rw [List.length_cons, List.length_map, List.length_cons]; omega
    · have := dset_length k v r
      rw [List.length_cons, List.length_cons]; omega
theorem dfind_D {k : Int} : ∀ {kvs : List (Int × α)}, dfind (.inl k) (kvs.map fun z => PV.int z.1) (kvs.map fun z => f z.2) = some ((lk k kvs).map f)
  | [] => rfl
  | z :: r => by
    show ((keyP (PV.int z.1)).bind fun k' => @ite _ (k' = Sum.inl k) (Classical.propDecidable _) (some (some (f z.2))) (dfind (.inl k) (r.map fun z => PV.int z.1) (r.map fun z => f z.2))) = _
    rw [dfind_D]
    show @ite _ ((Sum.inl z.1 : Key) = Sum.inl k) (Classical.propDecidable _) (some (some (f z.2))) (some ((lk k r).map f)) = _
    rw [lk_cons]
    by_cases e : z.1 = k
    · rw [if_pos (by rw [e]), if_pos e]
      rfl
    · rw [if_neg (fun h => e (Sum.inl.inj h)), if_neg e]
theorem ty_D {kvs : List (Int × α)} : tyP (Dm f kvs) = some "dict" := rfl
theorem get_D {kvs : List (Int × α)} {k : Int} : getDF (Dm f kvs) [.int k] = some (.val (((lk k kvs).map f).getD .non)) := by
  show (dfind (.inl k) _ _).map _ = _
  rw [dfind_D]
  rfl
theorem get_Di {kvs : List (Int × Int)} {k d : Int} : getDF (Dm PV.int kvs) [.int k, .int d] = some (.val (.int ((lk k kvs).getD d))) := by
  show @ite _ (atP (.int d) = true) (Classical.propDecidable _) ((dfind (.inl k) _ _).map fun r => RV.val (r.getD (.int d))) none = _
  refine (if_pos rfl).trans ?_
  rw [dfind_D]
  cases lk k kvs <;> rfl
theorem in_D {kvs : List (Int × α)} {k : Int} : inDF (.int k) (Dm f kvs) = some (lk k kvs).isSome := by
  show (dfind (.inl k) _ _).map _ = _
  rw [dfind_D]
  cases lk k kvs <;> rfl
theorem ix_D {kvs : List (Int × α)} {k : Int} {v : α} (h : lk k kvs = some v) : ixDF (Dm f kvs) (.int k) = some (.val (f v)) := by
  show (dfind (.inl k) _ _).bind _ = _
  rw [dfind_D, h]
  rfl
theorem drep_D {k : Int} {v : α} : ∀ {kvs : List (Int × α)}, drep (.inl k) (f v) (kvs.map fun z => PV.int z.1) (kvs.map fun z => f z.2) = (kvs.map fun y => @ite (Int × α) (y.1 = k) (Classical.propDecidable _) (y.1, v) y).map fun z => f z.2
  | [] => rfl
  | z :: r => by
    show (@ite _ (keyP (PV.int z.1) = some (Sum.inl k)) (Classical.propDecidable _) (f v) (f z.2)) :: drep (.inl k) (f v) (r.map fun z => PV.int z.1) (r.map fun z => f z.2) = _
    rw [drep_D, List.map_cons, List.map_cons]
    congr 1
    by_cases e : z.1 = k
    · rw [if_pos e, if_pos (by rw [← e]; rfl)]
    · have e2 : ¬ keyP (PV.int z.1) = some (Sum.inl k) := fun h => e (Sum.inl.inj (Option.some.inj h))
      rw [if_neg e, if_neg e2]
theorem set_D {kvs : List (Int × α)} {k : Int} {v : α} (hl : kvs.length < 1000000) : ∃ kvs' : List (Int × α), setDF (Dm f kvs) (.int k) (f v) = some (Dm f kvs') ∧ kvs'.length ≤ kvs.length + 1 ∧ ∀ j, lk j kvs' = if j = k then some v else lk j kvs := by
  have e : setDF (Dm f kvs) (.int k) (f v) = (dfind (.inl k) (kvs.map fun z => PV.int z.1) (kvs.map fun z => f z.2)).bind fun r => @ite _ ((kvs.map fun z => PV.int z.1).length < lim) (Classical.propDecidable _) (match r with
    | some _ => some (.dic (kvs.map fun z => PV.int z.1) (drep (.inl k) (f v) (kvs.map fun z => PV.int z.1) (kvs.map fun z => f z.2)))
    | none => some (.dic ((kvs.map fun z => PV.int z.1) ++ [.int k]) ((kvs.map fun z => f z.2) ++ [f v]))) none := rfl
  rw [e, dfind_D, Option.bind_some, if_pos (by rw [List.length_map]; exact Nat.lt_trans hl (by unfold lim; decide))]
  cases h : lk k kvs with
  | none =>
    refine ⟨kvs ++ [(k, v)], by rw [Option.map_none]; unfold Dm; rw [List.map_append, List.map_append]; rfl, by rw [List.length_append]; exact Nat.le_refl _, fun j => ?_⟩
    have gen : ∀ r : List (Int × α), lk k r = none → lk j (r ++ [(k, v)]) = if j = k then some v else lk j r := by
      intro r
      induction r with
      | nil =>
        intro _
        show lk j [(k, v)] = _
        unfold lk lk
        by_cases e : j = k
        · rw [if_pos e, if_pos e.symm]
        · rw [if_neg e, if_neg (fun z => e z.symm)]
      | cons z r ih =>
        intro hn
        unfold lk at hn
        split at hn
        · cases hn
        · rename_i hz
          rw [List.cons_append]
          unfold lk
          rw [ih hn]
          by_cases e : j = k
          · rw [if_pos e, if_pos e, if_neg (by rw [e]; exact hz)]
          · rw [if_neg e, if_neg e]
    exact gen kvs h
  | some v0 =>
    refine ⟨kvs.map fun y => @ite (Int × α) (y.1 = k) (Classical.propDecidable _) (y.1, v) y, ?_, by rw [List.length_map]; omega, fun j => ?_⟩
    · rw [Option.map_some]
      show some (PV.dic _ (drep (.inl k) (f v) _ _)) = _
      rw [drep_D]
      unfold Dm
      congr 2
      rw [List.map_map]
      refine List.map_congr_left fun z _ => ?_
      show PV.int z.1 = PV.int (@ite (Int × α) (z.1 = k) (Classical.propDecidable _) (z.1, v) z).1
      split <;> rfl
    · rw [lk_map]
      by_cases e : j = k
      · rw [if_pos e, if_pos e, e, h]
        rfl
      · rw [if_neg e, if_neg e]
end
end
end BL
/-! B, the plain side: comprehensions of dicts. -/
namespace BL
noncomputable section
open PySem PySem.Spec PyProof.Rows L2
section
variable {vs : List Nat} {tg : PV → M Unit} {tt : M Bool} {tk tv : M RV} {E : Nat → Env → Prop}
theorem BLo.compD_wp : ∀ (items : List PV) (acc : PV) (I : Nat → PV → Env → Prop) (r : Env) {Q : PV → Env → Prop}, I 0 acc r →
    (∀ i (hi : i < items.length) acc r, I i acc r → BLo.WP (tg items[i] r) (fun _ r1 => BLo.WP (tt r1) (fun b r2 => BLo.wI b (BLo.WP (tk r2) (fun zq r3 => BLo.isVal zq fun q => BLo.WP (tv r3) (fun zy r4 => BLo.isVal zy fun y => BLo.wC (plainSl vs r4 = true) (BLo.wO (setDF acc q y) fun acc' => I (i + 1) acc' (wipeE vs r4))) BLo.E0) BLo.E0) (BLo.wC (plainSl vs r2 = true) (I (i + 1) acc (wipeE vs r2)))) BLo.E0) BLo.E0) →
    (∀ acc r, I items.length acc r → Q acc r) → BLo.WP (compDM vs tg tt tk tv items acc r) Q E
  | [], acc, I, r, Q, h0, _, he => he acc r h0
  | p :: ps, acc, I, r, Q, h0, hs, he => by
    have h := hs 0 (Nat.zero_lt_succ _) acc r h0
    have e1 : (p :: ps)[0]'(Nat.zero_lt_succ _) = p := rfl
    rw [e1] at h
    have hs' := fun i (hi : i < ps.length) acc r (hI : I (i + 1) acc r) => hs (i + 1) (by rw [List.length_cons]; omega) acc r hI
    have nxt : ∀ acc' r', I 1 acc' r' → BLo.WP (compDM vs tg tt tk tv ps acc' r') Q E := fun acc' r' hI => BLo.compD_wp ps acc' (fun i => I (i + 1)) r' hI hs' fun acc r hI => he acc r hI
    unfold compDM
    cases ht : tg p r with
    | exc c r1 => rw [ht] at h; exact h.elim
    | no => rw [ht] at h; exact h.elim
    | ok u r1 =>
      rw [ht] at h
      have h : BLo.WP (tt r1) _ BLo.E0 := h
      dsimp only
      cases h2 : tt r1 with
      | exc c r1 => rw [h2] at h; exact h.elim
      | no => rw [h2] at h; exact h.elim
      | ok b r2 =>
        rw [h2] at h
        cases b with
        | false =>
          have h := h.2 rfl
          dsimp only
          rw [if_pos h.1]
          exact nxt _ _ h.2
        | true =>
          have h := h.1 rfl
          dsimp only
          cases h3 : tk r2 with
          | exc c r1 => rw [h3] at h; exact h.elim
          | no => rw [h3] at h; exact h.elim
          | ok zq r3 =>
            rw [h3] at h
            cases zq with
            | fresh q => exact h.elim
            | slot q => exact h.elim
            | loan q => exact h.elim
            | val q =>
              have h : BLo.WP (tv r3) _ BLo.E0 := h
              dsimp only
              cases h4 : tv r3 with
              | exc c r1 => rw [h4] at h; exact h.elim
              | no => rw [h4] at h; exact h.elim
              | ok zy r4 =>
                rw [h4] at h
                cases zy with
                | fresh y => exact h.elim
                | slot y => exact h.elim
                | loan y => exact h.elim
                | val y =>
                  have h : plainSl vs r4 = true ∧ BLo.wO (setDF acc q y) _ := h
                  dsimp only
                  rw [if_pos h.1]
                  cases h5 : setDF acc q y with
                  | none => rw [h5] at h; exact h.2.elim
                  | some acc' =>
                    rw [h5] at h
                    exact nxt _ _ h.2
theorem BLo.wp_dc {it : M ItD} {r : Env} {Q : RV → Env → Prop} : BLo.WP (mDc it vs tg tt tk tv r) Q E = BLo.WP (it r) (fun d r1 => BLo.wC (plainSl vs (lockE d.lk r1) = true) (BLo.WP (compDM vs tg tt tk tv d.items (.dic [] []) (wipeE vs (lockE d.lk r1))) (fun acc r2 => Q (.fresh acc) (unlE d.lk (restE vs (lockE d.lk r1) r2))) BLo.E0)) E := by
  unfold mDc
  rw [BLo.wp_bind]
  congr
  funext d r1
  show BLo.WP (if plainSl vs (lockE d.lk r1) = true then _ else _) Q E = _
  by_cases h : plainSl vs (lockE d.lk r1) = true
  · rw [if_pos h, BLo.wC_of h]
    cases compDM vs tg tt tk tv d.items (.dic [] []) (wipeE vs (lockE d.lk r1)) <;> rfl
  · rw [if_neg h]
    unfold BLo.wC
    exact propext ⟨fun z => z.elim, fun z => h z.1⟩
end
section
variable {vs : List Nat} {tg : PV → M Unit} {tt : M Bool} {tk tv : M RV} {E : Pst (Nat → Env → Prop)}
theorem wp_dc {it : M ItD} {r : Env} {Q : Pst (RV → Env → Prop)} : (@WP _ (mDc it vs tg tt tk tv r) Q E) = (@WP _ (it r) ⟨fun d r1 => (@wC (plainSl vs (lockE d.lk r1) = true) ⟨(@WP _ (compDM vs tg tt tk tv d.items (.dic [] []) (wipeE vs (lockE d.lk r1))) ⟨fun acc r2 => Q.k (.fresh acc) (unlE d.lk (restE vs (lockE d.lk r1) r2))⟩ E0)⟩)⟩ E) := by exact BLo.wp_dc
/-- the pair that a key finds: the last one with it -/
def lastP {α β : Type} (kf : α → Int) (vf : α → β) (xs : List α) (j : Int) : Option β := (xs.reverse.find? fun x => decide (kf x = j)).map vf
theorem lastP_snoc {α β : Type} {kf : α → Int} {vf : α → β} {xs : List α} {x : α} {j : Int} : lastP kf vf (xs ++ [x]) j = if j = kf x then some (vf x) else lastP kf vf xs j := by
  unfold lastP
  rw [List.reverse_append]
  show ((x :: xs.reverse).find? _).map vf = _
  by_cases h : kf x = j
  · rw [List.find?_cons_of_pos (by simpa using h), if_pos h.symm]
    rfl
  · rw [List.find?_cons_of_neg (by simpa using h), if_neg (fun e => h e.symm)]
theorem comp_dct {α β : Type} {F : α → PV} {f : β → PV} (xs : List α) (kf : α → Int) (vf : α → β) {r : Env} {Q : PV → Env → Prop} (hl : xs.length < 1000000)
    (hs : ∀ i (hi : i < xs.length), (@WP _ (tg (F xs[i]) r) ⟨fun _ r1 => (@WP _ (tk r1) ⟨fun zq r2 => (@isVal zq ⟨fun q => (@WP _ (tv r2) ⟨fun zy r3 => (@isVal zy ⟨fun y => (@Kp _ ⟨fun t : PV × PV × Env => t.1 = .int (kf xs[i]) ∧ t.2.1 = f (vf xs[i]) ∧ plainSl vs t.2.2 = true ∧ wipeE vs t.2.2 = r⟩ (q, y, r3))⟩)⟩ E0)⟩)⟩ E0)⟩ E0))
    (he : ∀ kvs : List (Int × β), kvs.length ≤ xs.length → (∀ j, lk j kvs = lastP kf vf xs j) → Q (Dm f kvs) r) : (@WP _ (compDM vs tg mYes tk tv (xs.map F) (.dic [] []) r) ⟨Q⟩ E) := by
  refine BLo.compD_wp (vs := vs) (tg := tg) (tt := mYes) (tk := tk) (tv := tv) (xs.map F) (.dic [] []) (fun i acc r' => r' = r ∧ ∃ kvs : List (Int × β), acc = Dm f kvs ∧ kvs.length ≤ i ∧ ∀ j, lk j kvs = lastP kf vf (xs.take i) j) r ⟨rfl, [], rfl, Nat.le_refl _, fun j => rfl⟩ ?_ ?_
  · rintro i hi acc r' ⟨rfl, kvs, rfl, hkl, hlk⟩
    rw [List.length_map] at hi
    rw [List.getElem_map]
    have h := hs i hi
    refine BLo.wp_mono h (fun _ r1 h => ?_) (fun _ _ z => z)
    show BLo.WP (mYes r1) _ _
    refine ⟨fun _ => BLo.wp_mono h (fun zq r2 h => ?_) (fun _ _ z => z), fun e => by cases e⟩
    cases zq with
    | fresh q => exact h
    | slot q => exact h
    | loan q => exact h
    | val q =>
      refine BLo.wp_mono h (fun zy r3 h => ?_) (fun _ _ z => z)
      cases zy with
      | fresh q => exact h
      | slot q => exact h
      | loan q => exact h
      | val y =>
        have h : q = .int (kf xs[i]) ∧ y = f (vf xs[i]) ∧ plainSl vs r3 = true ∧ wipeE vs r3 = r' := h
        obtain ⟨rfl, rfl, h3, h4⟩ := h
        obtain ⟨kvs', e1, e2, e3⟩ := set_D (f := f) (kvs := kvs) (k := kf xs[i]) (v := vf xs[i]) (by omega)
        refine ⟨h3, ?_⟩
        rw [e1]
        refine ⟨h4, kvs', rfl, by omega, fun j => ?_⟩
        rw [e3, List.take_succ, List.getElem?_eq_getElem hi]
        show _ = lastP kf vf (xs.take i ++ [xs[i]]) j
        rw [lastP_snoc, hlk]
  · rintro acc r' ⟨rfl, kvs, rfl, hkl, hlk⟩
    rw [List.length_map] at hkl hlk
    rw [List.take_length] at hlk
    exact he kvs hkl hlk
end
end
end BL
/-! B, the plain side: orders. -/
namespace BL
noncomputable section
open PySem PySem.Spec PyProof.Rows L2
theorem rgI_cons (a : Int) (n : Nat) : rgI a (n + 1) = a :: rgI (a + 1) n := by
  unfold rgI
  rw [List.range_succ_eq_map, List.map_cons, List.map_map]
  congr 1
  · omega
  · refine List.map_congr_left fun i _ => ?_
    show a + ((i + 1 : Nat) : Int) = a + 1 + i
    omega
theorem climb_eq : ∀ (s : List Int) (a : Int), s.Pairwise (· < ·) → (∀ x ∈ s, a ≤ x ∧ x < a + s.length) → s = rgI a s.length
  | [], _, _, _ => rfl
  | x :: r, a, hp, hx => by
    obtain ⟨h1, h2⟩ := List.pairwise_cons.mp hp
    have hx0 := hx x (List.mem_cons_self ..)
    have ih := climb_eq r (a + 1) h2 fun y hy => by
      have := h1 y hy
      have := hx y (List.mem_cons_of_mem _ hy)
      rw [List.length_cons] at this
      omega
    rw [List.length_cons, rgI_cons, ← ih]
    congr 1
    cases r with
    | nil => rw [List.length_cons, List.length_nil] at hx0; omega
    | cons y r =>
      rw [List.length_cons, rgI_cons] at ih
      have e : y = a + 1 := (List.cons.inj ih).1
      have := h1 y (List.mem_cons_self ..)
      omega
theorem ord_iff {ns : List Int} : sortI ns = rgI 0 ns.length ↔ ns.Nodup ∧ ∀ x ∈ ns, 0 ≤ x ∧ x < ns.length := by
  have hp := sortI_perm ns
  constructor
  · intro h
    rw [h] at hp
    exact ⟨hp.nodup_iff.mp (rgI_nodup _), fun x hx => rgI_mem.mp (hp.mem_iff.mpr hx)⟩
  · rintro ⟨h1, h2⟩
    have hl : (sortI ns).length = ns.length := hp.length_eq
    have := climb_eq (sortI ns) 0 (by
      have a := sortI_sorted ns
      have b : (sortI ns).Nodup := hp.nodup_iff.mpr h1
      refine List.pairwise_iff_getElem.mpr fun i j hi hj hij => ?_
      have a' := List.pairwise_iff_getElem.mp a i j hi hj hij
      have b' := List.pairwise_iff_getElem.mp b i j hi hj hij
      omega) fun x hx => by
        have := h2 x (hp.mem_iff.mp hx)
        omega
    rw [this, hl]
theorem take_nodup {ns : List Int} : (∀ i (hi : i < ns.length), ns[i] ∉ ns.take i) ↔ ns.Nodup := by
  constructor
  · intro h
    refine List.pairwise_iff_getElem.mpr fun i j hi hj hij e => h j hj ?_
    rw [← e]
    have : i < (ns.take j).length := by rw [List.length_take]; omega
    have e2 : (ns.take j)[i] = ns[i] := List.getElem_take
    rw [← e2]
    exact List.getElem_mem this
  · intro h i hi hm
    obtain ⟨j, hj, e⟩ := List.getElem_of_mem hm
    rw [List.length_take] at hj
    rw [List.getElem_take] at e
    exact List.pairwise_iff_getElem.mp h j i (by omega) hi (by omega) e
def isOrd (p : PV) : Bool := isLn p && match p with
  | .tup xs => (match toInts xs with
    | some ns => decide (sortI ns = rgI 0 ns.length)
    | none => false)
  | _ => false
theorem isOrd_T {ns : List Int} (h : Ln ns) : isOrd (Tx .int ns) = decide (sortI ns = rgI 0 ns.length) := by
  unfold isOrd
  rw [isLn_of h, Bool.true_and]
  show (match toInts (ns.map PV.int) with | some ns => decide (sortI ns = rgI 0 ns.length) | none => false) = _
  rw [toInts_map]
theorem mk_int {p : PV} (h : isMk p = true) : ∃ i : Int, p = .int i ∧ -1000000000000000000000000000000 ≤ i ∧ i ≤ 1000000000000000000000000000000 := by
  cases p with
  | int i =>
    have h : (decide (-1000000000000000000000000000000 ≤ i) && decide (i ≤ 1000000000000000000000000000000)) = true := h
    rw [Bool.and_eq_true, decide_eq_true_eq, decide_eq_true_eq] at h
    exact ⟨i, rfl, h.1, h.2⟩
  | _ => cases h
theorem ints_of {P : Int → Prop} : ∀ {xs : List PV}, (∀ x ∈ xs, ∃ i : Int, x = .int i ∧ P i) → ∃ ns : List Int, xs = ns.map .int ∧ ∀ i ∈ ns, P i
  | [], _ => ⟨[], rfl, fun _ h => nomatch h⟩
  | x :: xs, h => by
    obtain ⟨i, rfl, hi⟩ := h x (List.mem_cons_self ..)
    obtain ⟨ns, e, hn⟩ := ints_of (xs := xs) fun y hy => h y (List.mem_cons_of_mem _ hy)
    refine ⟨i :: ns, by rw [e]; rfl, fun j hj => ?_⟩
    rcases List.mem_cons.mp hj with e | hj
    · rw [e]; exact hi
    · exact hn j hj
theorem isLn_inv {p : PV} (h : isLn p = true) : ∃ ns, p = Tx .int ns ∧ Ln ns := by
  cases p with
  | tup xs =>
    rw [isLn_tup, Bool.and_eq_true, Bool.and_eq_true, decide_eq_true_eq, decide_eq_true_eq, List.all_eq_true] at h
    obtain ⟨⟨h1, h2⟩, h3⟩ := h
    obtain ⟨ns, rfl, hn⟩ := ints_of (P := fun i => -1000000000000000000000000000000 ≤ i ∧ i ≤ 1000000000000000000000000000000) fun x hx => mk_int (h3 x hx)
    rw [List.length_map] at h1 h2
    exact ⟨ns, rfl, h1, h2, hn⟩
  | _ => cases h
theorem isOrd_inv {p : PV} (h : isOrd p = true) : ∃ ns, p = Tx .int ns ∧ Ln ns ∧ ns.Nodup ∧ ∀ x ∈ ns, 0 ≤ x ∧ x < ns.length := by
  have h1 : isLn p = true := by
    unfold isOrd at h
    rw [Bool.and_eq_true] at h
    exact h.1
  obtain ⟨ns, rfl, hl⟩ := isLn_inv h1
  rw [isOrd_T hl, decide_eq_true_eq] at h
  obtain ⟨a, b⟩ := ord_iff.mp h
  exact ⟨ns, rfl, hl, a, b⟩
/-! ### texts of odd things -/
def RpW (p : PV) : Prop := ∃ s, reprWF [p] = some (.val (.str s)) ∧ PyData.strOk s = true
def rwS (p : PV) : Str := match reprWF [p] with
  | some (.val (.str s)) => s
  | _ => ""
theorem RpW.eq {p : PV} (h : RpW p) : reprWF [p] = some (.val (.str (rwS p))) := by
  obtain ⟨s, e, h⟩ := h
  unfold rwS
  rw [e]
theorem RpW.ok {p : PV} (h : RpW p) : PyData.strOk (rwS p) = true := by
  obtain ⟨s, e, h⟩ := h
  unfold rwS
  rw [e]
  exact h
theorem Rp.w {p : PV} (h : Rp p) : RpW p := by
  obtain ⟨s, e, h⟩ := h
  refine ⟨s, ?_, h⟩
  have e : (shwP p).map (fun d => RV.val (.str d.shown)) = some (.val (.str s)) := e
  show ((shwP p).or (shwN p)).map (fun d => RV.val (.str d.shown)) = _
  cases e1 : shwP p with
  | none => rw [e1] at e; cases e
  | some d => rw [e1] at e; exact e
theorem rp_bl (b : Bool) : Rp (.bl b) := (Sm.bl b).rp (by decide) (by decide)
mutual
/-- n things, d deep: of None, bools, small ints, small texts, tuples, empty dicts -/
inductive Sn : Nat → Nat → PV → Prop
  | non : Sn 1 1 .non
  | bl (b : Bool) : Sn 1 1 (.bl b)
  | int (i : Int) : i.natAbs.log2 < 1920 → Sn 1 1 (.int i)
  | dic : Sn 1 1 (.dic [] [])
  | tup {n d : Nat} {xs : List PV} : Sns n d xs → Sn (n + 1) (d + 1) (.tup xs)
inductive Sns : Nat → Nat → List PV → Prop
  | nil {d : Nat} : Sns 0 d []
  | cons {n m d e : Nat} {x : PV} {xs : List PV} : Sn n e x → e ≤ d → Sns m d xs → Sns (n + m) d (x :: xs)
end
mutual
theorem Sn.dat : ∀ {n d : Nat} {p : PV}, Sn n d p → ∃ D, toN p = some D ∧ D.showable = true ∧ D.depth ≤ d ∧ D.shown.length + 2 ≤ 2010 * n ∧ PyData.strOk D.shown = true
  | _, _, _, .non => ⟨.none, rfl, by simp [PyData.showable], by simp [PyData.depth], by simp only [PyData.shown]; decide +kernel, by simp only [PyData.shown]; exact strOk_of _⟩
  | _, _, _, .bl b => ⟨.bool b, rfl, by simp [PyData.showable], by simp [PyData.depth], by simp only [PyData.shown]; cases b <;> decide +kernel, by simp only [PyData.shown]; cases b <;> exact strOk_of _⟩
  | _, _, _, .int i h => ⟨.int i, rfl, by simp [PyData.showable, h], by simp [PyData.depth], by
      have := int_text_length_le (k := 1920) (by decide) h
      simp only [PyData.shown]
      rw [len_ofString]
      omega, by simp only [PyData.shown]; exact strOk_of _⟩
  | _, _, _, .dic => ⟨.dict [], rfl, by decide +kernel, by decide +kernel, by decide +kernel, by decide +kernel⟩
  | _, _, _, .tup h => by
    obtain ⟨D, e, h1, h3, h4, h5⟩ := Sns.dat h
    refine ⟨.tuple D, by show (toNs _).map PyData.tuple = _; rw [e]; rfl, by simpa [PyData.showable] using h1, by simp only [PyData.depth]; omega, ?_, ?_⟩
    · simp only [PyData.shown]
      have := tupleText_le (PyData.shownAll D)
      omega
    · simp only [PyData.shown]
      exact strOk_tuple h5
theorem Sns.dat : ∀ {n d : Nat} {ps : List PV}, Sns n d ps → ∃ D, toNs ps = some D ∧ PyData.showableAll D = true ∧ PyData.depthAll D ≤ d ∧ piled (PyData.shownAll D) ≤ 2010 * n ∧ ∀ t ∈ PyData.shownAll D, PyData.strOk t = true
  | _, _, _, .nil => ⟨[], rfl, by simp [PyData.showableAll], by simp [PyData.depthAll], by simp [PyData.shownAll, piled], by simp [PyData.shownAll]⟩
  | _, _, _, .cons h hd hs => by
    obtain ⟨D, e, h1, h3, h4, h5⟩ := Sn.dat h
    obtain ⟨Ds, e', h1', h3', h4', h5'⟩ := Sns.dat hs
    have hn := h.pos
    refine ⟨D :: Ds, by show (match toN _, toNs _ with | some d, some ds => some (d :: ds) | _, _ => none) = _; rw [e, e'], by simp [PyData.showableAll, h1, h1'], by simp only [PyData.depthAll]; omega, ?_, ?_⟩
    · simp only [PyData.shownAll, piled_cons]
      omega
    · intro t ht
      simp only [PyData.shownAll] at ht
      rcases List.mem_cons.mp ht with rfl | ht
      · exact h5
      · exact h5' t ht
theorem Sn.pos : ∀ {n d : Nat} {p : PV}, Sn n d p → 1 ≤ n
  | _, _, _, .non => Nat.le_refl _
  | _, _, _, .bl _ => Nat.le_refl _
  | _, _, _, .int _ _ => Nat.le_refl _
  | _, _, _, .dic => Nat.le_refl _
  | _, _, _, .tup _ => Nat.le_add_left ..
end
theorem Sn.rp {n d : Nat} {p : PV} (h : Sn n d p) (hn : n ≤ 8000) (hd : d ≤ 64) (h0 : toD p = none) : RpW p := by
  obtain ⟨D, e, h1, h3, h4, h5⟩ := h.dat
  refine ⟨D.shown, ?_, h5⟩
  show ((shwP p).or (shwN p)).map (fun d => RV.val (.str d.shown)) = _
  have e0 : shwP p = none := by unfold shwP; rw [h0]
  have e1 : shwN p = some D := by
    unfold shwN
    rw [e]
    show @ite _ _ (Classical.propDecidable _) _ _ = _
    rw [if_pos ⟨h1, by omega, by unfold lim; omega⟩]
  rw [e0, e1]
  rfl
/-! ### odd values -/
def Kv (p : PV) : Prop := kndT p ∧ RpW p
def Itm (x : PV) : Prop := knd x ∧ ∃ n d, n ≤ 3 ∧ d ≤ 2 ∧ Sm n d x
theorem sms_of : ∀ {xs : List PV}, (∀ x ∈ xs, Itm x) → ∃ n, n ≤ 3 * xs.length ∧ Sms n 2 xs
  | [], _ => ⟨0, Nat.le_refl _, .nil⟩
  | x :: xs, h => by
    obtain ⟨n, h1, h2⟩ := sms_of (xs := xs) fun y hy => h y (List.mem_cons_of_mem _ hy)
    obtain ⟨_, m, d, a, b, c⟩ := h x (List.mem_cons_self ..)
    exact ⟨m + n, by rw [List.length_cons]; omega, .cons c b h2⟩
theorem kv_sm {xs : List PV} (h : ∀ x ∈ xs, Itm x) (hl : xs.length ≤ 1000) : Kv (.tup xs) := by
  obtain ⟨n, h1, h2⟩ := sms_of h
  exact ⟨⟨rfl, fun x hx => (h x hx).1, by omega⟩, ((Sm.tup h2).rp (by omega) (by decide)).w⟩
theorem kv_lst {xs : List PV} (h : ∀ x ∈ xs, Itm x) (hl : xs.length ≤ 1000) : Kv (.lst xs) := by
  obtain ⟨n, h1, h2⟩ := sms_of h
  exact ⟨⟨rfl, trivial⟩, ((Sm.lst h2).rp (by omega) (by decide)).w⟩
theorem toDs_none : ∀ {xs : List PV} {x : PV}, x ∈ xs → toD x = none → toDs xs = none
  | y :: ys, x, hx, e => by
    show (match toD y, toDs ys with | some d, some ds => some (d :: ds) | _, _ => none) = none
    rcases List.mem_cons.mp hx with h | h
    · rw [← h, e]
    · rw [toDs_none h e]
      cases toD y <;> rfl
theorem sns_of : ∀ {xs : List PV}, (∀ x ∈ xs, Sn 1 1 x) → Sns xs.length 1 xs
  | [], _ => .nil
  | x :: xs, h => by
    have := Sns.cons (h x (List.mem_cons_self ..)) (Nat.le_refl _) (sns_of (xs := xs) fun y hy => h y (List.mem_cons_of_mem _ hy))
    rw [List.length_cons, Nat.add_comm]
    exact this
theorem kv_sn {xs : List PV} (h : ∀ x ∈ xs, Sn 1 1 x) (hk : ∀ x ∈ xs, knd x) (hl : xs.length ≤ 1000) (hd : PV.dic [] [] ∈ xs) : Kv (.tup xs) :=
  ⟨⟨rfl, hk, by omega⟩, (Sn.tup (sns_of h)).rp (by omega) (by decide) (by show (toDs xs).map PyData.tuple = none; rw [toDs_none hd rfl]; rfl)⟩
theorem itm_int {i : Int} (h1 : -10000000000000000000000000000000000000000000000000000000000000000000000000000000000000000000000000000 < i) (h2 : i < 10000000000000000000000000000000000000000000000000000000000000000000000000000000000000000000000000000) : Itm (.int i) := ⟨rfl, 1, 1, by decide, by decide, .small h1 h2⟩
theorem sn_int {i : Int} (h1 : -10000000000000000000000000000000000000000000000000000000000000000000000000000000000000000000000000000 < i) (h2 : i < 10000000000000000000000000000000000000000000000000000000000000000000000000000000000000000000000000000) : Sn 1 1 (.int i) := .int i (by have := lg_sm h1 h2; omega)
/-- a tuple of small ints with one odd thing among them -/
theorem kv_mix {a b : List Int} {x : PV} (ha : ∀ i ∈ a, -100 ≤ i ∧ i ≤ 100) (hb : ∀ i ∈ b, -100 ≤ i ∧ i ≤ 100) (hla : a.length ≤ 100) (hlb : b.length ≤ 100) (hx : x = .dic [] [] ∨ Itm x) : Kv (.tup (a.map .int ++ [x] ++ b.map .int)) := by
  have hlen : (a.map PV.int ++ [x] ++ b.map PV.int).length ≤ 1000 := by simp; omega
  rcases hx with rfl | hx
  · refine kv_sn (fun y hy => ?_) (fun y hy => ?_) hlen (by simp)
    · simp only [List.mem_append, List.mem_map, List.mem_singleton] at hy
      rcases hy with (⟨i, hi, rfl⟩ | rfl) | ⟨i, hi, rfl⟩
      · have := ha i hi; exact sn_int (by omega) (by omega)
      · exact .dic
      · have := hb i hi; exact sn_int (by omega) (by omega)
    · simp only [List.mem_append, List.mem_map, List.mem_singleton] at hy
      rcases hy with (⟨i, hi, rfl⟩ | rfl) | ⟨i, hi, rfl⟩ <;> rfl
  · refine kv_sm (fun y hy => ?_) hlen
    simp only [List.mem_append, List.mem_map, List.mem_singleton] at hy
    rcases hy with (⟨i, hi, rfl⟩ | rfl) | ⟨i, hi, rfl⟩
    · have := ha i hi; exact itm_int (by omega) (by omega)
    · exact hx
    · have := hb i hi; exact itm_int (by omega) (by omega)
theorem kv_ints {a : List Int} (ha : ∀ i ∈ a, -1000 ≤ i ∧ i ≤ 1000) (hla : a.length ≤ 300) : Kv (Tx .int a) := kv_sm (fun y hy => by
  obtain ⟨i, hi, rfl⟩ := List.mem_map.mp hy
  have := ha i hi
  exact itm_int (by omega) (by omega)) (by rw [List.length_map]; omega)
theorem kv_itm {x : PV} (h : Itm x) (hk : kndT x) : Kv x := by
  obtain ⟨_, n, d, a, b, c⟩ := h
  exact ⟨hk, (c.rp (by omega) (by omega)).w⟩
theorem kv_dic : Kv (.dic [] []) := ⟨⟨rfl, trivial⟩, Sn.dic.rp (by decide) (by decide) rfl⟩
theorem add_Tt {a : List Int} {b : List PV} (h : a.length + b.length ≤ 16777216) : addF (Tx .int a) (.tup b) = some (.val (.tup (a.map .int ++ b))) := by
  unfold Tx
  rw [addF_tup (by rw [List.length_map]; exact h)]
theorem mul_T1 {x k : Int} (h1 : k ≤ 1000) (h2 : -1000 ≤ k) : mulF (.tup [.int x]) (.int k) = some (.val (Tx .int (List.replicate k.toNat x))) := by
  rw [mulF_tup h1 h2 (by simp), List.flatten_replicate_singleton]
  unfold Tx
  rw [List.map_replicate]
theorem add_tT {a : List PV} {b : List Int} (h : a.length + b.length ≤ 16777216) : addF (.tup a) (Tx .int b) = some (.val (.tup (a ++ b.map .int))) := by
  unfold Tx
  rw [addF_tup (by rw [List.length_map]; exact h)]
end
end BL
/-! B, the plain side: all codes of a size; the order with a sequence. -/
namespace BL
noncomputable section
open PySem PySem.Spec PyProof.Rows L2
theorem rows_len_succ (n : Nat) : (rowsL (n + 1)).length = (rowsL n).length * (n + 1) := by
  have key : ∀ ls : List (List Int), (ls.flatMap fun r => (rgI 0 (n + 1)).map fun m => r ++ [m]).length = ls.length * (n + 1) := by
    intro ls
    induction ls with
    | nil => simp
    | cons a ls ih => rw [List.flatMap_cons, List.length_append, ih, List.length_map, rgI_length, List.length_cons, Nat.add_mul]; omega
  exact key _
theorem rows_len6 : ∀ n, n ≤ 6 → (rowsL n).length ≤ 720 := by
  intro n hn
  have h1 : (rowsL 1).length = 1 := by rw [rows_len_succ]; rfl
  have h2 : (rowsL 2).length = 2 := by rw [rows_len_succ, h1]
  have h3 : (rowsL 3).length = 6 := by rw [rows_len_succ, h2]
  have h4 : (rowsL 4).length = 24 := by rw [rows_len_succ, h3]
  have h5 : (rowsL 5).length = 120 := by rw [rows_len_succ, h4]
  have h6 : (rowsL 6).length = 720 := by rw [rows_len_succ, h5]
  rcases (show n = 0 ∨ n = 1 ∨ n = 2 ∨ n = 3 ∨ n = 4 ∨ n = 5 ∨ n = 6 by omega) with rfl | rfl | rfl | rfl | rfl | rfl | rfl
  · decide
  all_goals omega
theorem rows_pos : ∀ n, 0 < (rowsL n).length
  | 0 => by decide
  | n + 1 => by rw [rows_len_succ]; exact Nat.mul_pos (rows_pos n) (Nat.succ_pos n)
theorem rows_row : ∀ n, ∀ r ∈ rowsL n, r.length = n ∧ Cd r
  | 0, r, hr => by
    rw [List.mem_singleton.mp hr]
    exact ⟨rfl, fun i hi => absurd hi (Nat.not_lt_zero _)⟩
  | n + 1, r, hr => by
    obtain ⟨q, hq, hr⟩ := List.mem_flatMap.mp hr
    obtain ⟨m, hm, rfl⟩ := List.mem_map.mp hr
    obtain ⟨h1, h2⟩ := rows_row n q hq
    have hm := rgI_mem.mp hm
    refine ⟨by rw [List.length_append, h1]; rfl, fun i hi => ?_⟩
    rw [List.length_append, h1, List.length_singleton] at hi
    by_cases e : i = n
    · subst e
      rw [List.getD_eq_getElem?_getD, List.getElem?_append_right (by omega), h1, Nat.sub_self]
      show 0 ≤ m ∧ m ≤ _
      omega
    · rw [List.getD_eq_getElem?_getD, List.getElem?_append_left (by omega), ← List.getD_eq_getElem?_getD]
      exact h2 i (by omega)
theorem rows_nodup : ∀ n, (rowsL n).Nodup
  | 0 => by decide
  | n + 1 => by
    have ih := rows_nodup n
    have key : ∀ ls : List (List Int), ls.Nodup → (∀ r ∈ ls, r.length = n) → (ls.flatMap fun r => (rgI 0 (n + 1)).map fun m => r ++ [m]).Nodup := by
      intro ls
      induction ls with
      | nil => intro _ _; exact List.nodup_nil
      | cons a ls ih2 =>
        intro h1 h2
        obtain ⟨ha, h1⟩ := List.nodup_cons.mp h1
        rw [List.flatMap_cons]
        refine List.nodup_append.mpr ⟨?_, ih2 h1 fun r hr => h2 r (List.mem_cons_of_mem _ hr), fun x hx y hy e => ?_⟩
        · rw [List.nodup_iff_pairwise_ne, List.pairwise_map]
          exact (rgI_nodup (n + 1)).imp fun hne e => hne (by
            have := List.append_cancel_left e
            exact (List.cons.inj this).1)
        · obtain ⟨m, _, rfl⟩ := List.mem_map.mp hx
          obtain ⟨b, hb, hy⟩ := List.mem_flatMap.mp hy
          obtain ⟨m', _, rfl⟩ := List.mem_map.mp hy
          have := (List.append_inj e (by rw [h2 a (List.mem_cons_self ..), h2 b (List.mem_cons_of_mem _ hb)])).1
          exact ha (this ▸ hb)
    exact key _ ih fun r hr => (rows_row n r hr).1
/-! ### the order with a sequence -/
def posL (s : List Int) (j : Int) : Option Int := lastP (fun z : Int × Nat => z.1) (fun z => (z.2 : Int)) s.zipIdx j
def ordL (s : List Int) : List Int := (rgI 0 s.length).map fun j => (posL s j).getD 0
theorem ordL_length (s : List Int) : (ordL s).length = s.length := by unfold ordL; rw [List.length_map, rgI_length]
theorem posL_get {s : List Int} (hn : s.Nodup) : ∀ {i : Nat} (hi : i < s.length), posL s s[i] = some (i : Int) := by
  intro i hi
  unfold posL lastP
  have hf : s.zipIdx.reverse.find? (fun x => decide (x.1 = s[i])) = some (s[i], i) := by
    have hmem : (s[i], i) ∈ s.zipIdx.reverse := List.mem_reverse.mpr (List.mem_iff_getElem.mpr ⟨i, by rw [List.length_zipIdx]; exact hi, by rw [List.getElem_zipIdx, Nat.zero_add]⟩)
    cases e : s.zipIdx.reverse.find? (fun x => decide (x.1 = s[i])) with
    | none =>
      have := List.find?_eq_none.mp e _ hmem
      simp at this
    | some z =>
      have h1 := List.find?_some e
      have h2 := List.mem_reverse.mp (List.mem_of_find?_eq_some e)
      obtain ⟨j, hj, e2⟩ := List.mem_iff_getElem.mp h2
      rw [List.length_zipIdx] at hj
      rw [List.getElem_zipIdx, Nat.zero_add] at e2
      subst e2
      have h1 : s[j] = s[i] := by simpa using h1
      have : j = i := by
        rcases Nat.lt_trichotomy j i with z | z | z
        · exact absurd h1 (List.pairwise_iff_getElem.mp hn j i hj hi z)
        · exact z
        · exact absurd h1.symm (List.pairwise_iff_getElem.mp hn i j hi hj z)
      subst this
      rfl
  rw [hf]
  rfl
theorem ordL_gx {s : List Int} (hp : s.Perm (rgI 0 s.length)) {i : Nat} (hi : i < s.length) : gx (ordL s) s[i] = (i : Int) := by
  have hn : s.Nodup := hp.nodup_iff.mpr (rgI_nodup _)
  have hr := rgI_mem.mp (hp.mem_iff.mp (List.getElem_mem hi))
  unfold ordL
  rw [gx_get (by rw [List.length_map, rgI_length]; omega), List.getElem_map, rgI_get (by omega)]
  rw [show (0 : Int) + (s[i].toNat : Nat) = s[i] by omega, posL_get hn hi]
  rfl
theorem seq_at {s : List Int} (hp : s.Perm (rgI 0 s.length)) {a : Int} (h0 : 0 ≤ a) (h1 : a < s.length) : ∃ i, ∃ hi : i < s.length, s[i] = a :=
  List.mem_iff_getElem.mp (hp.mem_iff.mpr (rgI_mem.mpr ⟨h0, h1⟩))
theorem ordL_ord {s : List Int} (hp : s.Perm (rgI 0 s.length)) : (ordL s).Nodup ∧ ∀ x ∈ ordL s, 0 ≤ x ∧ x < (ordL s).length := by
  have hl := ordL_length s
  have val : ∀ a (ha : a < (ordL s).length), ∃ i, ∃ hi : i < s.length, s[i] = (a : Int) ∧ (ordL s)[a] = (i : Int) := by
    intro a ha
    obtain ⟨i, hi, e⟩ := seq_at hp (a := (a : Int)) (by omega) (by omega)
    refine ⟨i, hi, e, ?_⟩
    have := ordL_gx hp hi
    rw [e, gx_nat, List.getD_eq_getElem?_getD, List.getElem?_eq_getElem ha] at this
    exact this
  refine ⟨List.pairwise_iff_getElem.mpr fun a b ha hb hab e => ?_, fun x hx => ?_⟩
  · obtain ⟨i, hi, e1, e2⟩ := val a ha
    obtain ⟨j, hj, e3, e4⟩ := val b hb
    rw [e2, e4] at e
    have : i = j := by omega
    subst this
    rw [e1] at e3
    omega
  · obtain ⟨a, ha, rfl⟩ := List.mem_iff_getElem.mp hx
    obtain ⟨i, hi, e1, e2⟩ := val a ha
    rw [e2]
    omega
/-- a round leads from the order to the code -/
theorem ordL_round {c : List Int} (hc : Cd c) : roundL (ordL (seqB c c.length)) = c := by
  have hl := seqB_length c c.length
  have hp : (seqB c c.length).Perm (rgI 0 (seqB c c.length).length) := by rw [hl]; exact seqB_perm c _
  refine (round_iff hc (by rw [ordL_length, hl])).mpr (List.pairwise_iff_getElem.mpr fun i j hi hj hij => ?_)
  unfold Rs
  rw [ordL_gx hp hi, ordL_gx hp hj]
  unfold rise
  split <;> omega
/-- and no other order does -/
theorem ordL_uniq {x : List Int} (hn : x.Nodup) (hx : ∀ y ∈ x, 0 ≤ y ∧ y < x.length) : ordL (seqB (roundL x) (roundL x).length) = x := by
  have hrl := roundL_length x
  have hl := seqB_length (roundL x) (roundL x).length
  have hpw := (round_iff (round_Cd x) hrl.symm).mp rfl
  generalize hs : seqB (roundL x) (roundL x).length = s at hl hpw
  have hp : s.Perm (rgI 0 s.length) := by rw [hl, ← hs]; exact seqB_perm _ _
  have hsl : s.length = x.length := by rw [hl, hrl]
  have hin : ∀ i (hi : i < s.length), 0 ≤ s[i] ∧ s[i] < x.length := fun i hi => by
    have := rgI_mem.mp (hp.mem_iff.mp (List.getElem_mem hi))
    omega
  have hinj : ∀ a b : Int, 0 ≤ a → a < x.length → 0 ≤ b → b < x.length → gx x a = gx x b → a = b := by
    intro a b a0 a1 b0 b1 e
    rw [gx_get (by omega), gx_get (by omega)] at e
    have := List.pairwise_iff_getElem.mp hn
    rcases Int.lt_trichotomy a b with z | z | z
    · exact absurd e (this a.toNat b.toNat (by omega) (by omega) (by omega))
    · exact z
    · exact absurd e.symm (this b.toNat a.toNat (by omega) (by omega) (by omega))
  have hm : s.map (gx x) = rgI 0 s.length := by
    have := climb_eq (s.map (gx x)) 0 (by
      refine List.pairwise_iff_getElem.mpr fun i j hi hj hij => ?_
      rw [List.length_map] at hi hj
      rw [List.getElem_map, List.getElem_map]
      have h1 := (List.pairwise_iff_getElem.mp hpw i j hi hj hij).le
      have h2 : gx x s[i] ≠ gx x s[j] := fun e => by
        have := hinj _ _ (hin i hi).1 (hin i hi).2 (hin j hj).1 (hin j hj).2 e
        exact List.pairwise_iff_getElem.mp (hp.nodup_iff.mpr (rgI_nodup _)) i j hi hj hij this
      omega) fun y hy => by
        obtain ⟨a, ha, rfl⟩ := List.mem_map.mp hy
        obtain ⟨i, hi, rfl⟩ := List.mem_iff_getElem.mp ha
        have := hx _ (gx_mem (xs := x) (hin i hi).1 (hin i hi).2)
        rw [List.length_map]
        omega
    rw [List.length_map] at this
    exact this
  refine List.ext_getElem (by rw [ordL_length, hsl]) fun a h1 h2 => ?_
  obtain ⟨i, hi, e⟩ := seq_at hp (a := (a : Int)) (by omega) (by omega)
  have e1 := ordL_gx hp hi
  have e2 : gx x s[i] = (i : Int) := by
    have := congrArg (fun l : List Int => l[i]?) hm
    rw [List.getElem?_map, List.getElem?_eq_getElem hi, List.getElem?_eq_getElem (by rw [rgI_length]; exact hi), rgI_get hi] at this
    have := Option.some.inj this
    omega
  rw [e, gx_nat, List.getD_eq_getElem?_getD, List.getElem?_eq_getElem h1] at e1
  rw [e, gx_nat, List.getD_eq_getElem?_getD, List.getElem?_eq_getElem h2] at e2
  exact e1.trans e2.symm
end
end BL
/-! B, the plain side: dicts with tuples of ints as keys; pairs sorted. -/
namespace BL
noncomputable section
open PySem PySem.Spec PyProof.Rows L2
section
variable {α : Type} {f : α → PV}
def Dt (f : α → PV) (kvs : List (List Int × α)) : PV := .dic (kvs.map fun z => Tx .int z.1) (kvs.map fun z => f z.2)
def lkT (k : List Int) : List (List Int × α) → Option α
  | [] => none
  | z :: r => if z.1 = k then some z.2 else lkT k r
def dsetT (k : List Int) (v : α) (r : List (List Int × α)) : List (List Int × α) :=
  match lkT k r with
  | none => r ++ [(k, v)]
  | some _ => r.map fun z => if z.1 = k then (z.1, v) else z
theorem lkT_cons {k : List Int} {z : List Int × α} {r : List (List Int × α)} : lkT k (z :: r) = if z.1 = k then some z.2 else lkT k r := rfl
theorem dt_nil : PV.dic [] [] = Dt f [] := rfl
theorem keyT_T (l : List Int) : keyT (Tx .int l) = some (l.map Sum.inl) := by
  show (l.map PV.int).mapM keyP = _
  induction l with
  | nil => rfl
  | cons x r ih =>
    rw [List.map_cons, List.mapM_cons, ih]
    rfl
theorem inl_inj {a b : List Int} (h : (a.map Sum.inl : List Key) = b.map Sum.inl) : a = b :=
  (List.map_inj_right (fun _ _ h => Sum.inl.inj h)).mp h
theorem dfindT_T {k : List Int} : ∀ {kvs : List (List Int × α)}, dfindT (k.map Sum.inl) (kvs.map fun z => Tx PV.int z.1) (kvs.map fun z => f z.2) = some ((lkT k kvs).map f)
  | [] => rfl
  | z :: r => by
    show ((keyT (Tx PV.int z.1)).bind fun k' => @ite _ (k' = k.map Sum.inl) (Classical.propDecidable _) (some (some (f z.2))) (dfindT (k.map Sum.inl) (r.map fun z => Tx PV.int z.1) (r.map fun z => f z.2))) = _
    rw [dfindT_T, keyT_T, Option.bind_some]
    rw [lkT_cons]
    by_cases e : z.1 = k
    · rw [if_pos e]
      exact if_pos (by rw [e])
    · rw [if_neg e]
      exact if_neg (fun h => e (inl_inj h))
theorem get_T {kvs : List (List Int × α)} {k : List Int} {d : PV} : getTF (Dt f kvs) [Tx .int k, d] = some (.val (((lkT k kvs).map f).getD d)) := by
  show (keyT (Tx .int k)).bind _ = _
  rw [keyT_T, Option.bind_some]
  show (dfindT _ _ _).map _ = _
  rw [dfindT_T]
  rfl
theorem ix_Tk {kvs : List (List Int × α)} {k : List Int} {v : α} (h : lkT k kvs = some v) : ixTF (Dt f kvs) (Tx .int k) = some (.val (f v)) := by
  show (keyT (Tx .int k)).bind _ = _
  rw [keyT_T, Option.bind_some]
  show (dfindT _ _ _).bind _ = _
  rw [dfindT_T, h]
  rfl
theorem drepT_T {k : List Int} {v : α} : ∀ {kvs : List (List Int × α)}, drepT (k.map Sum.inl) (f v) (kvs.map fun z => Tx PV.int z.1) (kvs.map fun z => f z.2) = (kvs.map fun z => if z.1 = k then (z.1, v) else z).map fun z => f z.2
  | [] => rfl
  | z :: r => by
    show (@ite _ (keyT (Tx PV.int z.1) = some (k.map Sum.inl)) (Classical.propDecidable _) (f v) (f z.2)) :: drepT (k.map Sum.inl) (f v) (r.map fun z => Tx PV.int z.1) (r.map fun z => f z.2) = _
    rw [drepT_T, List.map_cons, List.map_cons, keyT_T]
    congr 1
    by_cases e : z.1 = k
    · rw [if_pos e]
      exact if_pos (by rw [e])
    · rw [if_neg e]
      exact if_neg (fun h => e (inl_inj (Option.some.inj h)))
theorem set_T {kvs : List (List Int × α)} {k : List Int} {v : α} (hl : kvs.length < 1000000) : setTF (Dt f kvs) (Tx .int k) (f v) = some (Dt f (dsetT k v kvs)) := by
  show (keyT (Tx .int k)).bind _ = _
  rw [keyT_T, Option.bind_some]
  show (dfindT _ _ _).bind _ = _
  rw [dfindT_T, Option.bind_some]
  refine (if_pos (by rw [List.length_map]; exact Nat.lt_trans hl (by unfold lim; decide))).trans ?_
  unfold dsetT
  cases h : lkT k kvs with
  | none =>
    show some (PV.dic ((kvs.map fun z => Tx PV.int z.1) ++ [Tx .int k]) ((kvs.map fun z => f z.2) ++ [f v])) = _
    unfold Dt
    rw [List.map_append, List.map_append]
    rfl
  | some v0 =>
    show some (PV.dic (kvs.map fun z => Tx PV.int z.1) (drepT (k.map Sum.inl) (f v) _ _)) = _
    rw [drepT_T]
    unfold Dt
    congr 2
    rw [List.map_map]
    refine List.map_congr_left fun z _ => ?_
    show Tx PV.int z.1 = Tx PV.int (if z.1 = k then (z.1, v) else z).1
    split <;> rfl
theorem dsetT_length (k : List Int) (v : α) (r : List (List Int × α)) : (dsetT k v r).length ≤ r.length + 1 := by
  unfold dsetT
  split
  · rw [List.length_append]; exact Nat.le_refl _
  · rw [List.length_map]; omega
end
theorem BLo.wp_seeV {f : PV → List PV → Option RV} {o : RV} {rs : List RV} {r : Env} {Q : RV → Env → Prop} {E : Nat → Env → Prop} : BLo.WP (seeV f o rs r) Q E = BLo.wO (peek r o) fun p => BLo.wO (valsOf rs) fun ps => BLo.wO (f p ps) fun z => Q z r := by
  unfold seeV
  cases peek r o with
  | none => rfl
  | some p =>
    cases valsOf rs with
    | none => rfl
    | some ps =>
      show BLo.WP (match f p ps with | some z => .ok z r | none => .no) Q E = BLo.wO (f p ps) _
      cases f p ps <;> rfl
theorem wp_seeV {f : PV → List PV → Option RV} {o : RV} {rs : List RV} {r : Env} {Q : Pst (RV → Env → Prop)} {E : Pst (Nat → Env → Prop)} : (@WP _ (seeV f o rs r) Q E) = (@wO _ (peek r o) ⟨fun p => (@wO _ (valsOf rs) ⟨fun ps => (@wO _ (f p ps) ⟨fun z => Q.k z r⟩)⟩)⟩) := by exact BLo.wp_seeV
theorem sorted_K {ks : List Kr} : sortedKF [Lx krP ks] = some (.fresh (Lx krP (sortK ks))) := by
  show (toKrs (ks.map krP)).map _ = _
  rw [toKrs_map]
  rfl
/-! ### rows of ints, as data -/
def rowD (l : List Int) : PyData := .tuple (l.map .int)
theorem toDs_rows : ∀ a : List (List Int), toDs (a.map (Tx .int)) = some (a.map rowD)
  | [] => rfl
  | l :: r => by
    have e : toD (Tx .int l) = some (rowD l) := by
      show (toDs (l.map PV.int)).map PyData.tuple = _
      rw [toDs_ints]
      rfl
    show (match toD (Tx .int l), toDs (r.map (Tx .int)) with | some d, some ds => some (d :: ds) | _, _ => none) = _
    rw [e, toDs_rows r]
    rfl
theorem canLay_rows : ∀ a : List (List Int), PyData.canLayAll0 (a.map rowD) = true
  | [] => by simp [PyData.canLayAll0]
  | l :: r => by
    show PyData.canLayAll0 (rowD l :: r.map rowD) = true
    simp [PyData.canLayAll0, canLay_rows r, rowD, PyData.canLay0, canLay_ints]
theorem depth_rows : ∀ a : List (List Int), PyData.depthAll (a.map rowD) ≤ 1
  | [] => by simp [PyData.depthAll]
  | l :: r => by
    have := depth_rows r
    show PyData.depthAll (rowD l :: r.map rowD) ≤ 1
    simp only [PyData.depthAll, rowD, PyData.depth, depth_ints]
    omega
theorem datP_rows (a : List (List Int)) : datP (Lx (Tx .int) a) = some (.list (a.map rowD)) := by
  have e : toD (Lx (Tx .int) a) = some (.list (a.map rowD)) := by
    show (toDs (a.map (Tx PV.int))).map PyData.list = _
    rw [toDs_rows]
    rfl
  unfold datP
  rw [e]
  refine if_pos ?_
  have := depth_rows a
  have h2 : (PyData.list (a.map rowD)).depth ≤ 64 := by
    simp only [PyData.depth]
    omega
  unfold SeqAt.shaped
  rw [decide_eq_true h2, Bool.and_true]
  simp only [PyData.canLay0, canLay_rows]
theorem eqv_rows : ∀ a b : List (List Int), PyData.eqvAll (a.map rowD) (b.map rowD) = decide (a = b)
  | [], [] => by simp [PyData.eqvAll]
  | [], _ :: _ => by simp [PyData.eqvAll]
  | _ :: _, [] => by simp [PyData.eqvAll]
  | x :: a, y :: b => by
    show PyData.eqvAll (rowD x :: a.map rowD) (rowD y :: b.map rowD) = _
    simp only [PyData.eqvAll, rowD, PyData.eqv, eqv_ints]
    have ih := eqv_rows a b
    rw [ih]
    by_cases h : x = y
    · by_cases h2 : a = b
      · simp [h, h2]
      · simp [h, h2]
    · simp [h]
theorem eq_rows {a b : List (List Int)} : eqF (Lx (Tx .int) a) (Lx (Tx .int) b) = some (decide (a = b)) := by
  unfold eqF
  rw [datP_rows, datP_rows]
  show some (PyData.eqv (.list _) (.list _)) = _
  simp only [PyData.eqv, eqv_rows]
theorem ne_rows {a b : List (List Int)} : neF (Lx (Tx .int) a) (Lx (Tx .int) b) = some (!decide (a = b)) := by
  unfold neF
  rw [eq_rows]
  rfl
theorem notIn_rows {x : List Int} {a : List (List Int)} : notInF (Tx .int x) (Lx (Tx .int) a) = some (!decide (x ∈ a)) := by
  unfold notInF inF
  have e : datP (Tx .int x) = some (.tuple (x.map .int)) := datP_tup x
  show (match datP (Tx .int x), datP (Lx (Tx .int) a) with | some d, some (.list ds) => some (ds.any fun z => PyData.eqv z d) | _, _ => none).map (!·) = _
  rw [e, datP_rows]
  show some (!((a.map rowD).any fun z => PyData.eqv z (.tuple (x.map .int)))) = _
  congr 2
  rw [List.any_map, Bool.eq_iff_iff, List.any_eq_true, decide_eq_true_eq]
  constructor
  · rintro ⟨y, hy, h⟩
    have h : PyData.eqv (rowD y) (.tuple (x.map .int)) = true := h
    simp only [rowD, PyData.eqv, eqv_ints, decide_eq_true_eq] at h
    exact h ▸ hy
  · intro h
    exact ⟨x, h, by show PyData.eqv (rowD x) (.tuple (x.map .int)) = true; simp [rowD, PyData.eqv, eqv_ints]⟩
end
end BL
/-! B, the plain side: what the functions of rows one round before compute. -/
namespace BL
noncomputable section
open PySem PySem.Spec PyProof.Rows L2
/-- 1 where the next person of the sequence has a greater place -/
def riB (s : List Int) (i : Nat) : Bool := decide (i + 1 < s.length) && decide (s.getD i 0 < s.getD (i + 1) 0)
def upI (s : List Int) (i : Nat) : Int := if riB s i = true then 1 else 0
theorem upI_rng (s : List Int) (i : Nat) : upI s i = 0 ∨ upI s i = 1 := by
  unfold upI
  split
  · exact .inr rfl
  · exact .inl rfl
/-- a row of the table, from its last mark down -/
def hrB (up : Int) (later : List Int) (n : Nat) (m : Nat) : Nat → List Int
  | 0 => List.replicate (n + 2) 0
  | k + 1 => (hrB up later n m k).set (m - k) ((hrB up later n m k).getD (m - k + 1) 0 + later.getD ((m - k : Nat) + up).toNat 0)
theorem hrB_length (up : Int) (later : List Int) (n m : Nat) : ∀ k, (hrB up later n m k).length = n + 2
  | 0 => by unfold hrB; simp
  | k + 1 => by unfold hrB; rw [List.length_set, hrB_length up later n m k]
/-- the rows from the last index down: the last one, all -/
def wyB (s : List Int) : Nat → List Int × List (List Int)
  | 0 => (List.replicate (s.length + 2) 1, [])
  | k + 1 => let h := hrB (upI s (s.length - 1 - k)) (wyB s k).1 s.length (s.getD (s.length - 1 - k) 0).toNat ((s.getD (s.length - 1 - k) 0).toNat + 1)
    (h, h :: (wyB s k).2)
def wayT (s : List Int) : List (List Int) := (wyB s s.length).2
theorem wyB_len (s : List Int) : ∀ k, (wyB s k).1.length = s.length + 2 ∧ (wyB s k).2.length = k ∧ ∀ r ∈ (wyB s k).2, r.length = s.length + 2
  | 0 => ⟨by unfold wyB; simp, rfl, fun r h => by cases h⟩
  | k + 1 => by
    obtain ⟨h1, h2, h3⟩ := wyB_len s k
    unfold wyB
    refine ⟨hrB_length .., by simp [h2], fun r hr => ?_⟩
    rcases List.mem_cons.mp hr with rfl | hr
    · exact hrB_length ..
    · exact h3 r hr
theorem wayT_len (s : List Int) : (wayT s).length = s.length ∧ ∀ r ∈ wayT s, r.length = s.length + 2 := ⟨(wyB_len s _).2.1, (wyB_len s _).2.2⟩
/-! ### what the functions answer, of a code -/
def sqL (c : List Int) : List Int := seqB c c.length
def hasB (c : List Int) : Bool := ((leastM (sqL c)).zipIdx.map fun z => decide (z.1 ≤ (z.2 : Int))).all id
def cntB (c : List Int) : Int := gx (gx (wayT (sqL c)) 0) 0
/-- the number up to a place; the least mark there -/
def nbB (c s : List Int) (t : List (List Int)) : Nat → Int × Int
  | 0 => (0, 0)
  | k + 1 => let p := nbB c s t k
    (p.1 + (gx (t.getD k []) p.2 - gx (t.getD k []) (gx c (s.getD k 0))), gx c (s.getD k 0) + upI s k)
def numB (c : List Int) : Int := (nbB c (sqL (roundL c)) (wayT (sqL (roundL c))) c.length).1
/-- one person's mark: the number that is left, the mark -/
def stB (row : List Int) : Nat → Int → Int → Option (Int × Int)
  | 0, _, _ => none
  | f + 1, num, m => if gx row m - gx row (m + 1) ≤ num then (if m + 2 < row.length then stB row f (num - (gx row m - gx row (m + 1))) (m + 1) else none) else if m + 1 < row.length then some (num, m) else none
def ntB (s : List Int) (t : List (List Int)) (num : Int) : Nat → Option (Int × Int × List Int)
  | 0 => some (num, 0, List.replicate s.length 0)
  | k + 1 => (ntB s t num k).bind fun p => (stB (t.getD k []) 100 p.1 p.2.1).map fun q => (q.1, q.2 + upI s k, p.2.2.set (s.getD k 0).toNat q.2)
def nthB (c : List Int) (num : Int) : Option (List Int) := (ntB (sqL c) (wayT (sqL c)) num c.length).map fun p => p.2.2
theorem stB_in {row : List Int} {f : Nat} {num m : Int} {q : Int × Int} (h : stB row (f + 1) num m = some q) : m + 1 < row.length ∧
    ((gx row m - gx row (m + 1) ≤ num ∧ stB row f (num - (gx row m - gx row (m + 1))) (m + 1) = some q) ∨ (¬ gx row m - gx row (m + 1) ≤ num ∧ q = (num, m))) := by
  unfold stB at h
  split at h
  · rename_i h1
    split at h
    · rename_i h2
      exact ⟨by omega, .inl ⟨h1, h⟩⟩
    · cases h
  · rename_i h1
    split at h
    · rename_i h2
      cases h
      exact ⟨h2, .inr ⟨h1, rfl⟩⟩
    · cases h
theorem ntB_pre {s : List Int} {t : List (List Int)} {num : Int} {k : Nat} {p : Int × Int × List Int} (h : ntB s t num (k + 1) = some p) : ∃ p0, ntB s t num k = some p0 ∧ ∃ q, stB (t.getD k []) 100 p0.1 p0.2.1 = some q ∧ p = (q.1, q.2 + upI s k, p0.2.2.set (s.getD k 0).toNat q.2) := by
  unfold ntB at h
  obtain ⟨p0, h1, h⟩ := Option.bind_eq_some_iff.mp h
  obtain ⟨q, h2, h⟩ := Option.map_eq_some_iff.mp h
  exact ⟨p0, h1, q, h2, h.symm⟩
theorem ntB_all {s : List Int} {t : List (List Int)} {num : Int} {n : Nat} {p : Int × Int × List Int} (h : ntB s t num n = some p) : ∀ k, k ≤ n → ∃ p0, ntB s t num k = some p0 := by
  induction n generalizing p with
  | zero => exact fun k hk => ⟨p, by rw [show k = 0 by omega]; exact h⟩
  | succ n ih =>
    intro k hk
    by_cases e : k = n + 1
    · exact ⟨p, by rw [e]; exact h⟩
    · obtain ⟨p0, h0, _⟩ := ntB_pre h
      exact ih h0 k (by omega)
/-! ### the lots -/
def lotS (kvs : List (List Int × List (List Int))) (l : List Int) : List (List Int × List (List Int)) := dsetT (roundL l) ((lkT (roundL l) kvs).getD [] ++ [l]) kvs
def lotsL (ls : List (List Int)) : List (List Int × List (List Int)) := ls.foldl lotS []
theorem lotsL_take {ls : List (List Int)} {i : Nat} (h : i < ls.length) : lotsL (ls.take (i + 1)) = lotS (lotsL (ls.take i)) ls[i] := by
  unfold lotsL
  rw [List.take_succ, List.getElem?_eq_getElem h, List.foldl_append]
  rfl
theorem lotsL_len (ls : List (List Int)) : (lotsL ls).length ≤ ls.length := by
  have key : ∀ (ls : List (List Int)) (acc : List (List Int × List (List Int))), (ls.foldl lotS acc).length ≤ acc.length + ls.length := by
    intro ls
    induction ls with
    | nil => intro acc; exact Nat.le_refl _
    | cons l ls ih =>
      intro acc
      have h1 := ih (lotS acc l)
      have h2 := dsetT_length (roundL l) ((lkT (roundL l) acc).getD [] ++ [l]) acc
      rw [List.foldl_cons, List.length_cons]
      unfold lotS at h1 ⊢
      omega
  have h := key ls []
  rw [List.length_nil, Nat.zero_add] at h
  exact h
def linesL (many : Nat) : Nat → List (List Int)
  | 0 => [[]]
  | n + 1 => (linesL many n).flatMap fun r => (rgI 0 many).map fun m => r ++ [m]
def dueL (c : List Int) (lot : List (List Int)) : List (List Int) := (sortK (lot.map fun row => ((sqL c).map (gx row), row))).map (·.2)
def okC (c : List Int) (lot : List (List Int)) : Bool :=
  decide (cntB c = (dueL c lot).length) && decide (hasB c = !(dueL c lot).isEmpty) && ((List.range (dueL c lot).length).all fun i => decide (nthB c i = some ((dueL c lot).getD i []))) &&
    (lot.all fun row => decide (row.length = c.length) && (row.zipIdx.all fun z => decide (0 ≤ z.1) && decide (z.1 ≤ (z.2 : Int)))) && decide ((dueL c lot).map numB = rgI 0 (dueL c lot).length) && decide (lot.length ≤ 200)
def ck1 (n : Nat) : Bool := (rowsL n).all fun c => okC c ((lkT c (lotsL (rowsL n))).getD [])
/-- the least line of a lot, place by place -/
def mnB (lot : List (List Int)) (n : Nat) : List Int := (rgI 0 n).map fun p => mnL (lot.map fun l => gx l p)
def ok2 (n : Nat) (c : List Int) : Bool := match lkT c (lotsL (linesL n n)) with
  | none => false
  | some lot => decide (0 < lot.length) && decide (mnB lot n = leastM (sqL c)) && decide (leastM (sqL c) ∈ lot) && (lot.all fun l => decide (l.length = n)) && decide (lot.length ≤ 300) && ((leastM (sqL c)).all fun x => decide (0 ≤ x) && decide (x < 100))
def ck2 (n : Nat) : Bool := (rowsL n).all fun c => ok2 n c
end
end BL
namespace LK33
noncomputable section
open PySem PySem.Spec PyProof.Rows L2 BL
/-! ### mirrors -/
def a_is_int : M Fl :=
  (mRet (mAndV (mIsT "int" (mVar 0)) (mNotV (mIsT "bool" (mVar 0)))))
def m_is_int : M Fl := a_is_int
def F_is_int : Fn := mkFn 1 1 m_is_int
def a_next_row : M Fl :=
  (mRet (mBlt tupF (mConsA (mLc (itEnum (mVar 0)) [1, 2] (tgT [1, 2]) mYes (mBlt lenF (mConsA (mLc (itSeq (mSl slF (mVar 0) mNoPart (mPart (mVar 1)))) [3] (tgN 3) (mTst (cmpI ltI) (mVar 3) (mVar 2)) (mVal (.int 1))) mNilA))) mNilA)))
def m_next_row : M Fl := a_next_row
def F_next_row : Fn := mkFn 1 4 m_next_row
def b_sequence_of_1 : M Fl :=
  (mNext (mMethT "list" (mutV insertF) (mVar 1) (mConsA (mFrz (mVar 3)) (mConsA (mFrz (mVar 2)) mNilA))))
def a_sequence_of : M Fl :=
  (mSeq (mSet 1 (mLst mNilA))
  (mSeq (mFor (itEnum (mVar 0)) (tgT [2, 3]) b_sequence_of_1)
  (mRet (mVar 1))))
def m_sequence_of : M Fl := a_sequence_of
def F_sequence_of : Fn := mkFn 1 4 m_sequence_of
def b_least_marks_1 : M Fl :=
  (mSetIx setF (mBin addF (mBin ixF (mVar 1) (mVar 2)) (mBlt intF (mConsA (mBin (asV (cmpI gtI)) (mVar 3) (mVar 2)) mNilA))) (mVar 1) (mVar 3))
def a_least_marks : M Fl :=
  (mSeq (mSet 1 (mBin mulF (mLst (mConsA (mVal (.int 0)) mNilA)) (mBlt lenF (mConsA (mVar 0) mNilA))))
  (mSeq (mFor (itZipM (mVar 0) (mSl slF (mVar 0) (mPart (mVal (.int 1))) mNoPart)) (tgT [2, 3]) b_least_marks_1)
  (mRet (mBlt tupF (mConsA (mVar 1) mNilA)))))
def m_least_marks : M Fl := a_least_marks
def F_least_marks : Fn := mkFn 1 4 m_least_marks
def a_is_rise : M Fl :=
  (mRet (mAndV (mBin (asV (cmpI ltI)) (mBin addF (mVar 1) (mVal (.int 1))) (mBlt lenF (mConsA (mVar 0) mNilA))) (mBin (asV (cmpI gtI)) (mBin ixF (mVar 0) (mBin addF (mVar 1) (mVal (.int 1)))) (mBin ixF (mVar 0) (mVar 1)))))
def m_is_rise : M Fl := a_is_rise
def F_is_rise : Fn := mkFn 2 2 m_is_rise
def a__law_round : M Fl :=
  (mRet (mBlt tupF (mConsA (mLc (itEnum (mVar 0)) [1, 2] (tgT [1, 2]) mYes (mBlt lenF (mConsA (mLc (itSeq (mSl slF (mVar 0) mNoPart (mPart (mVar 1)))) [3] (tgN 3) (mTst (cmpI ltI) (mVar 3) (mVar 2)) (mFrz (mVar 3))) mNilA))) mNilA)))
def m__law_round : M Fl := a__law_round
def F__law_round : Fn := mkFn 1 4 m__law_round
def b__law_all_lines_1 : M Fl :=
  (mNext (mMethT "list" (mutO extendF) (mVar 4) (mConsA (mLc (itRng rng1F (mConsA (mVar 1) mNilA)) [6] (tgN 6) mYes (mFrz (mBin addF (mVar 5) (mTup (mConsA (mFrz (mVar 6)) mNilA))))) mNilA)))
def b__law_all_lines_2 : M Fl :=
  (mSeq (mSet 4 (mLst mNilA))
  (mSeq (mFor (itSeq (mVar 2)) (tgN 5) b__law_all_lines_1)
  (mSet 2 (mVar 4))))
def a__law_all_lines : M Fl :=
  (mSeq (mSet 2 (mLst (mConsA (mTup mNilA) mNilA)))
  (mSeq (mFor (itRng rng1F (mConsA (mVar 0) mNilA)) (tgN 3) b__law_all_lines_2)
  (mRet (mVar 2))))
def m__law_all_lines : M Fl := a__law_all_lines
def F__law_all_lines : Fn := mkFn 2 7 m__law_all_lines
def b__law_sequence_1 : M Fl :=
  (mNext (mMethT "list" (mutV insertF) (mVar 1) (mConsA (mFrz (mVar 3)) (mConsA (mFrz (mVar 2)) mNilA))))
def a__law_sequence : M Fl :=
  (mSeq (mSet 1 (mLst mNilA))
  (mSeq (mFor (itEnum (mVar 0)) (tgT [2, 3]) b__law_sequence_1)
  (mRet (mVar 1))))
def m__law_sequence : M Fl := a__law_sequence
def F__law_sequence : Fn := mkFn 1 4 m__law_sequence
def b__law_codes_1 : M Fl :=
  (mNext (mMethT "list" (mutO extendF) (mVar 3) (mConsA (mLc (itRng rng1F (mConsA (mBin addF (mVar 2) (mVal (.int 1))) mNilA)) [5] (tgN 5) mYes (mFrz (mBin addF (mVar 4) (mTup (mConsA (mFrz (mVar 5)) mNilA))))) mNilA)))
def b__law_codes_2 : M Fl :=
  (mSeq (mSet 3 (mLst mNilA))
  (mSeq (mFor (itSeq (mVar 1)) (tgN 4) b__law_codes_1)
  (mSet 1 (mVar 3))))
def a__law_codes : M Fl :=
  (mSeq (mSet 1 (mLst (mConsA (mTup mNilA) mNilA)))
  (mSeq (mFor (itRng rng1F (mConsA (mVar 0) mNilA)) (tgN 2) b__law_codes_2)
  (mRet (mVar 1))))
def m__law_codes : M Fl := a__law_codes
def F__law_codes : Fn := mkFn 1 6 m__law_codes
def a_in_range (F_is_int : Fn) : M Fl :=
  (mRet (mAndV (mCall F_is_int (mConsA (mFrz (mVar 0)) mNilA)) (mBoolV (mChain (cmpI leI) (cmpI leI) (mVar 1) (mVar 0) (mVar 2)))))
def m_in_range : M Fl := a_in_range F_is_int
def F_in_range : Fn := mkFn 3 3 m_in_range
def b_ways_on_1 (F_is_rise : Fn) : M Fl :=
  (mSetIx setF (mBin addF (mBin ixF (mVar 4) (mBin addF (mVar 5) (mVal (.int 1)))) (mBin ixF (mVar 1) (mBin addF (mVar 5) (mBlt intF (mConsA (mCall F_is_rise (mConsA (mFrz (mVar 0)) (mConsA (mFrz (mVar 3)) mNilA))) mNilA))))) (mVar 4) (mVar 5))
def b_ways_on_2 (F_is_rise : Fn) : M Fl :=
  (mSeq (mSet 4 (mBin mulF (mLst (mConsA (mVal (.int 0)) mNilA)) (mBin addF (mBlt lenF (mConsA (mVar 0) mNilA)) (mVal (.int 2)))))
  (mSeq (mFor (itRev1 (mBin addF (mBin ixF (mVar 0) (mVar 3)) (mVal (.int 1)))) (tgN 5) (b_ways_on_1 F_is_rise))
  (mSeq (mNext (mMethT "list" (mutV insertF) (mVar 2) (mConsA (mVal (.int 0)) (mConsA (mFrz (mVar 4)) mNilA))))
  (mSet 1 (mVar 4)))))
def a_ways_on (F_is_rise : Fn) : M Fl :=
  (mSeq (mSet 1 (mBin mulF (mLst (mConsA (mVal (.int 1)) mNilA)) (mBin addF (mBlt lenF (mConsA (mVar 0) mNilA)) (mVal (.int 2)))))
  (mSeq (mSet 2 (mLst mNilA))
  (mSeq (mFor (itRev1 (mBlt lenF (mConsA (mVar 0) mNilA))) (tgN 3) (b_ways_on_2 F_is_rise))
  (mRet (mVar 2)))))
def m_ways_on : M Fl := a_ways_on F_is_rise
def F_ways_on : Fn := mkFn 1 6 m_ways_on
def b__law_lots_1 (F__law_round : Fn) : M Fl :=
  (mSeq (mSet 3 (mCall F__law_round (mConsA (mFrz (mVar 2)) mNilA)))
  (mSetIx setTF (mBin addF (mMethT "dict" (seeV getTF) (mVar 1) (mConsA (mFrz (mVar 3)) (mConsA (mFrz (mLst mNilA)) mNilA))) (mLst (mConsA (mFrz (mVar 2)) mNilA))) (mVar 1) (mVar 3)))
def a__law_lots (F__law_round : Fn) : M Fl :=
  (mSeq (mSet 1 mDict0)
  (mSeq (mFor (itSeq (mVar 0)) (tgN 2) (b__law_lots_1 F__law_round))
  (mRet (mVar 1))))
def m__law_lots : M Fl := a__law_lots F__law_round
def F__law_lots : Fn := mkFn 1 4 m__law_lots
def a_is_mark (F_in_range : Fn) : M Fl :=
  (mRet (mCall F_in_range (mConsA (mFrz (mVar 0)) (mConsA (mUn negF (mVal (.int 1000000000000000000000000000000))) (mConsA (mVal (.int 1000000000000000000000000000000)) mNilA)))))
def m_is_mark : M Fl := a_is_mark F_in_range
def F_is_mark : Fn := mkFn 1 1 m_is_mark
def a_is_line (F_is_mark : Fn) : M Fl :=
  (mSeq (mIfS (mOrT (mNotT (mTruth (mIsT "tuple" (mVar 0)))) (mNotT (mChain (cmpI leI) (cmpI leI) (mVal (.int 1)) (mBlt lenF (mConsA (mVar 0) mNilA)) (mVal (.int 60))))) (mRet (mVal (.bl false))) (M.pure .next))
  (mRet (mBlt allF (mConsA (mLc (itSeq (mVar 0)) [1] (tgN 1) mYes (mFrz (mCall F_is_mark (mConsA (mFrz (mVar 1)) mNilA)))) mNilA))))
def m_is_line : M Fl := a_is_line F_is_mark
def F_is_line : Fn := mkFn 1 2 m_is_line
def a_is_code (F_is_line : Fn) : M Fl :=
  (mRet (mAndV (mCall F_is_line (mConsA (mFrz (mVar 0)) mNilA)) (mBlt allF (mConsA (mLc (itEnum (mVar 0)) [1, 2] (tgT [1, 2]) mYes (mBoolV (mChain (cmpI leI) (cmpI leI) (mVal (.int 0)) (mVar 2) (mVar 1)))) mNilA))))
def m_is_code : M Fl := a_is_code F_is_line
def F_is_code : Fn := mkFn 1 3 m_is_code
def a_require_code (F_is_code : Fn) : M Fl :=
  (mIfS (mNotT (mTruth (mCall F_is_code (mConsA (mFrz (mVar 0)) mNilA)))) M.no (M.pure .next))
def m_require_code : M Fl := a_require_code F_is_code
def F_require_code : Fn := mkFn 1 1 m_require_code
def a_least_before (F_require_code F_least_marks F_sequence_of : Fn) : M Fl :=
  (mSeq (mNext (mCall F_require_code (mConsA (mFrz (mVar 0)) mNilA)))
  (mRet (mCall F_least_marks (mConsA (mFrz (mCall F_sequence_of (mConsA (mFrz (mVar 0)) mNilA))) mNilA))))
def m_least_before : M Fl := a_least_before F_require_code F_least_marks F_sequence_of
def F_least_before : Fn := mkFn 1 1 m_least_before
def a_has_before (F_require_code F_least_marks F_sequence_of : Fn) : M Fl :=
  (mSeq (mNext (mCall F_require_code (mConsA (mFrz (mVar 0)) mNilA)))
  (mRet (mBlt allF (mConsA (mLc (itEnum (mCall F_least_marks (mConsA (mFrz (mCall F_sequence_of (mConsA (mFrz (mVar 0)) mNilA))) mNilA))) [1, 2] (tgT [1, 2]) mYes (mBin (asV (cmpI leI)) (mVar 2) (mVar 1))) mNilA))))
def m_has_before : M Fl := a_has_before F_require_code F_least_marks F_sequence_of
def F_has_before : Fn := mkFn 1 3 m_has_before
def a_count_before (F_require_code F_ways_on F_sequence_of : Fn) : M Fl :=
  (mSeq (mNext (mCall F_require_code (mConsA (mFrz (mVar 0)) mNilA)))
  (mRet (mBin ixF (mBin ixF (mCall F_ways_on (mConsA (mFrz (mCall F_sequence_of (mConsA (mFrz (mVar 0)) mNilA))) mNilA)) (mVal (.int 0))) (mVal (.int 0)))))
def m_count_before : M Fl := a_count_before F_require_code F_ways_on F_sequence_of
def F_count_before : Fn := mkFn 1 1 m_count_before
def b_nth_before_1 : M Fl :=
  (mSeq (mAug subF 1 (mBin subF (mBin ixF (mBin ixF (mVar 3) (mVar 6)) (mVar 5)) (mBin ixF (mBin ixF (mVar 3) (mVar 6)) (mBin addF (mVar 5) (mVal (.int 1))))))
  (mAug iaddF 5 (mVal (.int 1))))
def b_nth_before_2 (F_is_rise : Fn) : M Fl :=
  (mSeq (mWhile (mTst (cmpI geI) (mVar 1) (mBin subF (mBin ixF (mBin ixF (mVar 3) (mVar 6)) (mVar 5)) (mBin ixF (mBin ixF (mVar 3) (mVar 6)) (mBin addF (mVar 5) (mVal (.int 1)))))) b_nth_before_1)
  (mSeq (mSetIx setF (mVar 5) (mVar 4) (mVar 7))
  (mAug iaddF 5 (mBlt intF (mConsA (mCall F_is_rise (mConsA (mFrz (mVar 2)) (mConsA (mFrz (mVar 6)) mNilA))) mNilA)))))
def a_nth_before (F_require_code F_sequence_of F_ways_on F_in_range F_is_rise : Fn) : M Fl :=
  (mSeq (mNext (mCall F_require_code (mConsA (mFrz (mVar 0)) mNilA)))
  (mSeq (mSet 2 (mCall F_sequence_of (mConsA (mFrz (mVar 0)) mNilA)))
  (mSeq (mSet 3 (mCall F_ways_on (mConsA (mFrz (mVar 2)) mNilA)))
  (mSeq (mIfS (mNotT (mTruth (mCall F_in_range (mConsA (mFrz (mVar 1)) (mConsA (mVal (.int 0)) (mConsA (mBin subF (mBin ixF (mBin ixF (mVar 3) (mVal (.int 0))) (mVal (.int 0))) (mVal (.int 1))) mNilA)))))) M.no (M.pure .next))
  (mSeq (mSet 4 (mBin mulF (mLst (mConsA (mVal (.int 0)) mNilA)) (mBlt lenF (mConsA (mVar 2) mNilA))))
  (mSeq (mSet 5 (mVal (.int 0)))
  (mSeq (mFor (itEnum (mVar 2)) (tgT [6, 7]) (b_nth_before_2 F_is_rise))
  (mRet (mBlt tupF (mConsA (mVar 4) mNilA))))))))))
def m_nth_before : M Fl := a_nth_before F_require_code F_sequence_of F_ways_on F_in_range F_is_rise
def F_nth_before : Fn := mkFn 2 8 m_nth_before
def b_number_before_1 (F_is_rise : Fn) : M Fl :=
  (mSeq (mAug iaddF 3 (mBin subF (mBin ixF (mBin ixF (mVar 2) (mVar 5)) (mVar 4)) (mBin ixF (mBin ixF (mVar 2) (mVar 5)) (mBin ixF (mVar 0) (mVar 6)))))
  (mSet 4 (mBin addF (mBin ixF (mVar 0) (mVar 6)) (mBlt intF (mConsA (mCall F_is_rise (mConsA (mFrz (mVar 1)) (mConsA (mFrz (mVar 5)) mNilA))) mNilA)))))
def a_number_before (F_require_code F_sequence_of F_next_row F_ways_on F_is_rise : Fn) : M Fl :=
  (mSeq (mNext (mCall F_require_code (mConsA (mFrz (mVar 0)) mNilA)))
  (mSeq (mSet 1 (mCall F_sequence_of (mConsA (mFrz (mCall F_next_row (mConsA (mFrz (mVar 0)) mNilA))) mNilA)))
  (mSeq (mSet 2 (mCall F_ways_on (mConsA (mFrz (mVar 1)) mNilA)))
  (mSeq (mSetT (tgT [3, 4]) (mTup (mConsA (mVal (.int 0)) (mConsA (mVal (.int 0)) mNilA))))
  (mSeq (mFor (itEnum (mVar 1)) (tgT [5, 6]) (b_number_before_1 F_is_rise))
  (mRet (mVar 3)))))))
def m_number_before : M Fl := a_number_before F_require_code F_sequence_of F_next_row F_ways_on F_is_rise
def F_number_before : Fn := mkFn 1 7 m_number_before
def b__law_code_right_1 (F_count_before F_has_before F_nth_before : Fn) : M Fl :=
  (mSeq (mIfS (mTst neF (mBlt reprLF (mConsA (mCall F_count_before (mConsA (mFrz (mVar 0)) mNilA)) (mConsA (mCall F_has_before (mConsA (mFrz (mVar 0)) mNilA)) mNilA))) (mBlt reprLF (mConsA (mBlt lenF (mConsA (mVar 4) mNilA)) (mConsA (mBin (asV neF) (mVar 4) (mLst mNilA)) mNilA)))) (mRet (mVal (.bl false))) (M.pure .next))
  (mIfS (mTst neF (mBlt reprF (mConsA (mLc (itRng rng1F (mConsA (mBlt lenF (mConsA (mVar 4) mNilA)) mNilA)) [9] (tgN 9) mYes (mFrz (mCall F_nth_before (mConsA (mFrz (mVar 0)) (mConsA (mFrz (mVar 9)) mNilA))))) mNilA)) (mBlt reprF (mConsA (mVar 4) mNilA))) (mRet (mVal (.bl false))) (M.pure .next)))
def a__law_code_right (F__law_sequence F_count_before F_has_before F_nth_before F_number_before : Fn) : M Fl :=
  (mSeq (mSetT (tgT [2, 3]) (mTup (mConsA (mBlt reprF (mConsA (mVar 0) mNilA)) (mConsA (mFrz (mCall F__law_sequence (mConsA (mFrz (mVar 0)) mNilA))) mNilA))))
  (mSeq (mSet 4 (mLc (itSeq (mBlt sortedKF (mConsA (mLc (itSeq (mVar 1)) [7] (tgN 7) mYes (mTup (mConsA (mFrz (mLc (itSeq (mVar 3)) [8] (tgN 8) mYes (mBin ixF (mVar 7) (mVar 8)))) (mConsA (mFrz (mVar 7)) mNilA)))) mNilA))) [6, 7] (tgT [6, 7]) mYes (mFrz (mVar 7))))
  (mSeq (mFor (itRng rng1F (mConsA (mVal (.int 2)) mNilA)) (tgN 5) (b__law_code_right_1 F_count_before F_has_before F_nth_before))
  (mRet (mAndV (mBin (asV eqF) (mLc (itSeq (mVar 4)) [7] (tgN 7) mYes (mFrz (mCall F_number_before (mConsA (mFrz (mVar 7)) mNilA)))) (mUn (rgF1 kL) (mBlt lenF (mConsA (mVar 4) mNilA)))) (mBin (asV eqF) (mBlt reprF (mConsA (mVar 0) mNilA)) (mVar 2)))))))
def m__law_code_right : M Fl := a__law_code_right F__law_sequence F_count_before F_has_before F_nth_before F_number_before
def F__law_code_right : Fn := mkFn 2 10 m__law_code_right
def b_law_1 (F__law_codes F__law_lots F__law_code_right : Fn) : M Fl :=
  (mSeq (mSet 2 (mCall F__law_codes (mConsA (mFrz (mVar 1)) mNilA)))
  (mSeq (mSet 3 (mCall F__law_lots (mConsA (mFrz (mVar 2)) mNilA)))
  (mIfS (mTst neF (mLc (itSeq (mVar 2)) [4] (tgN 4) (mNotT (mTruth (mCall F__law_code_right (mConsA (mFrz (mVar 4)) (mConsA (mFrz (mMethT "dict" (seeV getTF) (mVar 3) (mConsA (mFrz (mVar 4)) (mConsA (mFrz (mLst mNilA)) mNilA)))) mNilA))))) (mFrz (mVar 4))) (mLst mNilA)) (mRet (mVal (.bl false))) (M.pure .next))))
def b_law_2 (F_least_before : Fn) : M Fl :=
  (mSeq (mSet 5 (mBlt tupF (mConsA (mLc (itRng rng1F (mConsA (mVar 1) mNilA)) [6] (tgN 6) mYes (mBlt minF (mConsA (mLc (itSeq (mBin ixTF (mVar 3) (mVar 4))) [7] (tgN 7) mYes (mBin ixF (mVar 7) (mVar 6))) mNilA))) mNilA)))
  (mIfS (mOrT (mTst neF (mBlt reprLF (mConsA (mCall F_least_before (mConsA (mFrz (mVar 4)) mNilA)) (mConsA (mCall F_least_before (mConsA (mFrz (mVar 4)) mNilA)) mNilA))) (mBlt reprLF (mConsA (mVar 5) (mConsA (mVar 5) mNilA)))) (mTst notInF (mVar 5) (mBin ixTF (mVar 3) (mVar 4)))) (mRet (mVal (.bl false))) (M.pure .next)))
def b_law_3 (F__law_lots F__law_all_lines F__law_codes F_least_before : Fn) : M Fl :=
  (mSeq (mSet 3 (mCall F__law_lots (mConsA (mFrz (mCall F__law_all_lines (mConsA (mFrz (mVar 1)) (mConsA (mFrz (mVar 1)) mNilA)))) mNilA)))
  (mFor (itSeq (mCall F__law_codes (mConsA (mFrz (mVar 1)) mNilA))) (tgN 4) (b_law_2 F_least_before)))
def a_law (F__law_codes F__law_lots F__law_code_right F__law_all_lines F_least_before F_has_before : Fn) : M Fl :=
  (mSeq (mFor (itRng rng2F (mConsA (mVal (.int 1)) (mConsA (mVal (.int 6)) mNilA))) (tgN 1) (b_law_1 F__law_codes F__law_lots F__law_code_right))
  (mSeq (mFor (itRng rng2F (mConsA (mVal (.int 1)) (mConsA (mVal (.int 5)) mNilA))) (tgN 1) (b_law_3 F__law_lots F__law_all_lines F__law_codes F_least_before))
  (mRet (mAndV (mBin (asV eqF) (mCall F_least_before (mConsA (mTup (mConsA (mVal (.int 0)) (mConsA (mVal (.int 0)) (mConsA (mVal (.int 1)) mNilA)))) mNilA)) (mTup (mConsA (mVal (.int 1)) (mConsA (mVal (.int 0)) (mConsA (mVal (.int 1)) mNilA))))) (mNotV (mCall F_has_before (mConsA (mTup (mConsA (mVal (.int 0)) (mConsA (mVal (.int 0)) (mConsA (mVal (.int 1)) mNilA)))) mNilA)))))))
def m_law : M Fl := a_law F__law_codes F__law_lots F__law_code_right F__law_all_lines F_least_before F_has_before
def F_law : Fn := mkFn 1 8 m_law
end
end LK33
namespace LK33
noncomputable section
open PySem PySem.Spec PyProof.Rows L2 BL
def top (i : Nat) : Stmt := PySem.Challenge.pw_countahead_k33_rows_one_round_before.main.body.getD i (.Pass ⟨0, 0, 0, 0⟩)
abbrev FnPk (K : PySem.W.Frag) (x : Str) (st : Stmt) (kws : List (Str × V)) (f : Addr) (fd : FuncData) : Prop := FunD K x x (defArgs st) (defBody st) (defScope st) [] kws f fd
abbrev FnP (K : PySem.W.Frag) (x : Str) (st : Stmt) (f : Addr) (fd : FuncData) : Prop := FunD K x x (defArgs st) (defBody st) (defScope st) [] [] f fd
/-! ### promises -/
section
variable {P : Program} {w : World} {K : PySem.W.Frag} {mg : Str → Option Value} {base : Heap} {cl : List Addr} {f : Addr} {fd : FuncData}
abbrev s_is_int : Stmt := top 7
abbrev n_is_int : List Str := ["value"]
theorem sc_is_int : FnScope n_is_int ["value"] (defScope s_is_int) := ⟨rfl, rfl, rfl, by decide +kernel, rfl, by decide +kernel, by decide +kernel⟩
theorem ok_is_int (D : FnPk K "is_int" s_is_int [] f fd) (g_isinstance : mg "isinstance" = none) (g_int : mg "int" = none) (g_bool : mg "bool" = none) : FnG P w K mg base (L2.CX P w) 1 f fd ["value"] (spF ⟨K, cl⟩ 1 F_is_int) := by
  refine fn_okC (k := 0) (N := n_is_int) (m := m_is_int) D sc_is_int rfl fun cdv A outer s H E W hr hG tk hp => ?_
  delta m_is_int a_is_int
  exact (bs_one (bs_ret (be_and (be_isT (by rfl) (by rfl) g_isinstance (by rfl) g_int (by rfl) (be_var (pv 0))) (be_one (be_not (be_isT (by rfl) (by rfl) g_isinstance (by rfl) g_bool (by rfl) (be_var (pv 0))))))))
abbrev s_next_row : Stmt := top 12
abbrev n_next_row : List Str := ["line", "place", "mark", "other"]
theorem sc_next_row : FnScope n_next_row ["line"] (defScope s_next_row) := ⟨rfl, rfl, rfl, by decide +kernel, rfl, by decide +kernel, by decide +kernel⟩
theorem ok_next_row (D : FnPk K "next_row" s_next_row [] f fd) (g_enumerate : mg "enumerate" = none) (g_len : mg "len" = none) (g_tuple : mg "tuple" = none) : FnG P w K mg base (L2.CX P w) 1 f fd ["line"] (spF ⟨K, cl⟩ 1 F_next_row) := by
  refine fn_okC (k := 0) (N := n_next_row) (m := m_next_row) D sc_next_row rfl fun cdv A outer s H E W hr hG tk hp => ?_
  delta m_next_row a_next_row
  exact (bs_one (bs_ret (be_blty call_tuple_of ok_tup (by rfl) g_tuple (by rfl) (ba_cons (be_lc rfl sc_next_row.nd (bi_enum (by rfl) (by rfl) g_enumerate (be_var (pv 0))) (blkOk_by (N := n_next_row) (sc := defScope s_next_row) (own := [("place", 1), ("mark", 2)]) (by decide +kernel)) rfl (okw_tup (is := [1, 2]) (by decide)) (fun _ _ _ _ _ => (pg_tup rfl (pgs_cons (pg_name (i := 1) sc_next_row.nd rfl (by first | exact Or.inl rfl | exact Or.inr rfl)) (pgs_cons (pg_name (i := 2) sc_next_row.nd rfl (by first | exact Or.inl rfl | exact Or.inr rfl)) pgs_nil)))) (fun _ _ _ _ _ => bts_nil) (fun _ _ _ _ _ => (be_blt call_lenB ok_len (by rfl) g_len (by rfl) (ba_cons (be_lc rfl sc_next_row.nd (bi_any (by rfl) (be_sl sl_B ok_sl (be_var (pv 0)) bo_none (bo_some (be_var (pv 1))))) (blkOk_by (own := [("other", 3)]) (by rfl)) rfl (okw_name (by decide)) (fun _ _ _ _ _ => (pg_name (i := 3) sc_next_row.nd rfl (by first | exact Or.inl rfl | exact Or.inr rfl))) (fun _ _ _ _ _ => (bts_one (bt_cmp op_lt (ok_cmpI ltI) (be_var (pv 3)) (be_var (pv 2)) (nomark _)))) (fun _ _ _ _ _ => be_int)) ba_nil)))) ba_nil))))
abbrev s_sequence_of : Stmt := top 15
abbrev n_sequence_of : List Str := ["code", "found", "person", "mark"]
theorem sc_sequence_of : FnScope n_sequence_of ["code"] (defScope s_sequence_of) := ⟨rfl, rfl, rfl, by decide +kernel, rfl, by decide +kernel, by decide +kernel⟩
theorem ok_sequence_of (D : FnPk K "sequence_of" s_sequence_of [] f fd) (g_enumerate : mg "enumerate" = none) : FnG P w K mg base (L2.CX P w) 1 f fd ["code"] (spF ⟨K, cl⟩ 1 F_sequence_of) := by
  refine fn_okC (k := 0) (N := n_sequence_of) (m := m_sequence_of) D sc_sequence_of rfl fun cdv A outer s H E W hr hG tk hp => ?_
  delta m_sequence_of a_sequence_of
  delta b_sequence_of_1
  exact (bs_cons (bs_set (i := 1) sc_sequence_of.nd rfl (by first | exact Or.inl rfl | exact Or.inr rfl) (be_lst ba_nil))
  (bs_cons (bs_for hp rfl (bi_enum (by rfl) (by rfl) g_enumerate (be_var (pv 0))) (pg_tup rfl (pgs_cons (pg_name (i := 2) sc_sequence_of.nd rfl (by first | exact Or.inl rfl | exact Or.inr rfl)) (pgs_cons (pg_name (i := 3) sc_sequence_of.nd rfl (by first | exact Or.inl rfl | exact Or.inr rfl)) pgs_nil))) (okg_tup (is := [2, 3])) (bs_one (bs_expr (be_meth PySem.F.plainAttrs_list PySem.F.slot_list_insert rfl rfl mt_insert (mt_coreV core_insert) (by decide) (be_var (pv 1)) (ba_cons (be_frz (be_var (pv 3))) (ba_cons (be_frz (be_var (pv 2))) ba_nil))))))
  (bs_one (bs_ret (be_var (pv 1))))))
abbrev s_least_marks : Stmt := top 17
abbrev n_least_marks : List Str := ["sequence", "found", "person", "later"]
theorem sc_least_marks : FnScope n_least_marks ["sequence"] (defScope s_least_marks) := ⟨rfl, rfl, rfl, by decide +kernel, rfl, by decide +kernel, by decide +kernel⟩
theorem ok_least_marks (D : FnPk K "least_marks" s_least_marks [] f fd) (g_len : mg "len" = none) (g_zip : mg "zip" = none) (g_int : mg "int" = none) (g_tuple : mg "tuple" = none) : FnG P w K mg base (L2.CX P w) 1 f fd ["sequence"] (spF ⟨K, cl⟩ 1 F_least_marks) := by
  refine fn_okC (k := 0) (N := n_least_marks) (m := m_least_marks) D sc_least_marks rfl fun cdv A outer s H E W hr hG tk hp => ?_
  delta m_least_marks a_least_marks
  delta b_least_marks_1
  exact (bs_cons (bs_set (i := 1) sc_least_marks.nd rfl (by first | exact Or.inl rfl | exact Or.inr rfl) (be_bin op_mulB ok_mul (be_lst (ba_cons be_int ba_nil)) (be_blt call_lenB ok_len (by rfl) g_len (by rfl) (ba_cons (be_var (pv 0)) ba_nil))))
  (bs_cons (bs_for hp rfl (bi_zipM (by rfl) (by rfl) g_zip (be_var (pv 0)) (be_sl sl_B ok_sl (be_var (pv 0)) (bo_some be_int) bo_none)) (pg_tup rfl (pgs_cons (pg_name (i := 2) sc_least_marks.nd rfl (by first | exact Or.inl rfl | exact Or.inr rfl)) (pgs_cons (pg_name (i := 3) sc_least_marks.nd rfl (by first | exact Or.inl rfl | exact Or.inr rfl)) pgs_nil))) (okg_tup (is := [2, 3])) (bs_one (bs_setIx set_list core_setL (be_bin op_addB ok_add (be_ix ix_seq ok_ix (be_var (pv 1)) (be_var (pv 2))) (be_blty call_intB ok_int (by rfl) g_int (by rfl) (ba_cons (be_cmp op_gt (ok_cmpI gtI) (be_var (pv 3)) (be_var (pv 2)) (nomark _)) ba_nil))) (be_var (pv 1)) (be_var (pv 3)))))
  (bs_one (bs_ret (be_blty call_tuple_of ok_tup (by rfl) g_tuple (by rfl) (ba_cons (be_var (pv 1)) ba_nil))))))
abbrev s_is_rise : Stmt := top 18
abbrev n_is_rise : List Str := ["sequence", "index"]
theorem sc_is_rise : FnScope n_is_rise ["sequence", "index"] (defScope s_is_rise) := ⟨rfl, rfl, rfl, by decide +kernel, rfl, by decide +kernel, by decide +kernel⟩
theorem ok_is_rise (D : FnPk K "is_rise" s_is_rise [] f fd) (g_len : mg "len" = none) : FnG P w K mg base (L2.CX P w) 1 f fd ["sequence", "index"] (spF ⟨K, cl⟩ 2 F_is_rise) := by
  refine fn_okC (k := 0) (N := n_is_rise) (m := m_is_rise) D sc_is_rise rfl fun cdv A outer s H E W hr hG tk hp => ?_
  delta m_is_rise a_is_rise
  exact (bs_one (bs_ret (be_and (be_cmp op_lt (ok_cmpI ltI) (be_bin op_addB ok_add (be_var (pv 1)) be_int) (be_blt call_lenB ok_len (by rfl) g_len (by rfl) (ba_cons (be_var (pv 0)) ba_nil)) (nomark _)) (be_one (be_cmp op_gt (ok_cmpI gtI) (be_ix ix_seq ok_ix (be_var (pv 0)) (be_bin op_addB ok_add (be_var (pv 1)) be_int)) (be_ix ix_seq ok_ix (be_var (pv 0)) (be_var (pv 1))) (nomark _))))))
abbrev s__law_round : Stmt := top 26
abbrev n__law_round : List Str := ["line_here", "person", "mark", "one"]
theorem sc__law_round : FnScope n__law_round ["line_here"] (defScope s__law_round) := ⟨rfl, rfl, rfl, by decide +kernel, rfl, by decide +kernel, by decide +kernel⟩
theorem ok__law_round (D : FnPk K "_law_round" s__law_round [] f fd) (g_enumerate : mg "enumerate" = none) (g_len : mg "len" = none) (g_tuple : mg "tuple" = none) : FnG P w K mg base (L2.CX P w) 1 f fd ["line_here"] (spF ⟨K, cl⟩ 1 F__law_round) := by
  refine fn_okC (k := 0) (N := n__law_round) (m := m__law_round) D sc__law_round rfl fun cdv A outer s H E W hr hG tk hp => ?_
  delta m__law_round a__law_round
  exact (bs_one (bs_ret (be_blty call_tuple_of ok_tup (by rfl) g_tuple (by rfl) (ba_cons (be_lc rfl sc__law_round.nd (bi_enum (by rfl) (by rfl) g_enumerate (be_var (pv 0))) (blkOk_by (N := n__law_round) (sc := defScope s__law_round) (own := [("person", 1), ("mark", 2)]) (by decide +kernel)) rfl (okw_tup (is := [1, 2]) (by decide)) (fun _ _ _ _ _ => (pg_tup rfl (pgs_cons (pg_name (i := 1) sc__law_round.nd rfl (by first | exact Or.inl rfl | exact Or.inr rfl)) (pgs_cons (pg_name (i := 2) sc__law_round.nd rfl (by first | exact Or.inl rfl | exact Or.inr rfl)) pgs_nil)))) (fun _ _ _ _ _ => bts_nil) (fun _ _ _ _ _ => (be_blt call_lenB ok_len (by rfl) g_len (by rfl) (ba_cons (be_lc rfl sc__law_round.nd (bi_any (by rfl) (be_sl sl_B ok_sl (be_var (pv 0)) bo_none (bo_some (be_var (pv 1))))) (blkOk_by (own := [("one", 3)]) (by rfl)) rfl (okw_name (by decide)) (fun _ _ _ _ _ => (pg_name (i := 3) sc__law_round.nd rfl (by first | exact Or.inl rfl | exact Or.inr rfl))) (fun _ _ _ _ _ => (bts_one (bt_cmp op_lt (ok_cmpI ltI) (be_var (pv 3)) (be_var (pv 2)) (nomark _)))) (fun _ _ _ _ _ => (be_frz (be_var (pv 3))))) ba_nil)))) ba_nil))))
abbrev s__law_all_lines : Stmt := top 27
abbrev n__law_all_lines : List Str := ["size", "many", "found", "turn", "longer", "line_here", "mark"]
theorem sc__law_all_lines : FnScope n__law_all_lines ["size", "many"] (defScope s__law_all_lines) := ⟨rfl, rfl, rfl, by decide +kernel, rfl, by decide +kernel, by decide +kernel⟩
theorem ok__law_all_lines (D : FnPk K "_law_all_lines" s__law_all_lines [] f fd) (g_range : mg "range" = none) : FnG P w K mg base (L2.CX P w) 1 f fd ["size", "many"] (spF ⟨K, cl⟩ 2 F__law_all_lines) := by
  refine fn_okC (k := 0) (N := n__law_all_lines) (m := m__law_all_lines) D sc__law_all_lines rfl fun cdv A outer s H E W hr hG tk hp => ?_
  delta m__law_all_lines a__law_all_lines
  delta b__law_all_lines_2
  delta b__law_all_lines_1
  exact (bs_cons (bs_set (i := 2) sc__law_all_lines.nd rfl (by first | exact Or.inl rfl | exact Or.inr rfl) (be_lst (ba_cons (be_tup ba_nil) ba_nil)))
  (bs_cons (bs_for hp rfl (bi_range1 (by rfl) g_range (ba_cons (be_var (pv 0)) ba_nil)) (pg_name (i := 3) sc__law_all_lines.nd rfl (by first | exact Or.inl rfl | exact Or.inr rfl)) okg_name (bs_cons (bs_set (i := 4) sc__law_all_lines.nd rfl (by first | exact Or.inl rfl | exact Or.inr rfl) (be_lst ba_nil))
  (bs_cons (bs_for hp rfl (bi_any (by rfl) (be_var (pv 2))) (pg_name (i := 5) sc__law_all_lines.nd rfl (by first | exact Or.inl rfl | exact Or.inr rfl)) okg_name (bs_one (bs_expr (be_meth PySem.F.plainAttrs_list PySem.F.slot_list_extend rfl rfl mt_extend (mt_coreO core_extend) (by decide) (be_var (pv 4)) (ba_cons (be_lc rfl sc__law_all_lines.nd (bi_range1 (by rfl) g_range (ba_cons (be_var (pv 1)) ba_nil)) (blkOk_by (N := n__law_all_lines) (sc := defScope s__law_all_lines) (own := [("mark", 6)]) (by decide +kernel)) rfl (okw_name (by decide)) (fun _ _ _ _ _ => (pg_name (i := 6) sc__law_all_lines.nd rfl (by first | exact Or.inl rfl | exact Or.inr rfl))) (fun _ _ _ _ _ => bts_nil) (fun _ _ _ _ _ => (be_frz (be_bin op_addB ok_add (be_var (pv 5)) (be_tup (ba_cons (be_frz (be_var (pv 6))) ba_nil)))))) ba_nil)))))
  (bs_one (bs_set (i := 2) sc__law_all_lines.nd rfl (by first | exact Or.inl rfl | exact Or.inr rfl) (be_var (pv 4)))))))
  (bs_one (bs_ret (be_var (pv 2))))))
abbrev s__law_sequence : Stmt := top 28
abbrev n__law_sequence : List Str := ["code", "found", "person", "mark"]
theorem sc__law_sequence : FnScope n__law_sequence ["code"] (defScope s__law_sequence) := ⟨rfl, rfl, rfl, by decide +kernel, rfl, by decide +kernel, by decide +kernel⟩
theorem ok__law_sequence (D : FnPk K "_law_sequence" s__law_sequence [] f fd) (g_enumerate : mg "enumerate" = none) : FnG P w K mg base (L2.CX P w) 1 f fd ["code"] (spF ⟨K, cl⟩ 1 F__law_sequence) := by
  refine fn_okC (k := 0) (N := n__law_sequence) (m := m__law_sequence) D sc__law_sequence rfl fun cdv A outer s H E W hr hG tk hp => ?_
  delta m__law_sequence a__law_sequence
  delta b__law_sequence_1
  exact (bs_cons (bs_set (i := 1) sc__law_sequence.nd rfl (by first | exact Or.inl rfl | exact Or.inr rfl) (be_lst ba_nil))
  (bs_cons (bs_for hp rfl (bi_enum (by rfl) (by rfl) g_enumerate (be_var (pv 0))) (pg_tup rfl (pgs_cons (pg_name (i := 2) sc__law_sequence.nd rfl (by first | exact Or.inl rfl | exact Or.inr rfl)) (pgs_cons (pg_name (i := 3) sc__law_sequence.nd rfl (by first | exact Or.inl rfl | exact Or.inr rfl)) pgs_nil))) (okg_tup (is := [2, 3])) (bs_one (bs_expr (be_meth PySem.F.plainAttrs_list PySem.F.slot_list_insert rfl rfl mt_insert (mt_coreV core_insert) (by decide) (be_var (pv 1)) (ba_cons (be_frz (be_var (pv 3))) (ba_cons (be_frz (be_var (pv 2))) ba_nil))))))
  (bs_one (bs_ret (be_var (pv 1))))))
abbrev s__law_codes : Stmt := top 29
abbrev n__law_codes : List Str := ["size", "found", "person", "longer", "code", "mark"]
theorem sc__law_codes : FnScope n__law_codes ["size"] (defScope s__law_codes) := ⟨rfl, rfl, rfl, by decide +kernel, rfl, by decide +kernel, by decide +kernel⟩
theorem ok__law_codes (D : FnPk K "_law_codes" s__law_codes [] f fd) (g_range : mg "range" = none) : FnG P w K mg base (L2.CX P w) 1 f fd ["size"] (spF ⟨K, cl⟩ 1 F__law_codes) := by
  refine fn_okC (k := 0) (N := n__law_codes) (m := m__law_codes) D sc__law_codes rfl fun cdv A outer s H E W hr hG tk hp => ?_
  delta m__law_codes a__law_codes
  delta b__law_codes_2
  delta b__law_codes_1
  exact (bs_cons (bs_set (i := 1) sc__law_codes.nd rfl (by first | exact Or.inl rfl | exact Or.inr rfl) (be_lst (ba_cons (be_tup ba_nil) ba_nil)))
  (bs_cons (bs_for hp rfl (bi_range1 (by rfl) g_range (ba_cons (be_var (pv 0)) ba_nil)) (pg_name (i := 2) sc__law_codes.nd rfl (by first | exact Or.inl rfl | exact Or.inr rfl)) okg_name (bs_cons (bs_set (i := 3) sc__law_codes.nd rfl (by first | exact Or.inl rfl | exact Or.inr rfl) (be_lst ba_nil))
  (bs_cons (bs_for hp rfl (bi_any (by rfl) (be_var (pv 1))) (pg_name (i := 4) sc__law_codes.nd rfl (by first | exact Or.inl rfl | exact Or.inr rfl)) okg_name (bs_one (bs_expr (be_meth PySem.F.plainAttrs_list PySem.F.slot_list_extend rfl rfl mt_extend (mt_coreO core_extend) (by decide) (be_var (pv 3)) (ba_cons (be_lc rfl sc__law_codes.nd (bi_range1 (by rfl) g_range (ba_cons (be_bin op_addB ok_add (be_var (pv 2)) be_int) ba_nil)) (blkOk_by (N := n__law_codes) (sc := defScope s__law_codes) (own := [("mark", 5)]) (by decide +kernel)) rfl (okw_name (by decide)) (fun _ _ _ _ _ => (pg_name (i := 5) sc__law_codes.nd rfl (by first | exact Or.inl rfl | exact Or.inr rfl))) (fun _ _ _ _ _ => bts_nil) (fun _ _ _ _ _ => (be_frz (be_bin op_addB ok_add (be_var (pv 4)) (be_tup (ba_cons (be_frz (be_var (pv 5))) ba_nil)))))) ba_nil)))))
  (bs_one (bs_set (i := 1) sc__law_codes.nd rfl (by first | exact Or.inl rfl | exact Or.inr rfl) (be_var (pv 3)))))))
  (bs_one (bs_ret (be_var (pv 1))))))
abbrev s_in_range : Stmt := top 8
abbrev n_in_range : List Str := ["value", "low", "high"]
theorem sc_in_range : FnScope n_in_range ["value", "low", "high"] (defScope s_in_range) := ⟨rfl, rfl, rfl, by decide +kernel, rfl, by decide +kernel, by decide +kernel⟩
theorem ok_in_range (D : FnPk K "in_range" s_in_range [] f fd) (c_is_int : Cal P w K mg base cl "is_int" 1 1 F_is_int) : FnG P w K mg base (L2.CX P w) 2 f fd ["value", "low", "high"] (spF ⟨K, cl⟩ 3 F_in_range) := by
  refine fn_okC (k := 1) (N := n_in_range) (m := m_in_range) D sc_in_range rfl fun cdv A outer s H E W hr hG tk hp => ?_
  delta m_in_range a_in_range
  exact (bs_one (bs_ret (be_and (be_cal c_is_int (hr.mono (by omega)) hG (by rfl) tk (ba_cons (be_frz (be_var (pv 0))) ba_nil) (len_cons len_nil)) (be_one (be_chain op_le (ok_cmpI leI) op_le (ok_cmpI leI) (be_var (pv 1)) (be_var (pv 0)) (be_var (pv 2)))))))
abbrev s_ways_on : Stmt := top 19
abbrev n_ways_on : List Str := ["sequence", "later", "found", "index", "here", "mark"]
theorem sc_ways_on : FnScope n_ways_on ["sequence"] (defScope s_ways_on) := ⟨rfl, rfl, rfl, by decide +kernel, rfl, by decide +kernel, by decide +kernel⟩
theorem ok_ways_on (D : FnPk K "ways_on" s_ways_on [] f fd) (c_is_rise : Cal P w K mg base cl "is_rise" 1 2 F_is_rise) (g_len : mg "len" = none) (g_reversed : mg "reversed" = none) (g_range : mg "range" = none) (g_int : mg "int" = none) : FnG P w K mg base (L2.CX P w) 2 f fd ["sequence"] (spF ⟨K, cl⟩ 1 F_ways_on) := by
  refine fn_okC (k := 1) (N := n_ways_on) (m := m_ways_on) D sc_ways_on rfl fun cdv A outer s H E W hr hG tk hp => ?_
  delta m_ways_on a_ways_on
  delta b_ways_on_2
  delta b_ways_on_1
  exact (bs_cons (bs_set (i := 1) sc_ways_on.nd rfl (by first | exact Or.inl rfl | exact Or.inr rfl) (be_bin op_mulB ok_mul (be_lst (ba_cons be_int ba_nil)) (be_bin op_addB ok_add (be_blt call_lenB ok_len (by rfl) g_len (by rfl) (ba_cons (be_var (pv 0)) ba_nil)) be_int)))
  (bs_cons (bs_set (i := 2) sc_ways_on.nd rfl (by first | exact Or.inl rfl | exact Or.inr rfl) (be_lst ba_nil))
  (bs_cons (bs_for hp rfl (bi_revRg1 (by rfl) g_reversed (by rfl) g_range (be_blt call_lenB ok_len (by rfl) g_len (by rfl) (ba_cons (be_var (pv 0)) ba_nil))) (pg_name (i := 3) sc_ways_on.nd rfl (by first | exact Or.inl rfl | exact Or.inr rfl)) okg_name (bs_cons (bs_set (i := 4) sc_ways_on.nd rfl (by first | exact Or.inl rfl | exact Or.inr rfl) (be_bin op_mulB ok_mul (be_lst (ba_cons be_int ba_nil)) (be_bin op_addB ok_add (be_blt call_lenB ok_len (by rfl) g_len (by rfl) (ba_cons (be_var (pv 0)) ba_nil)) be_int)))
  (bs_cons (bs_for hp rfl (bi_revRg1 (by rfl) g_reversed (by rfl) g_range (be_bin op_addB ok_add (be_ix ix_seq ok_ix (be_var (pv 0)) (be_var (pv 3))) be_int)) (pg_name (i := 5) sc_ways_on.nd rfl (by first | exact Or.inl rfl | exact Or.inr rfl)) okg_name (bs_one (bs_setIx set_list core_setL (be_bin op_addB ok_add (be_ix ix_seq ok_ix (be_var (pv 4)) (be_bin op_addB ok_add (be_var (pv 5)) be_int)) (be_ix ix_seq ok_ix (be_var (pv 1)) (be_bin op_addB ok_add (be_var (pv 5)) (be_blty call_intB ok_int (by rfl) g_int (by rfl) (ba_cons (be_cal c_is_rise (hr.mono (by omega)) hG (by rfl) tk (ba_cons (be_frz (be_var (pv 0))) (ba_cons (be_frz (be_var (pv 3))) ba_nil)) (len_cons (len_cons len_nil))) ba_nil))))) (be_var (pv 4)) (be_var (pv 5)))))
  (bs_cons (bs_expr (be_meth PySem.F.plainAttrs_list PySem.F.slot_list_insert rfl rfl mt_insert (mt_coreV core_insert) (by decide) (be_var (pv 2)) (ba_cons be_int (ba_cons (be_frz (be_var (pv 4))) ba_nil))))
  (bs_one (bs_set (i := 1) sc_ways_on.nd rfl (by first | exact Or.inl rfl | exact Or.inr rfl) (be_var (pv 4))))))))
  (bs_one (bs_ret (be_var (pv 2)))))))
abbrev s__law_lots : Stmt := top 30
abbrev n__law_lots : List Str := ["some", "found", "line_here", "code"]
theorem sc__law_lots : FnScope n__law_lots ["some"] (defScope s__law_lots) := ⟨rfl, rfl, rfl, by decide +kernel, rfl, by decide +kernel, by decide +kernel⟩
theorem ok__law_lots (D : FnPk K "_law_lots" s__law_lots [] f fd) (c__law_round : Cal P w K mg base cl "_law_round" 1 1 F__law_round) : FnG P w K mg base (L2.CX P w) 2 f fd ["some"] (spF ⟨K, cl⟩ 1 F__law_lots) := by
  refine fn_okC (k := 1) (N := n__law_lots) (m := m__law_lots) D sc__law_lots rfl fun cdv A outer s H E W hr hG tk hp => ?_
  delta m__law_lots a__law_lots
  delta b__law_lots_1
  exact (bs_cons (bs_set (i := 1) sc__law_lots.nd rfl (by first | exact Or.inl rfl | exact Or.inr rfl) be_dict0)
  (bs_cons (bs_for hp rfl (bi_any (by rfl) (be_var (pv 0))) (pg_name (i := 2) sc__law_lots.nd rfl (by first | exact Or.inl rfl | exact Or.inr rfl)) okg_name (bs_cons (bs_set (i := 3) sc__law_lots.nd rfl (by first | exact Or.inl rfl | exact Or.inr rfl) (be_cal c__law_round (hr.mono (by omega)) hG (by rfl) tk (ba_cons (be_frz (be_var (pv 2))) ba_nil) (len_cons len_nil)))
  (bs_one (bs_setIx (set_dicT (by exact units1 hr)) core_setDicT (be_bin op_addB ok_add (be_meth PySem.F.plainAttrs_dict PySem.F.slot_dict_get rfl rfl (mt_getT (by exact units1 hr)) (mt_seeV ok_getT) (by decide) (be_var (pv 1)) (ba_cons (be_frz (be_var (pv 3))) (ba_cons (be_frz (be_lst ba_nil)) ba_nil))) (be_lst (ba_cons (be_frz (be_var (pv 2))) ba_nil))) (be_var (pv 1)) (be_var (pv 3))))))
  (bs_one (bs_ret (be_var (pv 1))))))
abbrev s_is_mark : Stmt := top 9
abbrev n_is_mark : List Str := ["value"]
theorem sc_is_mark : FnScope n_is_mark ["value"] (defScope s_is_mark) := ⟨rfl, rfl, rfl, by decide +kernel, rfl, by decide +kernel, by decide +kernel⟩
theorem ok_is_mark (D : FnPk K "is_mark" s_is_mark [] f fd) (c_in_range : Cal P w K mg base cl "in_range" 2 3 F_in_range) {t_GREATEST : Tok} (g_GREATEST : mg "GREATEST" = some (.int 1000000000000000000000000000000 t_GREATEST)) : FnG P w K mg base (L2.CX P w) 3 f fd ["value"] (spF ⟨K, cl⟩ 1 F_is_mark) := by
  refine fn_okC (k := 2) (N := n_is_mark) (m := m_is_mark) D sc_is_mark rfl fun cdv A outer s H E W hr hG tk hp => ?_
  delta m_is_mark a_is_mark
  exact (bs_one (bs_ret (be_cal c_in_range (hr.mono (by omega)) hG (by rfl) tk (ba_cons (be_frz (be_var (pv 0))) (ba_cons (be_un un_neg ok_neg (be_globI (by rfl) g_GREATEST)) (ba_cons (be_globI (by rfl) g_GREATEST) ba_nil))) (len_cons (len_cons (len_cons len_nil))))))
abbrev s_is_line : Stmt := top 10
abbrev n_is_line : List Str := ["value", "mark"]
theorem sc_is_line : FnScope n_is_line ["value"] (defScope s_is_line) := ⟨rfl, rfl, rfl, by decide +kernel, rfl, by decide +kernel, by decide +kernel⟩
theorem ok_is_line (D : FnPk K "is_line" s_is_line [] f fd) (c_is_mark : Cal P w K mg base cl "is_mark" 3 1 F_is_mark) (g_isinstance : mg "isinstance" = none) (g_tuple : mg "tuple" = none) (g_len : mg "len" = none) (g_all : mg "all" = none) {t_MOST_PERSONS : Tok} (g_MOST_PERSONS : mg "MOST_PERSONS" = some (.int 60 t_MOST_PERSONS)) : FnG P w K mg base (L2.CX P w) 4 f fd ["value"] (spF ⟨K, cl⟩ 1 F_is_line) := by
  refine fn_okC (k := 3) (N := n_is_line) (m := m_is_line) D sc_is_line rfl fun cdv A outer s H E W hr hG tk hp => ?_
  delta m_is_line a_is_line
  exact (bs_cons (bs_if (PW.pt (bw_or (bt_not (bt_val (be_isT (by rfl) (by rfl) g_isinstance (by rfl) g_tuple (by rfl) (be_var (pv 0))))) (bw_or1 (bt_not (bt_chain op_le (ok_cmpI leI) op_le (ok_cmpI leI) be_int (be_blt call_lenB ok_len (by rfl) g_len (by rfl) (ba_cons (be_var (pv 0)) ba_nil)) (be_globI (by rfl) g_MOST_PERSONS)))))) (bs_one (bs_ret be_bl)) bs_nil)
  (bs_one (bs_ret (be_blt (cr_all rfl) ok_all (by rfl) g_all (by rfl) (ba_cons (be_lc rfl sc_is_line.nd (bi_any (by rfl) (be_var (pv 0))) (blkOk_by (N := n_is_line) (sc := defScope s_is_line) (own := [("mark", 1)]) (by decide +kernel)) rfl (okw_name (by decide)) (fun _ _ _ _ _ => (pg_name (i := 1) sc_is_line.nd rfl (by first | exact Or.inl rfl | exact Or.inr rfl))) (fun _ _ _ _ _ => bts_nil) (fun _ _ _ _ _ => (be_frz (be_cal c_is_mark (hr.mono (by omega)) hG (by rfl) takesF (ba_cons (be_frz (be_var (pv 1))) ba_nil) (len_cons len_nil))))) ba_nil)))))
abbrev s_is_code : Stmt := top 11
abbrev n_is_code : List Str := ["value", "place", "mark"]
theorem sc_is_code : FnScope n_is_code ["value"] (defScope s_is_code) := ⟨rfl, rfl, rfl, by decide +kernel, rfl, by decide +kernel, by decide +kernel⟩
theorem ok_is_code (D : FnPk K "is_code" s_is_code [] f fd) (c_is_line : Cal P w K mg base cl "is_line" 4 1 F_is_line) (g_enumerate : mg "enumerate" = none) (g_all : mg "all" = none) : FnG P w K mg base (L2.CX P w) 5 f fd ["value"] (spF ⟨K, cl⟩ 1 F_is_code) := by
  refine fn_okC (k := 4) (N := n_is_code) (m := m_is_code) D sc_is_code rfl fun cdv A outer s H E W hr hG tk hp => ?_
  delta m_is_code a_is_code
  exact (bs_one (bs_ret (be_and (be_cal c_is_line (hr.mono (by omega)) hG (by rfl) tk (ba_cons (be_frz (be_var (pv 0))) ba_nil) (len_cons len_nil)) (be_one (be_blt (cr_all rfl) ok_all (by rfl) g_all (by rfl) (ba_cons (be_lc rfl sc_is_code.nd (bi_enum (by rfl) (by rfl) g_enumerate (be_var (pv 0))) (blkOk_by (N := n_is_code) (sc := defScope s_is_code) (own := [("place", 1), ("mark", 2)]) (by decide +kernel)) rfl (okw_tup (is := [1, 2]) (by decide)) (fun _ _ _ _ _ => (pg_tup rfl (pgs_cons (pg_name (i := 1) sc_is_code.nd rfl (by first | exact Or.inl rfl | exact Or.inr rfl)) (pgs_cons (pg_name (i := 2) sc_is_code.nd rfl (by first | exact Or.inl rfl | exact Or.inr rfl)) pgs_nil)))) (fun _ _ _ _ _ => bts_nil) (fun _ _ _ _ _ => (be_chain op_le (ok_cmpI leI) op_le (ok_cmpI leI) be_int (be_var (pv 2)) (be_var (pv 1))))) ba_nil))))))
abbrev s_require_code : Stmt := top 14
abbrev n_require_code : List Str := ["value"]
theorem sc_require_code : FnScope n_require_code ["value"] (defScope s_require_code) := ⟨rfl, rfl, rfl, by decide +kernel, rfl, by decide +kernel, by decide +kernel⟩
theorem ok_require_code (D : FnPk K "require_code" s_require_code [] f fd) (c_is_code : Cal P w K mg base cl "is_code" 5 1 F_is_code) : FnG P w K mg base (L2.CX P w) 6 f fd ["value"] (spF ⟨K, cl⟩ 1 F_require_code) := by
  refine fn_okC (k := 5) (N := n_require_code) (m := m_require_code) D sc_require_code rfl fun cdv A outer s H E W hr hG tk hp => ?_
  delta m_require_code a_require_code
  exact (bs_one (bs_if (bt_not (bt_val (be_cal c_is_code (hr.mono (by omega)) hG (by rfl) tk (ba_cons (be_frz (be_var (pv 0))) ba_nil) (len_cons len_nil)))) (bs_one bs_never) bs_nil))
abbrev s_least_before : Stmt := top 20
abbrev n_least_before : List Str := ["code"]
theorem sc_least_before : FnScope n_least_before ["code"] (defScope s_least_before) := ⟨rfl, rfl, rfl, by decide +kernel, rfl, by decide +kernel, by decide +kernel⟩
theorem ok_least_before (D : FnPk K "least_before" s_least_before [] f fd) (c_require_code : Cal P w K mg base cl "require_code" 6 1 F_require_code) (c_least_marks : Cal P w K mg base cl "least_marks" 1 1 F_least_marks) (c_sequence_of : Cal P w K mg base cl "sequence_of" 1 1 F_sequence_of) : FnG P w K mg base (L2.CX P w) 7 f fd ["code"] (spF ⟨K, cl⟩ 1 F_least_before) := by
  refine fn_okC (k := 6) (N := n_least_before) (m := m_least_before) D sc_least_before rfl fun cdv A outer s H E W hr hG tk hp => ?_
  delta m_least_before a_least_before
  exact (bs_cons (bs_expr (be_cal c_require_code (hr.mono (by omega)) hG (by rfl) tk (ba_cons (be_frz (be_var (pv 0))) ba_nil) (len_cons len_nil)))
  (bs_one (bs_ret (be_cal c_least_marks (hr.mono (by omega)) hG (by rfl) tk (ba_cons (be_frz (be_cal c_sequence_of (hr.mono (by omega)) hG (by rfl) tk (ba_cons (be_frz (be_var (pv 0))) ba_nil) (len_cons len_nil))) ba_nil) (len_cons len_nil)))))
abbrev s_has_before : Stmt := top 21
abbrev n_has_before : List Str := ["code", "person", "mark"]
theorem sc_has_before : FnScope n_has_before ["code"] (defScope s_has_before) := ⟨rfl, rfl, rfl, by decide +kernel, rfl, by decide +kernel, by decide +kernel⟩
theorem ok_has_before (D : FnPk K "has_before" s_has_before [] f fd) (c_require_code : Cal P w K mg base cl "require_code" 6 1 F_require_code) (c_least_marks : Cal P w K mg base cl "least_marks" 1 1 F_least_marks) (c_sequence_of : Cal P w K mg base cl "sequence_of" 1 1 F_sequence_of) (g_enumerate : mg "enumerate" = none) (g_all : mg "all" = none) : FnG P w K mg base (L2.CX P w) 7 f fd ["code"] (spF ⟨K, cl⟩ 1 F_has_before) := by
  refine fn_okC (k := 6) (N := n_has_before) (m := m_has_before) D sc_has_before rfl fun cdv A outer s H E W hr hG tk hp => ?_
  delta m_has_before a_has_before
  exact (bs_cons (bs_expr (be_cal c_require_code (hr.mono (by omega)) hG (by rfl) tk (ba_cons (be_frz (be_var (pv 0))) ba_nil) (len_cons len_nil)))
  (bs_one (bs_ret (be_blt (cr_all rfl) ok_all (by rfl) g_all (by rfl) (ba_cons (be_lc rfl sc_has_before.nd (bi_enum (by rfl) (by rfl) g_enumerate (be_cal c_least_marks (hr.mono (by omega)) hG (by rfl) tk (ba_cons (be_frz (be_cal c_sequence_of (hr.mono (by omega)) hG (by rfl) tk (ba_cons (be_frz (be_var (pv 0))) ba_nil) (len_cons len_nil))) ba_nil) (len_cons len_nil))) (blkOk_by (N := n_has_before) (sc := defScope s_has_before) (own := [("person", 1), ("mark", 2)]) (by decide +kernel)) rfl (okw_tup (is := [1, 2]) (by decide)) (fun _ _ _ _ _ => (pg_tup rfl (pgs_cons (pg_name (i := 1) sc_has_before.nd rfl (by first | exact Or.inl rfl | exact Or.inr rfl)) (pgs_cons (pg_name (i := 2) sc_has_before.nd rfl (by first | exact Or.inl rfl | exact Or.inr rfl)) pgs_nil)))) (fun _ _ _ _ _ => bts_nil) (fun _ _ _ _ _ => (be_cmp op_le (ok_cmpI leI) (be_var (pv 2)) (be_var (pv 1)) (nomark _)))) ba_nil)))))
abbrev s_count_before : Stmt := top 22
abbrev n_count_before : List Str := ["code"]
theorem sc_count_before : FnScope n_count_before ["code"] (defScope s_count_before) := ⟨rfl, rfl, rfl, by decide +kernel, rfl, by decide +kernel, by decide +kernel⟩
theorem ok_count_before (D : FnPk K "count_before" s_count_before [] f fd) (c_require_code : Cal P w K mg base cl "require_code" 6 1 F_require_code) (c_ways_on : Cal P w K mg base cl "ways_on" 2 1 F_ways_on) (c_sequence_of : Cal P w K mg base cl "sequence_of" 1 1 F_sequence_of) : FnG P w K mg base (L2.CX P w) 7 f fd ["code"] (spF ⟨K, cl⟩ 1 F_count_before) := by
  refine fn_okC (k := 6) (N := n_count_before) (m := m_count_before) D sc_count_before rfl fun cdv A outer s H E W hr hG tk hp => ?_
  delta m_count_before a_count_before
  exact (bs_cons (bs_expr (be_cal c_require_code (hr.mono (by omega)) hG (by rfl) tk (ba_cons (be_frz (be_var (pv 0))) ba_nil) (len_cons len_nil)))
  (bs_one (bs_ret (be_ix ix_seq ok_ix (be_ix ix_seq ok_ix (be_cal c_ways_on (hr.mono (by omega)) hG (by rfl) tk (ba_cons (be_frz (be_cal c_sequence_of (hr.mono (by omega)) hG (by rfl) tk (ba_cons (be_frz (be_var (pv 0))) ba_nil) (len_cons len_nil))) ba_nil) (len_cons len_nil)) be_int) be_int))))
abbrev s_nth_before : Stmt := top 23
abbrev n_nth_before : List Str := ["code", "number", "sequence", "table", "found", "mark", "index", "person"]
theorem sc_nth_before : FnScope n_nth_before ["code", "number"] (defScope s_nth_before) := ⟨rfl, rfl, rfl, by decide +kernel, rfl, by decide +kernel, by decide +kernel⟩
theorem ok_nth_before (D : FnPk K "nth_before" s_nth_before [] f fd) (c_require_code : Cal P w K mg base cl "require_code" 6 1 F_require_code) (c_sequence_of : Cal P w K mg base cl "sequence_of" 1 1 F_sequence_of) (c_ways_on : Cal P w K mg base cl "ways_on" 2 1 F_ways_on) (c_in_range : Cal P w K mg base cl "in_range" 2 3 F_in_range) (c_is_rise : Cal P w K mg base cl "is_rise" 1 2 F_is_rise) (g_len : mg "len" = none) (g_enumerate : mg "enumerate" = none) (g_int : mg "int" = none) (g_tuple : mg "tuple" = none) : FnG P w K mg base (L2.CX P w) 7 f fd ["code", "number"] (spF ⟨K, cl⟩ 2 F_nth_before) := by
  refine fn_okC (k := 6) (N := n_nth_before) (m := m_nth_before) D sc_nth_before rfl fun cdv A outer s H E W hr hG tk hp => ?_
  delta m_nth_before a_nth_before
  delta b_nth_before_2
  delta b_nth_before_1
  exact (bs_cons (bs_expr (be_cal c_require_code (hr.mono (by omega)) hG (by rfl) tk (ba_cons (be_frz (be_var (pv 0))) ba_nil) (len_cons len_nil)))
  (bs_cons (bs_set (i := 2) sc_nth_before.nd rfl (by first | exact Or.inl rfl | exact Or.inr rfl) (be_cal c_sequence_of (hr.mono (by omega)) hG (by rfl) tk (ba_cons (be_frz (be_var (pv 0))) ba_nil) (len_cons len_nil)))
  (bs_cons (bs_set (i := 3) sc_nth_before.nd rfl (by first | exact Or.inl rfl | exact Or.inr rfl) (be_cal c_ways_on (hr.mono (by omega)) hG (by rfl) tk (ba_cons (be_frz (be_var (pv 2))) ba_nil) (len_cons len_nil)))
  (bs_cons (bs_if (bt_not (bt_val (be_cal c_in_range (hr.mono (by omega)) hG (by rfl) tk (ba_cons (be_frz (be_var (pv 1))) (ba_cons be_int (ba_cons (be_bin op_sub ok_sub (be_ix ix_seq ok_ix (be_ix ix_seq ok_ix (be_var (pv 3)) be_int) be_int) be_int) ba_nil))) (len_cons (len_cons (len_cons len_nil)))))) (bs_one bs_never) bs_nil)
  (bs_cons (bs_set (i := 4) sc_nth_before.nd rfl (by first | exact Or.inl rfl | exact Or.inr rfl) (be_bin op_mulB ok_mul (be_lst (ba_cons be_int ba_nil)) (be_blt call_lenB ok_len (by rfl) g_len (by rfl) (ba_cons (be_var (pv 2)) ba_nil))))
  (bs_cons (bs_set (i := 5) sc_nth_before.nd rfl (by first | exact Or.inl rfl | exact Or.inr rfl) be_int)
  (bs_cons (bs_for hp rfl (bi_enum (by rfl) (by rfl) g_enumerate (be_var (pv 2))) (pg_tup rfl (pgs_cons (pg_name (i := 6) sc_nth_before.nd rfl (by first | exact Or.inl rfl | exact Or.inr rfl)) (pgs_cons (pg_name (i := 7) sc_nth_before.nd rfl (by first | exact Or.inl rfl | exact Or.inr rfl)) pgs_nil))) (okg_tup (is := [6, 7])) (bs_cons (bs_while hp (bt_cmp op_ge (ok_cmpI geI) (be_var (pv 1)) (be_bin op_sub ok_sub (be_ix ix_seq ok_ix (be_ix ix_seq ok_ix (be_var (pv 3)) (be_var (pv 6))) (be_var (pv 5))) (be_ix ix_seq ok_ix (be_ix ix_seq ok_ix (be_var (pv 3)) (be_var (pv 6))) (be_bin op_addB ok_add (be_var (pv 5)) be_int))) (nomark _)) (bs_cons (bs_aug (i := 1) sc_nth_before.nd rfl (by first | exact Or.inl rfl | exact Or.inr rfl) (be_bin op_sub ok_sub (be_ix ix_seq ok_ix (be_ix ix_seq ok_ix (be_var (pv 3)) (be_var (pv 6))) (be_var (pv 5))) (be_ix ix_seq ok_ix (be_ix ix_seq ok_ix (be_var (pv 3)) (be_var (pv 6))) (be_bin op_addB ok_add (be_var (pv 5)) be_int))) iop_sub ok_isub)
  (bs_one (bs_aug (i := 5) sc_nth_before.nd rfl (by first | exact Or.inl rfl | exact Or.inr rfl) be_int iop_add ok_iadd))))
  (bs_cons (bs_setIx set_list core_setL (be_var (pv 5)) (be_var (pv 4)) (be_var (pv 7)))
  (bs_one (bs_aug (i := 5) sc_nth_before.nd rfl (by first | exact Or.inl rfl | exact Or.inr rfl) (be_blty call_intB ok_int (by rfl) g_int (by rfl) (ba_cons (be_cal c_is_rise (hr.mono (by omega)) hG (by rfl) tk (ba_cons (be_frz (be_var (pv 2))) (ba_cons (be_frz (be_var (pv 6))) ba_nil)) (len_cons (len_cons len_nil))) ba_nil)) iop_add ok_iadd)))))
  (bs_one (bs_ret (be_blty call_tuple_of ok_tup (by rfl) g_tuple (by rfl) (ba_cons (be_var (pv 4)) ba_nil)))))))))))
abbrev s_number_before : Stmt := top 24
abbrev n_number_before : List Str := ["code", "sequence", "table", "number", "least", "index", "person"]
theorem sc_number_before : FnScope n_number_before ["code"] (defScope s_number_before) := ⟨rfl, rfl, rfl, by decide +kernel, rfl, by decide +kernel, by decide +kernel⟩
theorem ok_number_before (D : FnPk K "number_before" s_number_before [] f fd) (c_require_code : Cal P w K mg base cl "require_code" 6 1 F_require_code) (c_sequence_of : Cal P w K mg base cl "sequence_of" 1 1 F_sequence_of) (c_next_row : Cal P w K mg base cl "next_row" 1 1 F_next_row) (c_ways_on : Cal P w K mg base cl "ways_on" 2 1 F_ways_on) (c_is_rise : Cal P w K mg base cl "is_rise" 1 2 F_is_rise) (g_enumerate : mg "enumerate" = none) (g_int : mg "int" = none) : FnG P w K mg base (L2.CX P w) 7 f fd ["code"] (spF ⟨K, cl⟩ 1 F_number_before) := by
  refine fn_okC (k := 6) (N := n_number_before) (m := m_number_before) D sc_number_before rfl fun cdv A outer s H E W hr hG tk hp => ?_
  delta m_number_before a_number_before
  delta b_number_before_1
  exact (bs_cons (bs_expr (be_cal c_require_code (hr.mono (by omega)) hG (by rfl) tk (ba_cons (be_frz (be_var (pv 0))) ba_nil) (len_cons len_nil)))
  (bs_cons (bs_set (i := 1) sc_number_before.nd rfl (by first | exact Or.inl rfl | exact Or.inr rfl) (be_cal c_sequence_of (hr.mono (by omega)) hG (by rfl) tk (ba_cons (be_frz (be_cal c_next_row (hr.mono (by omega)) hG (by rfl) tk (ba_cons (be_frz (be_var (pv 0))) ba_nil) (len_cons len_nil))) ba_nil) (len_cons len_nil)))
  (bs_cons (bs_set (i := 2) sc_number_before.nd rfl (by first | exact Or.inl rfl | exact Or.inr rfl) (be_cal c_ways_on (hr.mono (by omega)) hG (by rfl) tk (ba_cons (be_frz (be_var (pv 1))) ba_nil) (len_cons len_nil)))
  (bs_cons (bs_setT (be_tup (ba_cons be_int (ba_cons be_int ba_nil))) (pg_tup rfl (pgs_cons (pg_name (i := 3) sc_number_before.nd rfl (by first | exact Or.inl rfl | exact Or.inr rfl)) (pgs_cons (pg_name (i := 4) sc_number_before.nd rfl (by first | exact Or.inl rfl | exact Or.inr rfl)) pgs_nil))) (okg_tup (is := [3, 4])))
  (bs_cons (bs_for hp rfl (bi_enum (by rfl) (by rfl) g_enumerate (be_var (pv 1))) (pg_tup rfl (pgs_cons (pg_name (i := 5) sc_number_before.nd rfl (by first | exact Or.inl rfl | exact Or.inr rfl)) (pgs_cons (pg_name (i := 6) sc_number_before.nd rfl (by first | exact Or.inl rfl | exact Or.inr rfl)) pgs_nil))) (okg_tup (is := [5, 6])) (bs_cons (bs_aug (i := 3) sc_number_before.nd rfl (by first | exact Or.inl rfl | exact Or.inr rfl) (be_bin op_sub ok_sub (be_ix ix_seq ok_ix (be_ix ix_seq ok_ix (be_var (pv 2)) (be_var (pv 5))) (be_var (pv 4))) (be_ix ix_seq ok_ix (be_ix ix_seq ok_ix (be_var (pv 2)) (be_var (pv 5))) (be_ix ix_seq ok_ix (be_var (pv 0)) (be_var (pv 6))))) iop_add ok_iadd)
  (bs_one (bs_set (i := 4) sc_number_before.nd rfl (by first | exact Or.inl rfl | exact Or.inr rfl) (be_bin op_addB ok_add (be_ix ix_seq ok_ix (be_var (pv 0)) (be_var (pv 6))) (be_blty call_intB ok_int (by rfl) g_int (by rfl) (ba_cons (be_cal c_is_rise (hr.mono (by omega)) hG (by rfl) tk (ba_cons (be_frz (be_var (pv 1))) (ba_cons (be_frz (be_var (pv 5))) ba_nil)) (len_cons (len_cons len_nil))) ba_nil)))))))
  (bs_one (bs_ret (be_var (pv 3)))))))))
abbrev s__law_code_right : Stmt := top 31
abbrev n__law_code_right : List Str := ["code", "lot", "kept", "way", "due", "again", "key", "row", "person", "spot"]
theorem sc__law_code_right : FnScope n__law_code_right ["code", "lot"] (defScope s__law_code_right) := ⟨rfl, rfl, rfl, by decide +kernel, rfl, by decide +kernel, by decide +kernel⟩
theorem ok__law_code_right (D : FnPk K "_law_code_right" s__law_code_right [] f fd) (c__law_sequence : Cal P w K mg base cl "_law_sequence" 1 1 F__law_sequence) (c_has_before : Cal P w K mg base cl "has_before" 7 1 F_has_before) (c_count_before : Cal P w K mg base cl "count_before" 7 1 F_count_before) (c_nth_before : Cal P w K mg base cl "nth_before" 7 2 F_nth_before) (c_number_before : Cal P w K mg base cl "number_before" 7 1 F_number_before) (g_repr : mg "repr" = none) (g_sorted : mg "sorted" = none) (g_range : mg "range" = none) (g_len : mg "len" = none) (g_list : mg "list" = none) : FnG P w K mg base (L2.CX P w) 8 f fd ["code", "lot"] (spF ⟨K, cl⟩ 2 F__law_code_right) := by
  refine fn_okC (k := 7) (N := n__law_code_right) (m := m__law_code_right) D sc__law_code_right rfl fun cdv A outer s H E W hr hG tk hp => ?_
  delta m__law_code_right a__law_code_right
  delta b__law_code_right_1
  exact (bs_cons (bs_setT (be_tup (ba_cons (be_blt (call_reprB hr hG) ok_repr (by rfl) g_repr (by rfl) (ba_cons (be_var (pv 0)) ba_nil)) (ba_cons (be_frz (be_cal c__law_sequence (hr.mono (by omega)) hG (by rfl) tk (ba_cons (be_frz (be_var (pv 0))) ba_nil) (len_cons len_nil))) ba_nil))) (pg_tup rfl (pgs_cons (pg_name (i := 2) sc__law_code_right.nd rfl (by first | exact Or.inl rfl | exact Or.inr rfl)) (pgs_cons (pg_name (i := 3) sc__law_code_right.nd rfl (by first | exact Or.inl rfl | exact Or.inr rfl)) pgs_nil))) (okg_tup (is := [2, 3])))
  (bs_cons (bs_setLc rfl sc__law_code_right.nd rfl rfl (sw_true rfl rfl rfl rfl) (by exact (bi_any (by rfl) (be_blt (cr_sortedK (by exact units65 hr)) ok_sortedK (by rfl) g_sorted (by rfl) (ba_cons (be_lc rfl sc__law_code_right.nd (bi_any (by rfl) (be_var (pv 1))) (blkOk_by (N := n__law_code_right) (sc := defScope s__law_code_right) (own := [("row", 7)]) (by decide +kernel)) rfl (okw_name (by decide)) (fun _ _ _ _ _ => (pg_name (i := 7) sc__law_code_right.nd rfl (by first | exact Or.inl rfl | exact Or.inr rfl))) (fun _ _ _ _ _ => bts_nil) (fun _ _ _ _ _ => (be_tup (ba_cons (be_frz (be_lc rfl sc__law_code_right.nd (bi_any (by rfl) (be_var (pv 3))) (blkOk_by (own := [("person", 8)]) (by rfl)) rfl (okw_name (by decide)) (fun _ _ _ _ _ => (pg_name (i := 8) sc__law_code_right.nd rfl (by first | exact Or.inl rfl | exact Or.inr rfl))) (fun _ _ _ _ _ => bts_nil) (fun _ _ _ _ _ => (be_ix ix_seq ok_ix (be_var (pv 7)) (be_var (pv 8)))))) (ba_cons (be_frz (be_var (pv 7))) ba_nil))))) ba_nil)))) (blkOk_by (N := n__law_code_right) (sc := defScope s__law_code_right) (own := [("key", 6), ("row", 7)]) (by decide +kernel)) rfl (okw_tup (is := [6, 7]) (by decide)) (fun _ _ _ _ _ => (pg_tup rfl (pgs_cons (pg_name (i := 6) sc__law_code_right.nd rfl (by first | exact Or.inl rfl | exact Or.inr rfl)) (pgs_cons (pg_name (i := 7) sc__law_code_right.nd rfl (by first | exact Or.inl rfl | exact Or.inr rfl)) pgs_nil)))) (fun _ _ _ _ _ => bts_nil) (fun _ _ _ _ _ => (be_frz (be_var (pv 7)))))
  (bs_cons (bs_for hp rfl (bi_range1 (by rfl) g_range (ba_cons be_int ba_nil)) (pg_name (i := 5) sc__law_code_right.nd rfl (by first | exact Or.inl rfl | exact Or.inr rfl)) okg_name (bs_cons (bs_if (bt_cmp (op_neD hr.units) ok_ne (be_reprL rfl hr hG (by rfl) g_repr (ba_cons (be_cal c_count_before (hr.mono (by omega)) hG (by rfl) tk (ba_cons (be_frz (be_var (pv 0))) ba_nil) (len_cons len_nil)) (ba_cons (be_cal c_has_before (hr.mono (by omega)) hG (by rfl) tk (ba_cons (be_frz (be_var (pv 0))) ba_nil) (len_cons len_nil)) ba_nil))) (be_reprL rfl hr hG (by rfl) g_repr (ba_cons (be_blt call_lenB ok_len (by rfl) g_len (by rfl) (ba_cons (be_var (pv 4)) ba_nil)) (ba_cons (be_cmp (op_neD hr.units) ok_ne (be_var (pv 4)) (be_lst ba_nil) (nomark _)) ba_nil))) (nomark _)) (bs_one (bs_ret be_bl)) bs_nil)
  (bs_one (bs_if (bt_cmp (op_neD hr.units) ok_ne (be_blt (call_reprB hr hG) ok_repr (by rfl) g_repr (by rfl) (ba_cons (be_lc rfl sc__law_code_right.nd (bi_range1 (by rfl) g_range (ba_cons (be_blt call_lenB ok_len (by rfl) g_len (by rfl) (ba_cons (be_var (pv 4)) ba_nil)) ba_nil)) (blkOk_by (N := n__law_code_right) (sc := defScope s__law_code_right) (own := [("spot", 9)]) (by decide +kernel)) rfl (okw_name (by decide)) (fun _ _ _ _ _ => (pg_name (i := 9) sc__law_code_right.nd rfl (by first | exact Or.inl rfl | exact Or.inr rfl))) (fun _ _ _ _ _ => bts_nil) (fun _ _ _ _ _ => (be_frz (be_cal c_nth_before (hr.mono (by omega)) hG (by rfl) takesF (ba_cons (be_frz (be_var (pv 0))) (ba_cons (be_frz (be_var (pv 9))) ba_nil)) (len_cons (len_cons len_nil)))))) ba_nil)) (be_blt (call_reprB hr hG) ok_repr (by rfl) g_repr (by rfl) (ba_cons (be_var (pv 4)) ba_nil)) (nomark _)) (bs_one (bs_ret be_bl)) bs_nil))))
  (bs_one (bs_ret (be_and (be_cmp (op_eqD hr.units) ok_eq (be_lc rfl sc__law_code_right.nd (bi_any (by rfl) (be_var (pv 4))) (blkOk_by (N := n__law_code_right) (sc := defScope s__law_code_right) (own := [("row", 7)]) (by decide +kernel)) rfl (okw_name (by decide)) (fun _ _ _ _ _ => (pg_name (i := 7) sc__law_code_right.nd rfl (by first | exact Or.inl rfl | exact Or.inr rfl))) (fun _ _ _ _ _ => bts_nil) (fun _ _ _ _ _ => (be_frz (be_cal c_number_before (hr.mono (by omega)) hG (by rfl) takesF (ba_cons (be_frz (be_var (pv 7))) ba_nil) (len_cons len_nil))))) (be_listRg1 (by rfl) (by rfl) g_list (by rfl) g_range (be_blt call_lenB ok_len (by rfl) g_len (by rfl) (ba_cons (be_var (pv 4)) ba_nil))) (nomark _)) (be_one (be_cmp (op_eqD hr.units) ok_eq (be_blt (call_reprB hr hG) ok_repr (by rfl) g_repr (by rfl) (ba_cons (be_var (pv 0)) ba_nil)) (be_var (pv 2)) (nomark _)))))))))
abbrev s_law : Stmt := top 32
abbrev n_law : List Str := ["script", "size", "some", "lots", "code", "due", "person", "line_here"]
theorem sc_law : FnScope n_law ["script"] (defScope s_law) := ⟨rfl, rfl, rfl, by decide +kernel, rfl, by decide +kernel, by decide +kernel⟩
theorem ok_law (D : FnPk K "law" s_law [] f fd) (c__law_codes : Cal P w K mg base cl "_law_codes" 1 1 F__law_codes) (c__law_lots : Cal P w K mg base cl "_law_lots" 2 1 F__law_lots) (c__law_code_right : Cal P w K mg base cl "_law_code_right" 8 2 F__law_code_right) (c__law_all_lines : Cal P w K mg base cl "_law_all_lines" 1 2 F__law_all_lines) (c_least_before : Cal P w K mg base cl "least_before" 7 1 F_least_before) (c_has_before : Cal P w K mg base cl "has_before" 7 1 F_has_before) (g_range : mg "range" = none) (g_min : mg "min" = none) (g_tuple : mg "tuple" = none) (g_repr : mg "repr" = none) : FnG P w K mg base (L2.CX P w) 9 f fd ["script"] (spF ⟨K, cl⟩ 1 F_law) := by
  refine fn_okC (k := 8) (N := n_law) (m := m_law) D sc_law rfl fun cdv A outer s H E W hr hG tk hp => ?_
  delta m_law a_law
  delta b_law_3
  delta b_law_2
  delta b_law_1
  exact (bs_cons (bs_for hp rfl (bi_range2 (by rfl) g_range (ba_cons be_int (ba_cons be_int ba_nil))) (pg_name (i := 1) sc_law.nd rfl (by first | exact Or.inl rfl | exact Or.inr rfl)) okg_name (bs_cons (bs_set (i := 2) sc_law.nd rfl (by first | exact Or.inl rfl | exact Or.inr rfl) (be_cal c__law_codes (hr.mono (by omega)) hG (by rfl) tk (ba_cons (be_frz (be_var (pv 1))) ba_nil) (len_cons len_nil)))
  (bs_cons (bs_set (i := 3) sc_law.nd rfl (by first | exact Or.inl rfl | exact Or.inr rfl) (be_cal c__law_lots (hr.mono (by omega)) hG (by rfl) tk (ba_cons (be_frz (be_var (pv 2))) ba_nil) (len_cons len_nil)))
  (bs_one (bs_if (bt_cmp (op_neD hr.units) ok_ne (be_lc rfl sc_law.nd (bi_any (by rfl) (be_var (pv 2))) (blkOk_by (N := n_law) (sc := defScope s_law) (own := [("code", 4)]) (by decide +kernel)) rfl (okw_name (by decide)) (fun _ _ _ _ _ => (pg_name (i := 4) sc_law.nd rfl (by first | exact Or.inl rfl | exact Or.inr rfl))) (fun _ _ _ _ _ => (bts_one (bt_not (bt_val (be_cal c__law_code_right (hr.mono (by omega)) hG (by rfl) takesF (ba_cons (be_frz (be_var (pv 4))) (ba_cons (be_frz (be_meth PySem.F.plainAttrs_dict PySem.F.slot_dict_get rfl rfl (mt_getT (by exact units1 hr)) (mt_seeV ok_getT) (by decide) (be_var (pv 3)) (ba_cons (be_frz (be_var (pv 4))) (ba_cons (be_frz (be_lst ba_nil)) ba_nil)))) ba_nil)) (len_cons (len_cons len_nil))))))) (fun _ _ _ _ _ => (be_frz (be_var (pv 4))))) (be_lst ba_nil) (nomark _)) (bs_one (bs_ret be_bl)) bs_nil)))))
  (bs_cons (bs_for hp rfl (bi_range2 (by rfl) g_range (ba_cons be_int (ba_cons be_int ba_nil))) (pg_name (i := 1) sc_law.nd rfl (by first | exact Or.inl rfl | exact Or.inr rfl)) okg_name (bs_cons (bs_set (i := 3) sc_law.nd rfl (by first | exact Or.inl rfl | exact Or.inr rfl) (be_cal c__law_lots (hr.mono (by omega)) hG (by rfl) tk (ba_cons (be_frz (be_cal c__law_all_lines (hr.mono (by omega)) hG (by rfl) tk (ba_cons (be_frz (be_var (pv 1))) (ba_cons (be_frz (be_var (pv 1))) ba_nil)) (len_cons (len_cons len_nil)))) ba_nil) (len_cons len_nil)))
  (bs_one (bs_for hp rfl (bi_any (by rfl) (be_cal c__law_codes (hr.mono (by omega)) hG (by rfl) tk (ba_cons (be_frz (be_var (pv 1))) ba_nil) (len_cons len_nil))) (pg_name (i := 4) sc_law.nd rfl (by first | exact Or.inl rfl | exact Or.inr rfl)) okg_name (bs_cons (bs_set (i := 5) sc_law.nd rfl (by first | exact Or.inl rfl | exact Or.inr rfl) (be_blty call_tuple_of ok_tup (by rfl) g_tuple (by rfl) (ba_cons (be_lc rfl sc_law.nd (bi_range1 (by rfl) g_range (ba_cons (be_var (pv 1)) ba_nil)) (blkOk_by (N := n_law) (sc := defScope s_law) (own := [("person", 6)]) (by decide +kernel)) rfl (okw_name (by decide)) (fun _ _ _ _ _ => (pg_name (i := 6) sc_law.nd rfl (by first | exact Or.inl rfl | exact Or.inr rfl))) (fun _ _ _ _ _ => bts_nil) (fun _ _ _ _ _ => (be_blt (call_minB rfl) ok_min (by rfl) g_min (by rfl) (ba_cons (be_lc rfl sc_law.nd (bi_any (by rfl) (be_ix (ix_dicT (by exact units1 hr)) ok_ixT (be_var (pv 3)) (be_var (pv 4)))) (blkOk_by (own := [("line_here", 7)]) (by rfl)) rfl (okw_name (by decide)) (fun _ _ _ _ _ => (pg_name (i := 7) sc_law.nd rfl (by first | exact Or.inl rfl | exact Or.inr rfl))) (fun _ _ _ _ _ => bts_nil) (fun _ _ _ _ _ => (be_ix ix_seq ok_ix (be_var (pv 7)) (be_var (pv 6))))) ba_nil)))) ba_nil)))
  (bs_one (bs_if (PW.pt (bw_or (bt_cmp (op_neD hr.units) ok_ne (be_reprL rfl hr hG (by rfl) g_repr (ba_cons (be_cal c_least_before (hr.mono (by omega)) hG (by rfl) tk (ba_cons (be_frz (be_var (pv 4))) ba_nil) (len_cons len_nil)) (ba_cons (be_cal c_least_before (hr.mono (by omega)) hG (by rfl) tk (ba_cons (be_frz (be_var (pv 4))) ba_nil) (len_cons len_nil)) ba_nil))) (be_reprL rfl hr hG (by rfl) g_repr (ba_cons (be_var (pv 5)) (ba_cons (be_var (pv 5)) ba_nil))) (nomark _)) (bw_or1 (bt_cmp (op_notInD (by exact units65 hr)) ok_notIn (be_var (pv 5)) (be_ix (ix_dicT (by exact units1 hr)) ok_ixT (be_var (pv 3)) (be_var (pv 4))) (by rfl))))) (bs_one (bs_ret be_bl)) bs_nil)))))))
  (bs_one (bs_ret (be_and (be_cmp (op_eqD hr.units) ok_eq (be_cal c_least_before (hr.mono (by omega)) hG (by rfl) tk (ba_cons (be_tup (ba_cons be_int (ba_cons be_int (ba_cons be_int ba_nil)))) ba_nil) (len_cons len_nil)) (be_tup (ba_cons be_int (ba_cons be_int (ba_cons be_int ba_nil)))) (nomark _)) (be_one (be_not (be_cal c_has_before (hr.mono (by omega)) hG (by rfl) tk (ba_cons (be_tup (ba_cons be_int (ba_cons be_int (ba_cons be_int ba_nil)))) ba_nil) (len_cons len_nil)))))))))
end
/-! ### the head -/
def d_is_int : He.DefD := ⟨("is_int", none), "is_int", "is_int", defArgs s_is_int, defBody s_is_int, defScope s_is_int, [], []⟩
def d_next_row : He.DefD := ⟨("next_row", none), "next_row", "next_row", defArgs s_next_row, defBody s_next_row, defScope s_next_row, [], []⟩
def d_sequence_of : He.DefD := ⟨("sequence_of", none), "sequence_of", "sequence_of", defArgs s_sequence_of, defBody s_sequence_of, defScope s_sequence_of, [], []⟩
def d_least_marks : He.DefD := ⟨("least_marks", none), "least_marks", "least_marks", defArgs s_least_marks, defBody s_least_marks, defScope s_least_marks, [], []⟩
def d_is_rise : He.DefD := ⟨("is_rise", none), "is_rise", "is_rise", defArgs s_is_rise, defBody s_is_rise, defScope s_is_rise, [], []⟩
def d__law_round : He.DefD := ⟨("_law_round", none), "_law_round", "_law_round", defArgs s__law_round, defBody s__law_round, defScope s__law_round, [], []⟩
def d__law_all_lines : He.DefD := ⟨("_law_all_lines", none), "_law_all_lines", "_law_all_lines", defArgs s__law_all_lines, defBody s__law_all_lines, defScope s__law_all_lines, [], []⟩
def d__law_sequence : He.DefD := ⟨("_law_sequence", none), "_law_sequence", "_law_sequence", defArgs s__law_sequence, defBody s__law_sequence, defScope s__law_sequence, [], []⟩
def d__law_codes : He.DefD := ⟨("_law_codes", none), "_law_codes", "_law_codes", defArgs s__law_codes, defBody s__law_codes, defScope s__law_codes, [], []⟩
def d_in_range : He.DefD := ⟨("in_range", none), "in_range", "in_range", defArgs s_in_range, defBody s_in_range, defScope s_in_range, [], []⟩
def d_ways_on : He.DefD := ⟨("ways_on", none), "ways_on", "ways_on", defArgs s_ways_on, defBody s_ways_on, defScope s_ways_on, [], []⟩
def d__law_lots : He.DefD := ⟨("_law_lots", none), "_law_lots", "_law_lots", defArgs s__law_lots, defBody s__law_lots, defScope s__law_lots, [], []⟩
def d_is_mark : He.DefD := ⟨("is_mark", none), "is_mark", "is_mark", defArgs s_is_mark, defBody s_is_mark, defScope s_is_mark, [], []⟩
def d_is_line : He.DefD := ⟨("is_line", none), "is_line", "is_line", defArgs s_is_line, defBody s_is_line, defScope s_is_line, [], []⟩
def d_is_code : He.DefD := ⟨("is_code", none), "is_code", "is_code", defArgs s_is_code, defBody s_is_code, defScope s_is_code, [], []⟩
def d_require_code : He.DefD := ⟨("require_code", none), "require_code", "require_code", defArgs s_require_code, defBody s_require_code, defScope s_require_code, [], []⟩
def d_least_before : He.DefD := ⟨("least_before", none), "least_before", "least_before", defArgs s_least_before, defBody s_least_before, defScope s_least_before, [], []⟩
def d_has_before : He.DefD := ⟨("has_before", none), "has_before", "has_before", defArgs s_has_before, defBody s_has_before, defScope s_has_before, [], []⟩
def d_count_before : He.DefD := ⟨("count_before", none), "count_before", "count_before", defArgs s_count_before, defBody s_count_before, defScope s_count_before, [], []⟩
def d_nth_before : He.DefD := ⟨("nth_before", none), "nth_before", "nth_before", defArgs s_nth_before, defBody s_nth_before, defScope s_nth_before, [], []⟩
def d_number_before : He.DefD := ⟨("number_before", none), "number_before", "number_before", defArgs s_number_before, defBody s_number_before, defScope s_number_before, [], []⟩
def d__law_code_right : He.DefD := ⟨("_law_code_right", none), "_law_code_right", "_law_code_right", defArgs s__law_code_right, defBody s__law_code_right, defScope s__law_code_right, [], []⟩
def d_law : He.DefD := ⟨("law", none), "law", "law", defArgs s_law, defBody s_law, defScope s_law, [], []⟩
def fn : List He.DefD := [d_is_int, d_next_row, d_sequence_of, d_least_marks, d_is_rise, d__law_round, d__law_all_lines, d__law_sequence, d__law_codes, d_in_range, d_ways_on, d__law_lots, d_is_mark, d_is_line, d_is_code, d_require_code, d_least_before, d_has_before, d_count_before, d_nth_before, d_number_before, d__law_code_right, d_law]
def fa : List He.Fa := [.glo "is_int", .glo "next_row", .glo "sequence_of", .glo "least_marks", .glo "is_rise", .glo "_law_round", .glo "_law_all_lines", .glo "_law_sequence", .glo "_law_codes", .glo "in_range", .glo "ways_on", .glo "_law_lots", .glo "is_mark", .glo "is_line", .glo "is_code", .glo "require_code", .glo "least_before", .glo "has_before", .glo "count_before", .glo "nth_before", .glo "number_before", .glo "_law_code_right", .glo "law", .free "isinstance", .free "int", .free "bool", .free "enumerate", .free "len", .free "tuple", .free "zip", .free "range", .free "reversed", .free "all", .free "repr", .free "sorted", .free "list", .free "min", .int "GREATEST" 1000000000000000000000000000000, .int "MOST_PERSONS" 60]
abbrev R : PySem.W.OpenRow := PySem.W.OpenLaw.row PySem.Challenge.rw_countahead_k33_rows_one_round_before
abbrev hk : PySem.W.Hook := He.hookD 4 fa fn
def ob (s : PySem.W.SharedT) : He.AlD := He.obsDG 4 fa fn (HandSHeadRun.getT s)
theorem ob_eq (s : PySem.W.SharedT) : ob s = hk.obs s.abs := He.obsDG_eq (HandSHeadRun.getT_eq s)
theorem run (w : World) : HandSHeadRun.RunEq R (PySem.W.view R.prog [32]) hk ob 4000 ["MarkError", "NoNumber", "NoCode", "MOST_PERSONS", "GREATEST", "is_int", "in_range", "is_mark", "is_line", "is_code", "next_row", "require_code", "sequence_of", "least_marks", "is_rise", "ways_on", "least_before", "has_before", "count_before", "nth_before", "number_before", "_law_round", "_law_all_lines", "_law_sequence", "_law_codes", "_law_lots", "_law_code_right"] w := by
  intro os
  kernel_rfl
theorem facts {P : Program} {w : World} {K : PySem.W.Frag} {h : Heap} {mg : Str → Option Value} {f : Addr} (X : K.In h) (G : h.Ns mainGlobals mg) (hfa : mg ("law" : Str) = some (.ref f)) (c : He.SaysD fa fn K) (cl : List Addr) :
    ∃ fd : FuncData, (∀ (s : Shared) (v : Value), BindsTo s fd ⟨[v], []⟩ [("script", v)]) ∧ ∀ base : Heap, K.In base → base.Ns mainGlobals mg → FnG P w K mg base (L2.CX P w) 9 f fd ["script"] (spF ⟨K, cl⟩ 1 F_law) := by
  obtain ⟨fd_is_int, D_is_int⟩ := c.def_ 0 (d := d_is_int) rfl
  obtain ⟨fd_next_row, D_next_row⟩ := c.def_ 1 (d := d_next_row) rfl
  obtain ⟨fd_sequence_of, D_sequence_of⟩ := c.def_ 2 (d := d_sequence_of) rfl
  obtain ⟨fd_least_marks, D_least_marks⟩ := c.def_ 3 (d := d_least_marks) rfl
  obtain ⟨fd_is_rise, D_is_rise⟩ := c.def_ 4 (d := d_is_rise) rfl
  obtain ⟨fd__law_round, D__law_round⟩ := c.def_ 5 (d := d__law_round) rfl
  obtain ⟨fd__law_all_lines, D__law_all_lines⟩ := c.def_ 6 (d := d__law_all_lines) rfl
  obtain ⟨fd__law_sequence, D__law_sequence⟩ := c.def_ 7 (d := d__law_sequence) rfl
  obtain ⟨fd__law_codes, D__law_codes⟩ := c.def_ 8 (d := d__law_codes) rfl
  obtain ⟨fd_in_range, D_in_range⟩ := c.def_ 9 (d := d_in_range) rfl
  obtain ⟨fd_ways_on, D_ways_on⟩ := c.def_ 10 (d := d_ways_on) rfl
  obtain ⟨fd__law_lots, D__law_lots⟩ := c.def_ 11 (d := d__law_lots) rfl
  obtain ⟨fd_is_mark, D_is_mark⟩ := c.def_ 12 (d := d_is_mark) rfl
  obtain ⟨fd_is_line, D_is_line⟩ := c.def_ 13 (d := d_is_line) rfl
  obtain ⟨fd_is_code, D_is_code⟩ := c.def_ 14 (d := d_is_code) rfl
  obtain ⟨fd_require_code, D_require_code⟩ := c.def_ 15 (d := d_require_code) rfl
  obtain ⟨fd_least_before, D_least_before⟩ := c.def_ 16 (d := d_least_before) rfl
  obtain ⟨fd_has_before, D_has_before⟩ := c.def_ 17 (d := d_has_before) rfl
  obtain ⟨fd_count_before, D_count_before⟩ := c.def_ 18 (d := d_count_before) rfl
  obtain ⟨fd_nth_before, D_nth_before⟩ := c.def_ 19 (d := d_nth_before) rfl
  obtain ⟨fd_number_before, D_number_before⟩ := c.def_ 20 (d := d_number_before) rfl
  obtain ⟨fd__law_code_right, D__law_code_right⟩ := c.def_ 21 (d := d__law_code_right) rfl
  obtain ⟨fd_law, D_law⟩ := c.def_ 22 (d := d_law) rfl
  have g_isinstance := He.free_ok X G (c.fact 23 (f := .free "isinstance") rfl)
  have g_int := He.free_ok X G (c.fact 24 (f := .free "int") rfl)
  have g_bool := He.free_ok X G (c.fact 25 (f := .free "bool") rfl)
  have g_enumerate := He.free_ok X G (c.fact 26 (f := .free "enumerate") rfl)
  have g_len := He.free_ok X G (c.fact 27 (f := .free "len") rfl)
  have g_tuple := He.free_ok X G (c.fact 28 (f := .free "tuple") rfl)
  have g_zip := He.free_ok X G (c.fact 29 (f := .free "zip") rfl)
  have g_range := He.free_ok X G (c.fact 30 (f := .free "range") rfl)
  have g_reversed := He.free_ok X G (c.fact 31 (f := .free "reversed") rfl)
  have g_all := He.free_ok X G (c.fact 32 (f := .free "all") rfl)
  have g_repr := He.free_ok X G (c.fact 33 (f := .free "repr") rfl)
  have g_sorted := He.free_ok X G (c.fact 34 (f := .free "sorted") rfl)
  have g_list := He.free_ok X G (c.fact 35 (f := .free "list") rfl)
  have g_min := He.free_ok X G (c.fact 36 (f := .free "min") rfl)
  obtain ⟨t_GREATEST, g_GREATEST⟩ := He.int_ok X G (c.fact 37 (f := .int "GREATEST" 1000000000000000000000000000000) rfl)
  obtain ⟨t_MOST_PERSONS, g_MOST_PERSONS⟩ := He.int_ok X G (c.fact 38 (f := .int "MOST_PERSONS" 60) rfl)
  have m_is_int := He.glo_ok X G (c.fact 0 (f := .glo "is_int") rfl)
  have m_next_row := He.glo_ok X G (c.fact 1 (f := .glo "next_row") rfl)
  have m_sequence_of := He.glo_ok X G (c.fact 2 (f := .glo "sequence_of") rfl)
  have m_least_marks := He.glo_ok X G (c.fact 3 (f := .glo "least_marks") rfl)
  have m_is_rise := He.glo_ok X G (c.fact 4 (f := .glo "is_rise") rfl)
  have m__law_round := He.glo_ok X G (c.fact 5 (f := .glo "_law_round") rfl)
  have m__law_all_lines := He.glo_ok X G (c.fact 6 (f := .glo "_law_all_lines") rfl)
  have m__law_sequence := He.glo_ok X G (c.fact 7 (f := .glo "_law_sequence") rfl)
  have m__law_codes := He.glo_ok X G (c.fact 8 (f := .glo "_law_codes") rfl)
  have m_in_range := He.glo_ok X G (c.fact 9 (f := .glo "in_range") rfl)
  have m_ways_on := He.glo_ok X G (c.fact 10 (f := .glo "ways_on") rfl)
  have m__law_lots := He.glo_ok X G (c.fact 11 (f := .glo "_law_lots") rfl)
  have m_is_mark := He.glo_ok X G (c.fact 12 (f := .glo "is_mark") rfl)
  have m_is_line := He.glo_ok X G (c.fact 13 (f := .glo "is_line") rfl)
  have m_is_code := He.glo_ok X G (c.fact 14 (f := .glo "is_code") rfl)
  have m_require_code := He.glo_ok X G (c.fact 15 (f := .glo "require_code") rfl)
  have m_least_before := He.glo_ok X G (c.fact 16 (f := .glo "least_before") rfl)
  have m_has_before := He.glo_ok X G (c.fact 17 (f := .glo "has_before") rfl)
  have m_count_before := He.glo_ok X G (c.fact 18 (f := .glo "count_before") rfl)
  have m_nth_before := He.glo_ok X G (c.fact 19 (f := .glo "nth_before") rfl)
  have m_number_before := He.glo_ok X G (c.fact 20 (f := .glo "number_before") rfl)
  have m__law_code_right := He.glo_ok X G (c.fact 21 (f := .glo "_law_code_right") rfl)
  have m_law := He.glo_ok X G (c.fact 22 (f := .glo "law") rfl)
  have e := hfa.symm.trans m_law
  cases e
  have b_law := FunD.bindsA (ps := ["script"]) D_law fun _ _ _ _ _ _ us hl => match us, hl with | [_], _ => rfl
  refine ⟨fd_law, fun s v => b_law s [v] rfl, fun base _ _ => ?_⟩
  have G_is_int := ok_is_int (P := P) (w := w) (mg := mg) (base := base) (cl := cl) D_is_int g_isinstance g_int g_bool
  have c_is_int : Cal P w K mg base cl "is_int" 1 1 F_is_int := ⟨_, _, _, G_is_int, plain_mk, m_is_int, D_is_int.kp, D_is_int.bindsN fun _ _ _ _ _ _ us hl => match us, hl with | [_], _ => rfl⟩
  have G_next_row := ok_next_row (P := P) (w := w) (mg := mg) (base := base) (cl := cl) D_next_row g_enumerate g_len g_tuple
  have c_next_row : Cal P w K mg base cl "next_row" 1 1 F_next_row := ⟨_, _, _, G_next_row, plain_mk, m_next_row, D_next_row.kp, D_next_row.bindsN fun _ _ _ _ _ _ us hl => match us, hl with | [_], _ => rfl⟩
  have G_sequence_of := ok_sequence_of (P := P) (w := w) (mg := mg) (base := base) (cl := cl) D_sequence_of g_enumerate
  have c_sequence_of : Cal P w K mg base cl "sequence_of" 1 1 F_sequence_of := ⟨_, _, _, G_sequence_of, plain_mk, m_sequence_of, D_sequence_of.kp, D_sequence_of.bindsN fun _ _ _ _ _ _ us hl => match us, hl with | [_], _ => rfl⟩
  have G_least_marks := ok_least_marks (P := P) (w := w) (mg := mg) (base := base) (cl := cl) D_least_marks g_len g_zip g_int g_tuple
  have c_least_marks : Cal P w K mg base cl "least_marks" 1 1 F_least_marks := ⟨_, _, _, G_least_marks, plain_mk, m_least_marks, D_least_marks.kp, D_least_marks.bindsN fun _ _ _ _ _ _ us hl => match us, hl with | [_], _ => rfl⟩
  have G_is_rise := ok_is_rise (P := P) (w := w) (mg := mg) (base := base) (cl := cl) D_is_rise g_len
  have c_is_rise : Cal P w K mg base cl "is_rise" 1 2 F_is_rise := ⟨_, _, _, G_is_rise, plain_mk, m_is_rise, D_is_rise.kp, D_is_rise.bindsN fun _ _ _ _ _ _ us hl => match us, hl with | [_, _], _ => rfl⟩
  have G__law_round := ok__law_round (P := P) (w := w) (mg := mg) (base := base) (cl := cl) D__law_round g_enumerate g_len g_tuple
  have c__law_round : Cal P w K mg base cl "_law_round" 1 1 F__law_round := ⟨_, _, _, G__law_round, plain_mk, m__law_round, D__law_round.kp, D__law_round.bindsN fun _ _ _ _ _ _ us hl => match us, hl with | [_], _ => rfl⟩
  have G__law_all_lines := ok__law_all_lines (P := P) (w := w) (mg := mg) (base := base) (cl := cl) D__law_all_lines g_range
  have c__law_all_lines : Cal P w K mg base cl "_law_all_lines" 1 2 F__law_all_lines := ⟨_, _, _, G__law_all_lines, plain_mk, m__law_all_lines, D__law_all_lines.kp, D__law_all_lines.bindsN fun _ _ _ _ _ _ us hl => match us, hl with | [_, _], _ => rfl⟩
  have G__law_sequence := ok__law_sequence (P := P) (w := w) (mg := mg) (base := base) (cl := cl) D__law_sequence g_enumerate
  have c__law_sequence : Cal P w K mg base cl "_law_sequence" 1 1 F__law_sequence := ⟨_, _, _, G__law_sequence, plain_mk, m__law_sequence, D__law_sequence.kp, D__law_sequence.bindsN fun _ _ _ _ _ _ us hl => match us, hl with | [_], _ => rfl⟩
  have G__law_codes := ok__law_codes (P := P) (w := w) (mg := mg) (base := base) (cl := cl) D__law_codes g_range
  have c__law_codes : Cal P w K mg base cl "_law_codes" 1 1 F__law_codes := ⟨_, _, _, G__law_codes, plain_mk, m__law_codes, D__law_codes.kp, D__law_codes.bindsN fun _ _ _ _ _ _ us hl => match us, hl with | [_], _ => rfl⟩
  have G_in_range := ok_in_range (P := P) (w := w) (mg := mg) (base := base) (cl := cl) D_in_range c_is_int
  have c_in_range : Cal P w K mg base cl "in_range" 2 3 F_in_range := ⟨_, _, _, G_in_range, plain_mk, m_in_range, D_in_range.kp, D_in_range.bindsN fun _ _ _ _ _ _ us hl => match us, hl with | [_, _, _], _ => rfl⟩
  have G_ways_on := ok_ways_on (P := P) (w := w) (mg := mg) (base := base) (cl := cl) D_ways_on c_is_rise g_len g_reversed g_range g_int
  have c_ways_on : Cal P w K mg base cl "ways_on" 2 1 F_ways_on := ⟨_, _, _, G_ways_on, plain_mk, m_ways_on, D_ways_on.kp, D_ways_on.bindsN fun _ _ _ _ _ _ us hl => match us, hl with | [_], _ => rfl⟩
  have G__law_lots := ok__law_lots (P := P) (w := w) (mg := mg) (base := base) (cl := cl) D__law_lots c__law_round
  have c__law_lots : Cal P w K mg base cl "_law_lots" 2 1 F__law_lots := ⟨_, _, _, G__law_lots, plain_mk, m__law_lots, D__law_lots.kp, D__law_lots.bindsN fun _ _ _ _ _ _ us hl => match us, hl with | [_], _ => rfl⟩
  have G_is_mark := ok_is_mark (P := P) (w := w) (mg := mg) (base := base) (cl := cl) D_is_mark c_in_range g_GREATEST
  have c_is_mark : Cal P w K mg base cl "is_mark" 3 1 F_is_mark := ⟨_, _, _, G_is_mark, plain_mk, m_is_mark, D_is_mark.kp, D_is_mark.bindsN fun _ _ _ _ _ _ us hl => match us, hl with | [_], _ => rfl⟩
  have G_is_line := ok_is_line (P := P) (w := w) (mg := mg) (base := base) (cl := cl) D_is_line c_is_mark g_isinstance g_tuple g_len g_all g_MOST_PERSONS
  have c_is_line : Cal P w K mg base cl "is_line" 4 1 F_is_line := ⟨_, _, _, G_is_line, plain_mk, m_is_line, D_is_line.kp, D_is_line.bindsN fun _ _ _ _ _ _ us hl => match us, hl with | [_], _ => rfl⟩
  have G_is_code := ok_is_code (P := P) (w := w) (mg := mg) (base := base) (cl := cl) D_is_code c_is_line g_enumerate g_all
  have c_is_code : Cal P w K mg base cl "is_code" 5 1 F_is_code := ⟨_, _, _, G_is_code, plain_mk, m_is_code, D_is_code.kp, D_is_code.bindsN fun _ _ _ _ _ _ us hl => match us, hl with | [_], _ => rfl⟩
  have G_require_code := ok_require_code (P := P) (w := w) (mg := mg) (base := base) (cl := cl) D_require_code c_is_code
  have c_require_code : Cal P w K mg base cl "require_code" 6 1 F_require_code := ⟨_, _, _, G_require_code, plain_mk, m_require_code, D_require_code.kp, D_require_code.bindsN fun _ _ _ _ _ _ us hl => match us, hl with | [_], _ => rfl⟩
  have G_least_before := ok_least_before (P := P) (w := w) (mg := mg) (base := base) (cl := cl) D_least_before c_require_code c_least_marks c_sequence_of
  have c_least_before : Cal P w K mg base cl "least_before" 7 1 F_least_before := ⟨_, _, _, G_least_before, plain_mk, m_least_before, D_least_before.kp, D_least_before.bindsN fun _ _ _ _ _ _ us hl => match us, hl with | [_], _ => rfl⟩
  have G_has_before := ok_has_before (P := P) (w := w) (mg := mg) (base := base) (cl := cl) D_has_before c_require_code c_least_marks c_sequence_of g_enumerate g_all
  have c_has_before : Cal P w K mg base cl "has_before" 7 1 F_has_before := ⟨_, _, _, G_has_before, plain_mk, m_has_before, D_has_before.kp, D_has_before.bindsN fun _ _ _ _ _ _ us hl => match us, hl with | [_], _ => rfl⟩
  have G_count_before := ok_count_before (P := P) (w := w) (mg := mg) (base := base) (cl := cl) D_count_before c_require_code c_ways_on c_sequence_of
  have c_count_before : Cal P w K mg base cl "count_before" 7 1 F_count_before := ⟨_, _, _, G_count_before, plain_mk, m_count_before, D_count_before.kp, D_count_before.bindsN fun _ _ _ _ _ _ us hl => match us, hl with | [_], _ => rfl⟩
  have G_nth_before := ok_nth_before (P := P) (w := w) (mg := mg) (base := base) (cl := cl) D_nth_before c_require_code c_sequence_of c_ways_on c_in_range c_is_rise g_len g_enumerate g_int g_tuple
  have c_nth_before : Cal P w K mg base cl "nth_before" 7 2 F_nth_before := ⟨_, _, _, G_nth_before, plain_mk, m_nth_before, D_nth_before.kp, D_nth_before.bindsN fun _ _ _ _ _ _ us hl => match us, hl with | [_, _], _ => rfl⟩
  have G_number_before := ok_number_before (P := P) (w := w) (mg := mg) (base := base) (cl := cl) D_number_before c_require_code c_sequence_of c_next_row c_ways_on c_is_rise g_enumerate g_int
  have c_number_before : Cal P w K mg base cl "number_before" 7 1 F_number_before := ⟨_, _, _, G_number_before, plain_mk, m_number_before, D_number_before.kp, D_number_before.bindsN fun _ _ _ _ _ _ us hl => match us, hl with | [_], _ => rfl⟩
  have G__law_code_right := ok__law_code_right (P := P) (w := w) (mg := mg) (base := base) (cl := cl) D__law_code_right c__law_sequence c_has_before c_count_before c_nth_before c_number_before g_repr g_sorted g_range g_len g_list
  have c__law_code_right : Cal P w K mg base cl "_law_code_right" 8 2 F__law_code_right := ⟨_, _, _, G__law_code_right, plain_mk, m__law_code_right, D__law_code_right.kp, D__law_code_right.bindsN fun _ _ _ _ _ _ us hl => match us, hl with | [_, _], _ => rfl⟩
  have G_law := ok_law (P := P) (w := w) (mg := mg) (base := base) (cl := cl) D_law c__law_codes c__law_lots c__law_code_right c__law_all_lines c_least_before c_has_before g_range g_min g_tuple g_repr
  exact G_law
end
end LK33
namespace LK33
open PySem PySem.Spec PyProof.Rows L2 BL
def S_is_int (F : Fn) : Prop := ∀ p st, knd p → F [.val p] st = .ok (.val (.bl (isI p))) [] st
def S_next_row (F : Fn) : Prop := ∀ x st, x.length ≤ 1000 → F [.val (Tx .int x)] st = .ok (.val (Tx .int (roundL x))) [] st
def S_sequence_of (F : Fn) : Prop := ∀ c st, c.length ≤ 1000 → Cd c → F [.val (Tx .int c)] st = .ok (.fresh (Lx .int (seqB c c.length))) [] st
def S_least_marks (F : Fn) : Prop := ∀ s st, s.length ≤ 1000 → (∀ a ∈ s, 0 ≤ a ∧ a < s.length) → F [.val (Lx .int s)] st = .ok (.val (Tx .int (leastM s))) [] st
def S_is_rise (F : Fn) : Prop := ∀ (s : List Int) (i : Nat) st, s.length ≤ 1000 → i < s.length → F [.val (Lx .int s), .val (.int i)] st = .ok (.val (.bl (riB s i))) [] st
def S__law_round (F : Fn) : Prop := ∀ x st, x.length ≤ 1000 → F [.val (Tx .int x)] st = .ok (.val (Tx .int (roundL x))) [] st
def S__law_all_lines (F : Fn) : Prop := ∀ (n : Nat) st, 1 ≤ n → n ≤ 4 → F [.val (.int n), .val (.int n)] st = .ok (.val (Lx (Tx .int) (linesL n n))) [] st
def S__law_sequence (F : Fn) : Prop := ∀ c st, c.length ≤ 1000 → Cd c → F [.val (Tx .int c)] st = .ok (.fresh (Lx .int (seqB c c.length))) [] st
def S__law_codes (F : Fn) : Prop := ∀ (n : Nat) st, 1 ≤ n → n ≤ 6 → F [.val (.int n)] st = .ok (.val (Lx (Tx .int) (rowsL n))) [] st
def S_in_range (F : Fn) : Prop := ∀ p (a b : Int) st, knd p → F [.val p, .val (.int a), .val (.int b)] st = .ok (.val (.bl (btw p a b))) [] st
def S_ways_on (F : Fn) : Prop := ∀ (s : List Int) st, s.length ≤ 1000 → (∀ a ∈ s, 0 ≤ a ∧ a < s.length) → F [.val (Lx .int s)] st = .ok (.fresh (Lx (Lx .int) (wayT s))) [] st
def S__law_lots (F : Fn) : Prop := ∀ (ls : List (List Int)) st, ls.length ≤ 1000 → (∀ l ∈ ls, l.length ≤ 1000) → F [.val (Lx (Tx .int) ls)] st = .ok (.fresh (Dt (Lx (Tx .int)) (lotsL ls))) [] st
def S_is_mark (F : Fn) : Prop := ∀ p st, knd p → F [.val p] st = .ok (.val (.bl (isMk p))) [] st
def S_is_line (F : Fn) : Prop := ∀ p st, kndT p → F [.val p] st = .ok (.val (.bl (isLn p))) [] st
def intsOf : PV → List Int
  | .tup xs => xs.map fun p => match p with | .int i => i | _ => 0
  | _ => []
def cdB (l : List Int) : Bool := (l.zipIdx.map fun z => decide (0 ≤ z.1) && decide (z.1 ≤ ((z.2 : Nat) : Int))).all id
def isCd (p : PV) : Bool := isLn p && cdB (intsOf p)
theorem isLn_ints {p : PV} (h : isLn p = true) : p = Tx .int (intsOf p) ∧ (intsOf p).length ≤ 60 := by
  cases p with
  | tup xs =>
    rw [isLn_tup] at h
    simp only [Bool.and_eq_true, decide_eq_true_eq, List.all_eq_true] at h
    refine ⟨?_, by unfold intsOf; rw [List.length_map]; exact h.1.2⟩
    unfold Tx intsOf
    rw [List.map_map]
    congr 1
    conv => lhs; rw [← List.map_id xs]
    refine List.map_congr_left fun q hq => ?_
    have := h.2 q hq
    cases q <;> first | rfl | exact absurd this Bool.false_ne_true
  | _ => exact absurd h Bool.false_ne_true
theorem intsOf_T {l : List Int} : intsOf (Tx .int l) = l := by
  unfold intsOf Tx
  dsimp only
  rw [List.map_map]
  conv => rhs; rw [← List.map_id l]
  rfl
theorem cdB_iff {l : List Int} : cdB l = true ↔ Cd l := by
  unfold cdB Cd
  rw [List.all_eq_true]
  constructor
  · intro h i hi
    have := h (decide (0 ≤ l[i]) && decide (l[i] ≤ ((i : Nat) : Int))) (List.mem_map.mpr ⟨(l[i], i), by rw [List.mem_iff_getElem]; exact ⟨i, by simpa using hi, by simp⟩, rfl⟩)
    rw [List.getD_eq_getElem?_getD, List.getElem?_eq_getElem hi]
    simpa using this
  · intro h b hb
    obtain ⟨z, hz, rfl⟩ := List.mem_map.mp hb
    obtain ⟨i, hi, rfl⟩ := List.getElem_of_mem hz
    rw [List.length_zipIdx] at hi
    have := h i hi
    rw [List.getD_eq_getElem?_getD, List.getElem?_eq_getElem hi] at this
    simpa using this
def S_is_code (F : Fn) : Prop := ∀ p st, kndT p → F [.val p] st = .ok (.val (.bl (isCd p))) [] st
def S_require_code (F : Fn) : Prop := ∀ l st, 1 ≤ l.length → l.length ≤ 60 → Cd l → F [.val (Tx .int l)] st = .ok (.val .non) [] st
def S_least_before (F : Fn) : Prop := ∀ c st, 1 ≤ c.length → c.length ≤ 60 → Cd c → F [.val (Tx .int c)] st = .ok (.val (Tx .int (leastM (seqB c c.length)))) [] st
def S_has_before (F : Fn) : Prop := ∀ (c : List Int) st, 1 ≤ c.length → c.length ≤ 60 → Cd c → F [.val (Tx .int c)] st = .ok (.val (.bl (hasB c))) [] st
def S_count_before (F : Fn) : Prop := ∀ (c : List Int) st, 1 ≤ c.length → c.length ≤ 60 → Cd c → F [.val (Tx .int c)] st = .ok (.val (.int (cntB c))) [] st
def S_nth_before (F : Fn) : Prop := ∀ (c : List Int) (n : Int) (res : List Int) st, 1 ≤ c.length → c.length ≤ 60 → Cd c → 0 ≤ n → n < cntB c → nthB c n = some res → F [.val (Tx .int c), .val (.int n)] st = .ok (.val (Tx .int res)) [] st
def S_number_before (F : Fn) : Prop := ∀ (c : List Int) st, 1 ≤ c.length → c.length ≤ 60 → Cd c → F [.val (Tx .int c)] st = .ok (.val (.int (numB c))) [] st
def S__law_code_right (F : Fn) : Prop := ∀ (c : List Int) (lot : List (List Int)) st, 1 ≤ c.length → c.length ≤ 5 → Cd c → okC c lot = true → F [.val (Tx .int c), .val (Lx (Tx .int) lot)] st = .ok (.val (.bl true)) [] st
theorem w_is_int : S_is_int (mkFn 1 1 (a_is_int)) := by
  intro p st hk
  cases p <;> first | exact absurd hk Bool.false_ne_true | kernel_rfl
-- lemmas
theorem round_zip2 (x : List Int) : x.zipIdx.map (fun z => (((x.take z.2).filter fun y => decide (y < z.1)).length : Int)) = roundL x := by
  apply List.ext_getElem
  · rw [List.length_map, List.length_zipIdx, roundL_length]
  · intro i h1 h2
    rw [List.length_map, List.length_zipIdx] at h1
    unfold roundL cntL
    simp [h1]
theorem w_next_row : S_next_row (mkFn 1 4 (a_next_row)) := by
  intro x st hl
  refine fp_eq ?_
  unfold a_next_row
  simp_arith []
  refine comp_en (g := .int) x (fun _ => true) (fun z => (((x.take z.2).filter fun y => decide (y < z.1)).length : Int)) (by omega) (fun i hi => ?_) ?_
  · simp_arith []
    refine wT_of rfl (fun _ => ?_) (fun h => by cases h)
    simp_arith []
    refine comp_in (g := .int) (x.take i) (fun y => decide (y < x[i])) (fun _ => (1 : Int)) (by rw [List.length_take]; omega) (fun j hj => ?_) ?_
    · simp_arith []
      refine wT_of rfl (fun h => ?_) (fun h => ?_)
      · simp_arith []
        exact kp ⟨rfl, rfl, rfl⟩
      · exact kp ⟨rfl, rfl⟩
    · have e1 : PV.lst ((((x.take i).filter fun y => decide (y < x[i])).map fun _ => (1 : Int)).map PV.int) = Lx .int (((x.take i).filter fun y => decide (y < x[i])).map fun _ => (1 : Int)) := rfl
      have e2 : (((x.take i).filter fun y => decide (y < x[i])).map fun _ => (1 : Int)).length = ((x.take i).filter fun y => decide (y < x[i])).length := List.length_map ..
      rw [e1]
      generalize ((x.take i).filter fun y => decide (y < x[i])).map (fun _ => (1 : Int)) = ones at e2
      simp_arith [e2]
      exact kp ⟨rfl, rfl, rfl⟩
  · rw [List.filter_eq_self.mpr fun _ _ => rfl, round_zip2]
    simp_arith []
    exact kp ⟨rfl, rfl, rfl⟩
theorem w_sequence_of : S_sequence_of (mkFn 1 4 (a_sequence_of)) := by
  intro c st hl hc
  refine fp_eq ?_
  unfold a_sequence_of
  simp_arith []
  refine wp_for_en (I := fun i r => ∃ w1 w2, r = ⟨[.val (Tx .int c), .own false (Lx .int (seqB c i)), w1, w2], [], st⟩) ⟨_, _, rfl⟩ ?_ ?_
  · rintro i hi r ⟨w1, w2, rfl⟩
    unfold b_sequence_of_1
    have hs := seqB_length c i
    have hx := hc i hi
    rw [getD_get hi] at hx
    simp_arith []
    exact kp ⟨.val (.int i), .val (.int c[i]), by rw [seqB, getD_get hi]⟩
  · rintro r ⟨w1, w2, rfl⟩
    simp_arith []
    exact kp ⟨rfl, rfl, rfl⟩
theorem w_least_marks : S_least_marks (mkFn 1 4 (a_least_marks)) := by
  intro s st hl hm
  refine fp_eq ?_
  unfold a_least_marks
  simp_arith []
  refine wp_for_zip (I := fun i r => ∃ w1 w2, r = ⟨[.val (Lx .int s), .own false (Lx .int (lmB s i)), w1, w2], [], st⟩) ⟨_, _, rfl⟩ ?_ ?_
  · rintro i h1 h2 r ⟨w1, w2, rfl⟩
    rw [List.length_drop] at h2
    unfold b_least_marks_1
    have hs := lmB_length s i
    have hd : (List.drop 1 s)[i]'(by rw [List.length_drop]; exact h2) = s.getD (i + 1) 0 := by
      rw [List.getElem_drop, getD_get (show i + 1 < s.length by omega)]
      congr 1
      omega
    have he : s[i] = s.getD i 0 := (getD_get h1).symm
    have m1 := hm _ (List.getElem_mem h1)
    have m2 := hm _ (List.mem_of_mem_drop (List.getElem_mem (show i < (List.drop 1 s).length by rw [List.length_drop]; exact h2)))
    rw [hd] at m2 ⊢
    rw [he] at m1 ⊢
    simp_arith []
    exact kp ⟨.val (.int (s.getD i 0)), .val (.int (s.getD (i + 1) 0)), rfl⟩
  · rintro r ⟨w1, w2, rfl⟩
    rw [List.length_drop, show min s.length (s.length - 1) = s.length - 1 by omega]
    simp_arith []
    exact kp ⟨rfl, rfl, rfl⟩
theorem w_is_rise : S_is_rise (mkFn 2 2 (a_is_rise)) := by
  intro s i st hl hi
  refine fp_eq ?_
  unfold a_is_rise
  simp_arith []
  refine wI_dec (fun h => ?_) (fun h => ?_)
  · have h1 : i + 1 < s.length := by omega
    have e1 : gx s ((i : Int) + 1) = s.getD (i + 1) 0 := by rw [show (i : Int) + 1 = ((i + 1 : Nat) : Int) by omega, gx_nat]; rfl
    have e2 : gx s (i : Int) = s.getD i 0 := gx_nat
    simp_arith []
    refine kp ⟨?_, rfl, rfl⟩
    unfold riB
    rw [e1, e2, decide_eq_true h1]
    rfl
  · refine kp ⟨?_, rfl, rfl⟩
    unfold riB
    rw [decide_eq_false (p := i + 1 < s.length) (by omega)]
    rfl
-- lemmas
theorem round_zip (x : List Int) : x.zipIdx.map (fun z => (((x.take z.2).filter fun y => decide (y < z.1)).length : Int)) = roundL x := by
  apply List.ext_getElem
  · rw [List.length_map, List.length_zipIdx, roundL_length]
  · intro i h1 h2
    rw [List.length_map, List.length_zipIdx] at h1
    unfold roundL cntL
    simp [h1]
theorem w__law_round : S__law_round (mkFn 1 4 (a__law_round)) := by
  intro x st hl
  refine fp_eq ?_
  unfold a__law_round
  simp_arith []
  refine comp_en (g := .int) x (fun _ => true) (fun z => (((x.take z.2).filter fun y => decide (y < z.1)).length : Int)) (by omega) (fun i hi => ?_) ?_
  · simp_arith []
    refine wT_of rfl (fun _ => ?_) (fun h => by cases h)
    simp_arith []
    refine comp_in (g := .int) (x.take i) (fun y => decide (y < x[i])) id (by rw [List.length_take]; omega) (fun j hj => ?_) ?_
    · simp_arith []
      refine wT_of rfl (fun h => ?_) (fun h => ?_)
      · simp_arith []
        exact kp ⟨rfl, rfl, rfl⟩
      · exact kp ⟨rfl, rfl⟩
    · rw [List.map_id]
      simp_arith []
      exact kp ⟨rfl, rfl, rfl⟩
  · rw [List.filter_eq_self.mpr fun _ _ => rfl, round_zip]
    simp_arith []
    exact kp ⟨rfl, rfl, rfl⟩
-- lemmas
theorem lines_pre {k : Nat} : ∀ {ls : List (List Int)} {i : Nat}, (hi : i < ls.length) → ((ls.take (i + 1)).flatMap fun r => (rgI 0 k).map fun m => r ++ [m]) = ((ls.take i).flatMap fun r => (rgI 0 k).map fun m => r ++ [m]) ++ (rgI 0 k).map fun m => ls[i] ++ [m] := by
  intro ls i hi
  rw [List.take_succ, List.getElem?_eq_getElem hi, List.flatMap_append]
  simp
theorem fm_len {k : Nat} : ∀ ls : List (List Int), (ls.flatMap fun r => (rgI 0 k).map fun m => r ++ [m]).length = ls.length * k
  | [] => by simp
  | a :: ls => by rw [List.flatMap_cons, List.length_append, fm_len ls, List.length_map, rgI_length, List.length_cons, Nat.add_mul]; omega
theorem lines_len (m : Nat) : ∀ n, (linesL m n).length = m ^ n
  | 0 => rfl
  | n + 1 => by rw [linesL, fm_len, lines_len m n, Nat.pow_succ]
theorem lines_row (m : Nat) : ∀ n, ∀ r ∈ linesL m n, r.length = n
  | 0, r, h => by
    have h : r ∈ [[]] := h
    rw [List.mem_singleton.mp h]
    rfl
  | n + 1, r, h => by
    rw [linesL] at h
    obtain ⟨y, hy, h⟩ := List.mem_flatMap.mp h
    obtain ⟨m, _, rfl⟩ := List.mem_map.mp h
    rw [List.length_append, lines_row _ n y hy]
    rfl
theorem w__law_all_lines : S__law_all_lines (mkFn 2 7 (a__law_all_lines)) := by
  intro n st hn1 hn
  refine fp_eq ?_
  unfold a__law_all_lines
  have e0 : PV.lst [.tup []] = Lx (Tx .int) (linesL n 0) := rfl
  have e00 : PV.lst [] = Lx (Tx .int) [] := rfl
  simp_arith [e0]
  refine wp_for_rg (I := fun v r => ∃ w1 w2 w3 w4, (w1 = .own false (Lx (Tx .int) (linesL n v.toNat)) ∨ w1 = .val (Lx (Tx .int) (linesL n v.toNat))) ∧ (0 < v → w1 = .val (Lx (Tx .int) (linesL n v.toNat))) ∧ r = ⟨[.val (.int n), .val (.int n), w1, w2, w3, w4, .no], [], st⟩) ⟨_, _, _, _, .inl rfl, fun h => absurd h (by omega), rfl⟩ ?_ ?_
  · rintro v h0 h1 r ⟨w1, w2, w3, w4, hw, _, rfl⟩
    unfold b__law_all_lines_2
    have hlen : (linesL n v.toNat).length ≤ 64 := by
      rw [lines_len]
      have a1 : n ^ v.toNat ≤ 4 ^ v.toNat := Nat.pow_le_pow_left hn _
      have a2 : 4 ^ v.toNat ≤ 4 ^ 3 := Nat.pow_le_pow_right (by decide) (by omega)
      omega
    have hrow := lines_row n v.toNat
    have pre_len : ∀ i, i ≤ (linesL n v.toNat).length → (((linesL n v.toNat).take i).flatMap fun r => (rgI 0 n).map fun m => r ++ [m]).length ≤ 256 := by
      intro i hi
      rw [fm_len, List.length_take, Nat.min_eq_left hi]
      have : i * n ≤ 64 * 4 := Nat.mul_le_mul (by omega) hn
      omega
    rcases hw with rfl | rfl
    · simp_arith [e00]
      refine wp_for_in (f := Tx PV.int) (xs := linesL n v.toNat) (I := fun i r => ∃ w4, r = ⟨[.val (.int n), .val (.int n), .own true (Lx (Tx .int) (linesL n v.toNat)), .val (.int v), .own false (Lx (Tx .int) (((linesL n v.toNat).take i).flatMap fun r => (rgI 0 n).map fun m => r ++ [m])), w4, .no], [], st⟩) ⟨_, rfl⟩ ?_ ?_
      · rintro i hi r ⟨w4, rfl⟩
        unfold b__law_all_lines_1
        have hr := hrow _ (List.getElem_mem hi)
        have hpre := lines_pre (k := n) hi
        have hfl := pre_len i (by omega)
        simp_arith []
        rw [rgIt_eq]
        refine comp_map (f := .int) (g := Tx .int) (rgI 0 n) (fun m => (linesL n v.toNat)[i] ++ [m]) (by rw [rgI_length]; omega) (fun j hj => ?_) ?_
        · simp_arith []
          exact kp ⟨rfl, rfl, rfl⟩
        · have e3 : PV.lst (((rgI 0 n).map fun m => (linesL n v.toNat)[i] ++ [m]).map (Tx .int)) = Lx (Tx .int) ((rgI 0 n).map fun m => (linesL n v.toNat)[i] ++ [m]) := rfl
          simp_arith [e3]
          exact kp ⟨_, by rw [hpre]⟩
      · rintro r ⟨w4, rfl⟩
        rw [List.take_length]
        simp_arith []
        exact kp ⟨_, _, _, _, .inr rfl, fun _ => rfl, by rw [show (v + 1).toNat = v.toNat + 1 by omega]; rfl⟩
    · simp_arith [e00]
      refine wp_for_in (f := Tx PV.int) (xs := linesL n v.toNat) (I := fun i r => ∃ w4, r = ⟨[.val (.int n), .val (.int n), .val (Lx (Tx .int) (linesL n v.toNat)), .val (.int v), .own false (Lx (Tx .int) (((linesL n v.toNat).take i).flatMap fun r => (rgI 0 n).map fun m => r ++ [m])), w4, .no], [], st⟩) ⟨_, rfl⟩ ?_ ?_
      · rintro i hi r ⟨w4, rfl⟩
        unfold b__law_all_lines_1
        have hr := hrow _ (List.getElem_mem hi)
        have hpre := lines_pre (k := n) hi
        have hfl := pre_len i (by omega)
        simp_arith []
        rw [rgIt_eq]
        refine comp_map (f := .int) (g := Tx .int) (rgI 0 n) (fun m => (linesL n v.toNat)[i] ++ [m]) (by rw [rgI_length]; omega) (fun j hj => ?_) ?_
        · simp_arith []
          exact kp ⟨rfl, rfl, rfl⟩
        · have e3 : PV.lst (((rgI 0 n).map fun m => (linesL n v.toNat)[i] ++ [m]).map (Tx .int)) = Lx (Tx .int) ((rgI 0 n).map fun m => (linesL n v.toNat)[i] ++ [m]) := rfl
          simp_arith [e3]
          exact kp ⟨_, by rw [hpre]⟩
      · rintro r ⟨w4, rfl⟩
        rw [List.take_length]
        simp_arith []
        exact kp ⟨_, _, _, _, .inr rfl, fun _ => rfl, by rw [show (v + 1).toNat = v.toNat + 1 by omega]; rfl⟩
  · rintro r ⟨w1, w2, w3, w4, _, hw, rfl⟩
    rw [hw (by omega)]
    simp_arith []
    exact kp ⟨by rw [show ((0 : Int) + (n : Nat)).toNat = n by omega], rfl, rfl⟩
theorem w__law_sequence : S__law_sequence (mkFn 1 4 (a__law_sequence)) := by
  intro c st hl hc
  refine fp_eq ?_
  unfold a__law_sequence
  simp_arith []
  refine wp_for_en (I := fun i r => ∃ w1 w2, r = ⟨[.val (Tx .int c), .own false (Lx .int (seqB c i)), w1, w2], [], st⟩) ⟨_, _, rfl⟩ ?_ ?_
  · rintro i hi r ⟨w1, w2, rfl⟩
    unfold b__law_sequence_1
    have hs := seqB_length c i
    have hx := hc i hi
    rw [getD_get hi] at hx
    simp_arith []
    exact kp ⟨.val (.int i), .val (.int c[i]), by rw [seqB, getD_get hi]⟩
  · rintro r ⟨w1, w2, rfl⟩
    simp_arith []
    exact kp ⟨rfl, rfl, rfl⟩
-- lemmas
theorem rows_preC {k : Nat} : ∀ {ls : List (List Int)} {i : Nat}, (hi : i < ls.length) → ((ls.take (i + 1)).flatMap fun r => (rgI 0 k).map fun m => r ++ [m]) = ((ls.take i).flatMap fun r => (rgI 0 k).map fun m => r ++ [m]) ++ (rgI 0 k).map fun m => ls[i] ++ [m] := by
  intro ls i hi
  rw [List.take_succ, List.getElem?_eq_getElem hi, List.flatMap_append]
  simp
theorem w__law_codes : S__law_codes (mkFn 1 6 (a__law_codes)) := by
  intro n st hn1 hn
  refine fp_eq ?_
  unfold a__law_codes
  have e0 : PV.lst [.tup []] = Lx (Tx .int) (rowsL 0) := rfl
  have e00 : PV.lst [] = Lx (Tx .int) [] := rfl
  simp_arith [e0]
  refine wp_for_rg (I := fun v r => ∃ w1 w2 w3 w4, (w1 = .own false (Lx (Tx .int) (rowsL v.toNat)) ∨ w1 = .val (Lx (Tx .int) (rowsL v.toNat))) ∧ (0 < v → w1 = .val (Lx (Tx .int) (rowsL v.toNat))) ∧ r = ⟨[.val (.int n), w1, w2, w3, w4, .no], [], st⟩) ⟨_, _, _, _, .inl rfl, fun h => absurd h (by omega), rfl⟩ ?_ ?_
  · rintro v h0 h1 r ⟨w1, w2, w3, w4, hw, _, rfl⟩
    unfold b__law_codes_2
    have hv5 : v.toNat + 1 ≤ 6 := by omega
    have hlen := rows_len6 v.toNat (by omega)
    have hlen2 := rows_len6 (v.toNat + 1) hv5
    have hrow := fun r hr => (rows_row v.toNat r hr).1
    have pre_len : ∀ i, i ≤ (rowsL v.toNat).length → (((rowsL v.toNat).take i).flatMap fun r => (rgI 0 (v.toNat + 1)).map fun m => r ++ [m]).length ≤ 720 * 7 := by
      intro i
      induction i with
      | zero => intro _; simp
      | succ i ih =>
        intro hi
        have : (((rowsL v.toNat).take (i + 1)).flatMap fun r => (rgI 0 (v.toNat + 1)).map fun m => r ++ [m]).length = (i + 1) * (v.toNat + 1) := by
          have key : ∀ ls : List (List Int), (ls.flatMap fun r => (rgI 0 (v.toNat + 1)).map fun m => r ++ [m]).length = ls.length * (v.toNat + 1) := by
            intro ls
            induction ls with
            | nil => simp
            | cons a ls ih => rw [List.flatMap_cons, List.length_append, ih, List.length_map, rgI_length, List.length_cons, Nat.add_mul]; omega
          rw [key, List.length_take, Nat.min_eq_left hi]
        rw [this]
        exact Nat.mul_le_mul (by omega) (by omega)
    rcases hw with rfl | rfl
    · simp_arith [e00]
      refine wp_for_in (f := Tx PV.int) (xs := rowsL v.toNat) (I := fun i r => ∃ w4, r = ⟨[.val (.int n), .own true (Lx (Tx .int) (rowsL v.toNat)), .val (.int v), .own false (Lx (Tx .int) (((rowsL v.toNat).take i).flatMap fun r => (rgI 0 (v.toNat + 1)).map fun m => r ++ [m])), w4, .no], [], st⟩) ⟨_, rfl⟩ ?_ ?_
      · rintro i hi r ⟨w4, rfl⟩
        unfold b__law_codes_1
        have hr := hrow _ (List.getElem_mem hi)
        have hpre := rows_preC (k := v.toNat + 1) hi
        have hfl := pre_len i (by omega)
        simp_arith []
        rw [rgIt_eq, show (v + 1).toNat = v.toNat + 1 by omega]
        refine comp_map (f := .int) (g := Tx .int) (rgI 0 (v.toNat + 1)) (fun m => (rowsL v.toNat)[i] ++ [m]) (by rw [rgI_length]; omega) (fun j hj => ?_) ?_
        · simp_arith []
          exact kp ⟨rfl, rfl, rfl⟩
        · have e3 : PV.lst (((rgI 0 (v.toNat + 1)).map fun m => (rowsL v.toNat)[i] ++ [m]).map (Tx .int)) = Lx (Tx .int) ((rgI 0 (v.toNat + 1)).map fun m => (rowsL v.toNat)[i] ++ [m]) := rfl
          simp_arith [e3]
          exact kp ⟨_, by rw [hpre]⟩
      · rintro r ⟨w4, rfl⟩
        rw [List.take_length]
        simp_arith []
        exact kp ⟨_, _, _, _, .inr rfl, fun _ => rfl, by rw [show (v + 1).toNat = v.toNat + 1 by omega]; rfl⟩
    · simp_arith [e00]
      refine wp_for_in (f := Tx PV.int) (xs := rowsL v.toNat) (I := fun i r => ∃ w4, r = ⟨[.val (.int n), .val (Lx (Tx .int) (rowsL v.toNat)), .val (.int v), .own false (Lx (Tx .int) (((rowsL v.toNat).take i).flatMap fun r => (rgI 0 (v.toNat + 1)).map fun m => r ++ [m])), w4, .no], [], st⟩) ⟨_, rfl⟩ ?_ ?_
      · rintro i hi r ⟨w4, rfl⟩
        unfold b__law_codes_1
        have hr := hrow _ (List.getElem_mem hi)
        have hpre := rows_preC (k := v.toNat + 1) hi
        have hfl := pre_len i (by omega)
        simp_arith []
        rw [rgIt_eq, show (v + 1).toNat = v.toNat + 1 by omega]
        refine comp_map (f := .int) (g := Tx .int) (rgI 0 (v.toNat + 1)) (fun m => (rowsL v.toNat)[i] ++ [m]) (by rw [rgI_length]; omega) (fun j hj => ?_) ?_
        · simp_arith []
          exact kp ⟨rfl, rfl, rfl⟩
        · have e3 : PV.lst (((rgI 0 (v.toNat + 1)).map fun m => (rowsL v.toNat)[i] ++ [m]).map (Tx .int)) = Lx (Tx .int) ((rgI 0 (v.toNat + 1)).map fun m => (rowsL v.toNat)[i] ++ [m]) := rfl
          simp_arith [e3]
          exact kp ⟨_, by rw [hpre]⟩
      · rintro r ⟨w4, rfl⟩
        rw [List.take_length]
        simp_arith []
        exact kp ⟨_, _, _, _, .inr rfl, fun _ => rfl, by rw [show (v + 1).toNat = v.toNat + 1 by omega]; rfl⟩
  · rintro r ⟨w1, w2, w3, w4, _, hw, rfl⟩
    rw [hw (by omega)]
    simp_arith []
    exact kp ⟨by rw [show ((0 : Int) + (n : Nat)).toNat = n by omega], rfl, rfl⟩
theorem w_in_range (F_is_int : Fn) (h_is_int : S_is_int F_is_int) : S_in_range (mkFn 3 3 (a_in_range F_is_int)) := by
  intro p a b st hk
  refine fp_eq ?_
  unfold a_in_range
  have h := h_is_int p st hk
  cases p with
  | int i =>
    simp_arith [h, isI]
    refine wI_dec (fun h => ?_) (fun h => ?_)
    · simp_arith []
      exact kp ⟨by unfold btw; simp [h], rfl, rfl⟩
    · exact kp ⟨by unfold btw; simp [h], rfl, rfl⟩
  | _ =>
    simp_arith [h, isI]
    exact kp ⟨rfl, rfl, rfl⟩
theorem w_ways_on (F_is_rise : Fn) (h_is_rise : S_is_rise F_is_rise) : S_ways_on (mkFn 1 6 (a_ways_on F_is_rise)) := by
  intro s st hl hm
  refine fp_eq ?_
  unfold a_ways_on
  have e0 : PV.lst [] = Lx (Lx .int) (wyB s 0).2 := rfl
  simp_arith [e0]
  refine wp_for_dn (I := fun v r => ∃ (k : Nat) (w1 w4 w5 : BL.Slot), (k : Int) = s.length - 1 - v ∧ (w1 = .own false (Lx .int (wyB s k).1) ∨ w1 = .val (Lx .int (wyB s k).1)) ∧ (k = 0 ∨ True) ∧ (∃ w3, r = ⟨[.val (Lx .int s), w1, .own false (Lx (Lx .int) (wyB s k).2), w3, w4, w5], [], st⟩)) ⟨0, _, _, _, by omega, .inl rfl, .inr trivial, _, rfl⟩ ?_ ?_
  · rintro v h1 h2 r ⟨k, w1, w4, w5, hk, hw, _, w3, rfl⟩
    obtain ⟨i, rfl⟩ := Int.eq_ofNat_of_zero_le (show 0 ≤ v by omega)
    have hi : i < s.length := by omega
    have hik : s.length - 1 - k = i := by omega
    have hsi := hm _ (List.getElem_mem hi)
    have hg : gx s (i : Int) = s.getD i 0 := gx_nat
    rw [← getD_get hi] at hsi
    obtain ⟨l1, l2, l3⟩ := wyB_len s k
    have hr := upI_rng s i
    have hri := h_is_rise s i st hl hi
    unfold b_ways_on_2
    have fin : wyB s (k + 1) = (hrB (upI s i) (wyB s k).1 s.length (s.getD i 0).toNat ((s.getD i 0).toNat + 1), hrB (upI s i) (wyB s k).1 s.length (s.getD i 0).toNat ((s.getD i 0).toNat + 1) :: (wyB s k).2) := by
      rw [wyB, hik]
    generalize (wyB s k).1 = later at hw l1 fin
    generalize (wyB s k).2 = found at l2 l3 fin ⊢
    obtain ⟨m, hmm⟩ : ∃ m : Nat, s.getD i 0 = m := ⟨(s.getD i 0).toNat, by omega⟩
    rw [hmm, Int.toNat_natCast] at fin
    have e00 : List.replicate (s.length + 2) (0 : Int) = hrB (upI s i) later s.length m 0 := rfl
    rcases hw with rfl | rfl
    · simp_arith [hg, hmm]
      refine wp_for_dn (I := fun v r => ∃ (q : Nat) (w5 : BL.Slot), (q : Int) = m - v ∧ r = ⟨[.val (Lx .int s), .own false (Lx .int later), .own false (Lx (Lx .int) found), .val (.int (i : Int)), .own false (Lx .int (hrB (upI s i) later s.length m q)), w5], [], st⟩) ⟨0, _, by omega, by rw [← e00, show ((s.length : Int) + 2).toNat = s.length + 2 by omega]⟩ ?_ ?_
      · rintro v h3 h4 r ⟨q, w5, hq, rfl⟩
        obtain ⟨j, rfl⟩ := Int.eq_ofNat_of_zero_le (show 0 ≤ v by omega)
        have hjq : m - q = j := by omega
        have hl2 := hrB_length (upI s i) later s.length m q
        have fin2 : hrB (upI s i) later s.length m (q + 1) = (hrB (upI s i) later s.length m q).set j (gx (hrB (upI s i) later s.length m q) ((j : Int) + 1) + gx later ((j : Int) + upI s i)) := by
          rw [hrB, hjq]
          congr 2
        generalize hrB (upI s i) later s.length m q = here at hl2 fin2 ⊢
        have hb : (if riB s i = true then (1 : Int) else 0) = upI s i := rfl
        unfold b_ways_on_1
        simp_arith [hri, hb]
        exact kp ⟨q + 1, _, by omega, by rw [fin2]⟩
      · rintro r ⟨q, w5, hq, rfl⟩
        have : q = m + 1 := by omega
        subst this
        generalize hrB (upI s i) later s.length m (m + 1) = here at fin ⊢
        simp_arith []
        exact kp ⟨k + 1, _, _, _, by omega, .inr (by rw [fin]), .inr trivial, _, by rw [fin]⟩
    · simp_arith [hg, hmm]
      refine wp_for_dn (I := fun v r => ∃ (q : Nat) (w5 : BL.Slot), (q : Int) = m - v ∧ r = ⟨[.val (Lx .int s), .val (Lx .int later), .own false (Lx (Lx .int) found), .val (.int (i : Int)), .own false (Lx .int (hrB (upI s i) later s.length m q)), w5], [], st⟩) ⟨0, _, by omega, by rw [← e00, show ((s.length : Int) + 2).toNat = s.length + 2 by omega]⟩ ?_ ?_
      · rintro v h3 h4 r ⟨q, w5, hq, rfl⟩
        obtain ⟨j, rfl⟩ := Int.eq_ofNat_of_zero_le (show 0 ≤ v by omega)
        have hjq : m - q = j := by omega
        have hl2 := hrB_length (upI s i) later s.length m q
        have fin2 : hrB (upI s i) later s.length m (q + 1) = (hrB (upI s i) later s.length m q).set j (gx (hrB (upI s i) later s.length m q) ((j : Int) + 1) + gx later ((j : Int) + upI s i)) := by
          rw [hrB, hjq]
          congr 2
        generalize hrB (upI s i) later s.length m q = here at hl2 fin2 ⊢
        have hb : (if riB s i = true then (1 : Int) else 0) = upI s i := rfl
        unfold b_ways_on_1
        simp_arith [hri, hb]
        exact kp ⟨q + 1, _, by omega, by rw [fin2]⟩
      · rintro r ⟨q, w5, hq, rfl⟩
        have : q = m + 1 := by omega
        subst this
        generalize hrB (upI s i) later s.length m (m + 1) = here at fin ⊢
        simp_arith []
        exact kp ⟨k + 1, _, _, _, by omega, .inr (by rw [fin]), .inr trivial, _, by rw [fin]⟩
  · rintro r ⟨k, w1, w4, w5, hk, hw, _, w3, rfl⟩
    have : k = s.length := by omega
    subst this
    simp_arith []
    exact kp ⟨rfl, rfl, rfl⟩
-- lemmas
theorem lkT_len : ∀ {kvs : List (List Int × List (List Int))} {k v : List _} {n : Nat}, (∀ z ∈ kvs, z.2.length ≤ n) → lkT k kvs = some v → v.length ≤ n
  | [], _, _, _, _, h => by cases h
  | z :: r, k, v, n, ha, h => by
    rw [lkT_cons] at h
    split at h
    · cases h
      exact ha z (List.mem_cons_self ..)
    · exact lkT_len (fun y hy => ha y (List.mem_cons_of_mem _ hy)) h
theorem lots_vals : ∀ {ls : List (List Int)} {i : Nat}, i ≤ ls.length → ∀ z ∈ lotsL (ls.take i), z.2.length ≤ i
  | ls, 0, _, z, hz => by
    have hz : z ∈ lotsL [] := hz
    cases hz
  | ls, i + 1, h, z, hz => by
    rw [lotsL_take (show i < ls.length by omega)] at hz
    have ih := lots_vals (ls := ls) (i := i) (by omega)
    unfold lotS dsetT at hz
    have hv : ((lkT (roundL ls[i]) (lotsL (ls.take i))).getD [] ++ [ls[i]]).length ≤ i + 1 := by
      rw [List.length_append]
      cases e : lkT (roundL ls[i]) (lotsL (ls.take i)) with
      | none => simp
      | some v =>
        have := lkT_len ih e
        simp
        omega
    split at hz
    · rcases List.mem_append.mp hz with hz | hz
      · have := ih z hz
        omega
      · rw [List.mem_singleton.mp hz]
        exact hv
    · obtain ⟨y, hy, rfl⟩ := List.mem_map.mp hz
      split
      · exact hv
      · have := ih y hy
        omega
theorem w__law_lots (F__law_round : Fn) (h__law_round : S__law_round F__law_round) : S__law_lots (mkFn 1 4 (a__law_lots F__law_round)) := by
  intro ls st hl hll
  refine fp_eq ?_
  unfold a__law_lots
  simp_arith []
  refine wp_for_in (f := Tx PV.int) (xs := ls) (I := fun i r => ∃ w2 w3, r = ⟨[.val (Lx (Tx .int) ls), .own false (Dt (Lx (Tx .int)) (lotsL (ls.take i))), w2, w3], [], st⟩) ⟨_, _, rfl⟩ ?_ ?_
  · rintro i hi r ⟨w2, w3, rfl⟩
    unfold b__law_lots_1
    have h1 := hll _ (List.getElem_mem hi)
    have ht := lotsL_take hi
    have h2 := lotsL_len (ls.take i)
    rw [List.length_take] at h2
    have h3 := lots_vals (ls := ls) (i := i) (by omega)
    have e0 : PV.lst [] = Lx (Tx .int) [] := rfl
    have hg : getTF (Dt (Lx (Tx .int)) (lotsL (ls.take i))) [Tx .int (roundL ls[i]), Lx (Tx .int) []] = some (.val (Lx (Tx .int) ((lkT (roundL ls[i]) (lotsL (ls.take i))).getD []))) := by
      rw [get_T]
      cases lkT (roundL ls[i]) (lotsL (ls.take i)) <;> rfl
    have hv : ((lkT (roundL ls[i]) (lotsL (ls.take i))).getD []).length ≤ 1000 := by
      cases e : lkT (roundL ls[i]) (lotsL (ls.take i)) with
      | none => simp
      | some v =>
        have := lkT_len h3 e
        simp
        omega
    have hset := set_T (f := Lx (Tx .int)) (kvs := lotsL (ls.take i)) (k := roundL ls[i]) (v := (lkT (roundL ls[i]) (lotsL (ls.take i))).getD [] ++ [ls[i]]) (by omega)
    have hty : tyP (Dt (Lx (Tx .int)) (lotsL (ls.take i))) = some "dict" := rfl
    simp_arith [↓wp_seeV, hty, h__law_round ls[i] st h1, e0, hg, hset]
    exact kp ⟨_, _, by rw [ht]; rfl⟩
  · rintro r ⟨w2, w3, rfl⟩
    rw [List.take_length]
    simp_arith []
    exact kp ⟨rfl, rfl, rfl⟩
theorem w_is_mark (F_in_range : Fn) (h_in_range : S_in_range F_in_range) : S_is_mark (mkFn 1 1 (a_is_mark F_in_range)) := by
  intro p st hk
  refine fp_eq ?_
  unfold a_is_mark
  simp_arith [h_in_range p _ _ st hk]
  exact kp ⟨rfl, rfl, rfl⟩
theorem w_is_line (F_is_mark : Fn) (h_is_mark : S_is_mark F_is_mark) : S_is_line (mkFn 1 2 (a_is_line F_is_mark)) := by
  intro p st hk
  refine fp_eq ?_
  unfold a_is_line
  cases p with
  | tup xs =>
    simp_arith []
    refine wI_dec (fun h => ?_) (fun h => ?_)
    · simp_arith []
      refine wI_dec (fun h2 => ?_) (fun h2 => ?_)
      · simp_arith []
        refine comp_mapP (g := .bl) xs isMk (by omega) (fun i hi => ?_) ?_
        · have h3 := h_is_mark xs[i] st (hk.2.1 _ (List.getElem_mem hi))
          simp_arith [h3]
          exact kp ⟨rfl, rfl, rfl⟩
        · simp_arith []
          exact kp ⟨by rw [isLn_tup, List.all_map, decide_eq_true (p := 1 ≤ xs.length) (by omega), decide_eq_true (p := xs.length ≤ 60) (by omega)]; rfl, rfl, rfl⟩
      · simp_arith []
        exact kp ⟨by rw [isLn_tup, decide_eq_false (p := xs.length ≤ 60) (by omega), Bool.and_false]; rfl, rfl, rfl⟩
    · simp_arith []
      exact kp ⟨by rw [isLn_tup, decide_eq_false (p := 1 ≤ xs.length) (by omega)]; rfl, rfl, rfl⟩
  | obj n => exact absurd hk.1 Bool.false_ne_true
  | exc n => exact absurd hk.1 Bool.false_ne_true
  | _ =>
    simp_arith []
    exact kp ⟨rfl, rfl, rfl⟩
theorem w_is_code (F_is_line : Fn) (h_is_line : S_is_line F_is_line) : S_is_code (mkFn 1 3 (a_is_code F_is_line)) := by
  intro p st hk
  refine fp_eq ?_
  unfold a_is_code
  have hL := h_is_line p st hk
  cases hp : isLn p with
  | false =>
    rw [hp] at hL
    simp_arith [hL]
    exact kp ⟨by unfold isCd; rw [hp]; rfl, rfl, rfl⟩
  | true =>
    rw [hp] at hL
    obtain ⟨e, hl⟩ := isLn_ints hp
    have e2 : isCd p = cdB (intsOf p) := by unfold isCd; rw [hp]; rfl
    rw [e2]
    generalize intsOf p = l at e hl ⊢
    subst e
    simp_arith [hL]
    refine comp_en (g := .bl) l (fun _ => true) (fun z => decide (0 ≤ z.1) && decide (z.1 ≤ ((z.2 : Nat) : Int))) (by omega) (fun i hi => ?_) ?_
    · simp_arith []
      refine wT_of rfl (fun _ => ?_) (fun h => by cases h)
      simp_arith []
      refine wI_dec (fun h => ?_) (fun h => ?_)
      · simp_arith []
        exact kp ⟨by rw [decide_eq_true h]; rfl, rfl, rfl⟩
      · simp_arith []
        exact kp ⟨by rw [decide_eq_false h]; rfl, rfl, rfl⟩
    · rw [List.filter_eq_self.mpr fun _ _ => rfl]
      simp_arith []
      exact kp ⟨rfl, rfl, rfl⟩
theorem w_require_code (F_is_code : Fn) (h_is_code : S_is_code F_is_code) : S_require_code (mkFn 1 1 (a_require_code F_is_code)) := by
  intro l st h1 h2 hc
  refine fp_eq ?_
  unfold a_require_code
  have h := h_is_code (Tx .int l) st (kndT_T (by omega))
  have e : isCd (Tx .int l) = true := by unfold isCd; rw [isLn_of (cd_Ln hc h1 h2), intsOf_T, cdB_iff.mpr hc]; rfl
  rw [e] at h
  simp_arith [h]
  exact kp ⟨rfl, rfl, rfl⟩
theorem w_least_before (F_require_code F_least_marks F_sequence_of : Fn) (h_require_code : S_require_code F_require_code) (h_least_marks : S_least_marks F_least_marks) (h_sequence_of : S_sequence_of F_sequence_of) : S_least_before (mkFn 1 1 (a_least_before F_require_code F_least_marks F_sequence_of)) := by
  intro c st h1 h2 hc
  refine fp_eq ?_
  unfold a_least_before
  have hs := seqB_length c c.length
  simp_arith [h_require_code c st h1 h2 hc, h_sequence_of c st (by omega) hc, h_least_marks (seqB c c.length) st (by omega) (fun a ha => by rw [hs]; exact seqB_mem.mp ha)]
  exact kp ⟨rfl, rfl, rfl⟩
theorem w_has_before (F_require_code F_least_marks F_sequence_of : Fn) (h_require_code : S_require_code F_require_code) (h_least_marks : S_least_marks F_least_marks) (h_sequence_of : S_sequence_of F_sequence_of) : S_has_before (mkFn 1 3 (a_has_before F_require_code F_least_marks F_sequence_of)) := by
  intro c st h1 h2 hc
  refine fp_eq ?_
  unfold a_has_before
  have hs := seqB_length c c.length
  have hml : (leastM (seqB c c.length)).length = c.length := by unfold leastM; rw [lmB_length, hs]
  simp_arith [h_require_code c st h1 h2 hc, h_sequence_of c st (by omega) hc, h_least_marks (seqB c c.length) st (by omega) (fun a ha => by rw [hs]; exact seqB_mem.mp ha)]
  refine comp_en (f := .int) (g := .bl) (leastM (seqB c c.length)) (fun _ => true) (fun z => decide (z.1 ≤ (z.2 : Int))) (by omega) (fun i hi => ?_) ?_
  · simp_arith []
    refine wT_of rfl (fun _ => ?_) (fun h => by cases h)
    simp_arith []
    exact kp ⟨rfl, rfl, rfl⟩
  · rw [List.filter_eq_self.mpr fun _ _ => rfl]
    have e1 : PV.lst (((leastM (seqB c c.length)).zipIdx.map fun z => decide (z.1 ≤ (z.2 : Int))).map PV.bl) = Lx .bl ((leastM (seqB c c.length)).zipIdx.map fun z => decide (z.1 ≤ (z.2 : Int))) := rfl
    simp_arith [e1]
    exact kp ⟨rfl, rfl, rfl⟩
theorem w_count_before (F_require_code F_ways_on F_sequence_of : Fn) (h_require_code : S_require_code F_require_code) (h_ways_on : S_ways_on F_ways_on) (h_sequence_of : S_sequence_of F_sequence_of) : S_count_before (mkFn 1 1 (a_count_before F_require_code F_ways_on F_sequence_of)) := by
  intro c st h1 h2 hc
  refine fp_eq ?_
  unfold a_count_before
  have hs := seqB_length c c.length
  obtain ⟨t1, t2⟩ := wayT_len (seqB c c.length)
  have t3 : ((wayT (seqB c c.length)).getD 0 default).length = c.length + 2 := by
    have := t2 _ (gx_mem (xs := wayT (seqB c c.length)) (Int.le_refl 0) (by omega))
    rw [hs] at this
    exact this
  simp_arith [h_require_code c st h1 h2 hc, h_sequence_of c st (by omega) hc, h_ways_on (seqB c c.length) st (by omega) (fun a ha => by rw [hs]; exact seqB_mem.mp ha)]
  exact kp ⟨rfl, rfl, rfl⟩
theorem w_nth_before (F_require_code F_sequence_of F_ways_on F_in_range F_is_rise : Fn) (h_require_code : S_require_code F_require_code) (h_sequence_of : S_sequence_of F_sequence_of) (h_ways_on : S_ways_on F_ways_on) (h_in_range : S_in_range F_in_range) (h_is_rise : S_is_rise F_is_rise) : S_nth_before (mkFn 2 8 (a_nth_before F_require_code F_sequence_of F_ways_on F_in_range F_is_rise)) := by
  intro c n res st h1 h2 hc hn0 hn1 hres
  refine fp_eq ?_
  unfold a_nth_before
  have hs := seqB_length c c.length
  obtain ⟨t1, t2⟩ := wayT_len (seqB c c.length)
  have t3 : ((wayT (seqB c c.length)).getD 0 default).length = c.length + 2 := by
    have := t2 _ (gx_mem (xs := wayT (seqB c c.length)) (Int.le_refl 0) (by omega))
    rw [hs] at this
    exact this
  have hir := h_in_range (.int n) 0 (cntB c - 1) st rfl
  rw [show btw (.int n) 0 (cntB c - 1) = true by unfold btw; simp; omega] at hir
  have ecn : ((wayT (seqB c c.length)).getD 0 default).getD 0 default = cntB c := rfl
  simp_arith [h_require_code c st h1 h2 hc, h_sequence_of c st (by omega) hc, h_ways_on (seqB c c.length) st (by omega) (fun a ha => by rw [hs]; exact seqB_mem.mp ha), ecn, hir]
  have hm : ∀ a ∈ seqB c c.length, 0 ≤ a ∧ a < c.length := fun a ha => seqB_mem.mp ha
  obtain ⟨pf, hpf, hres⟩ := Option.map_eq_some_iff.mp (show (ntB (seqB c c.length) (wayT (seqB c c.length)) n c.length).map (fun p => p.2.2) = some res from hres)
  have hall := ntB_all hpf
  clear ecn hir t3
  generalize seqB c c.length = s at hs hm t1 t2 hpf hall ⊢
  generalize wayT s = t at t1 t2 hpf hall ⊢
  refine wp_for_en (I := fun k r => ∃ (p0 : Int × Int × List Int) (w6 w7 : BL.Slot), ntB s t n k = some p0 ∧ p0.2.2.length = s.length ∧ 0 ≤ p0.2.1 ∧ r = ⟨[.val (Tx .int c), .val (.int p0.1), .val (Lx .int s), .own false (Lx (Lx .int) t), .own false (Lx .int p0.2.2), .val (.int p0.2.1), w6, w7], [], st⟩) ⟨(n, 0, List.replicate s.length 0), _, _, rfl, by simp, Int.le_refl 0, rfl⟩ ?_ ?_
  · rintro k hk r ⟨p0, w6, w7, e0, g1, g2, rfl⟩
    obtain ⟨p1, e1⟩ := hall (k + 1) (by omega)
    obtain ⟨p0', e0', q, hq, hp1⟩ := ntB_pre e1
    rw [e0] at e0'
    cases e0'
    obtain ⟨num, m, found⟩ := p0
    have hp := hm _ (List.getElem_mem hk)
    have hpe : s.getD k 0 = s[k] := getD_get hk
    have hrow := t2 _ (gx_mem (xs := t) (i := (k : Int)) (by omega) (by omega))
    have hrow2 : t.getD k [] = gx t (k : Int) := (gx_nat (xs := t)).symm
    rw [hrow2] at hq
    rw [hpe] at hp1
    have hri := h_is_rise s k st (by omega) hk
    have hr := upI_rng s k
    have hb : (if riB s k = true then (1 : Int) else 0) = upI s k := rfl
    have g1 : found.length = s.length := g1
    have g2 : 0 ≤ m := g2
    have hq : stB (gx t (k : Int)) 100 num m = some q := hq
    unfold b_nth_before_2
    simp_arith []
    refine wp_whileJ (I := fun f r => ∃ num' m' : Int, stB (gx t (k : Int)) f num' m' = some q ∧ 0 ≤ m' ∧ r = ⟨[.val (Tx .int c), .val (.int num'), .val (Lx .int s), .own false (Lx (Lx .int) t), .own false (Lx .int found), .val (.int m'), .val (.int (k : Int)), .val (.int s[k])], [], st⟩)
      (J := fun r => 0 ≤ q.2 ∧ r = ⟨[.val (Tx .int c), .val (.int q.1), .val (Lx .int s), .own false (Lx (Lx .int) t), .own false (Lx .int found), .val (.int q.2), .val (.int (k : Int)), .val (.int s[k])], [], st⟩) 100 ⟨num, m, hq, g2, rfl⟩ ?_ ?_
    · rintro f r ⟨num', m', hs', hm', rfl⟩
      cases f with
      | zero => cases hs'
      | succ f =>
        obtain ⟨hb1, hs'⟩ := stB_in hs'
        simp_arith []
        refine wI_dec (fun h => ?_) (fun h => ?_)
        · unfold b_nth_before_1
          rcases hs' with ⟨h3, h4⟩ | ⟨h3, _⟩
          · simp_arith []
            exact kp ⟨f, by omega, _, _, h4, by omega, rfl⟩
          · exact absurd h h3
        · rcases hs' with ⟨h3, h4⟩ | ⟨h3, rfl⟩
          · exact absurd h3 h
          · exact kp ⟨hm', rfl⟩
    · rintro r ⟨hq2, rfl⟩
      obtain ⟨q1, q2⟩ := q
      have hq2 : 0 ≤ q2 := hq2
      simp_arith [hri, hb]
      exact kp ⟨p1, _, _, e1, by rw [hp1]; dsimp only; rw [List.length_set]; exact g1, by rw [hp1]; dsimp only; omega, by rw [hp1]⟩
  · rintro r ⟨p0, w6, w7, e0, g1, g2, rfl⟩
    rw [hs] at e0
    rw [hpf] at e0
    cases e0
    simp_arith []
    exact kp ⟨by rw [hres], rfl, rfl⟩
theorem w_number_before (F_require_code F_sequence_of F_next_row F_ways_on F_is_rise : Fn) (h_require_code : S_require_code F_require_code) (h_sequence_of : S_sequence_of F_sequence_of) (h_next_row : S_next_row F_next_row) (h_ways_on : S_ways_on F_ways_on) (h_is_rise : S_is_rise F_is_rise) : S_number_before (mkFn 1 7 (a_number_before F_require_code F_sequence_of F_next_row F_ways_on F_is_rise)) := by
  intro c st h1 h2 hc
  refine fp_eq ?_
  unfold a_number_before
  have hrl := roundL_length c
  have hs := seqB_length (roundL c) (roundL c).length
  have hm : ∀ a ∈ seqB (roundL c) (roundL c).length, 0 ≤ a ∧ a < c.length := fun a ha => by have := seqB_mem.mp ha; omega
  obtain ⟨t1, t2⟩ := wayT_len (seqB (roundL c) (roundL c).length)
  simp_arith [h_require_code c st h1 h2 hc, h_next_row c st (by omega), h_sequence_of (roundL c) st (by omega) (round_Cd c), h_ways_on (seqB (roundL c) (roundL c).length) st (by omega) (fun a ha => by have := hm a ha; omega)]
  have en : numB c = (nbB c (seqB (roundL c) (roundL c).length) (wayT (seqB (roundL c) (roundL c).length)) c.length).1 := rfl
  rw [en]
  generalize seqB (roundL c) (roundL c).length = s at hs hm t1 t2 ⊢
  generalize wayT s = t at t1 t2 ⊢
  refine wp_for_en (I := fun k r => ∃ w5 w6, r = ⟨[.val (Tx .int c), .val (Lx .int s), .own false (Lx (Lx .int) t), .val (.int (nbB c s t k).1), .val (.int (nbB c s t k).2), w5, w6], [], st⟩ ∧ 0 ≤ (nbB c s t k).2 ∧ (nbB c s t k).2 ≤ c.length) ⟨_, _, rfl, Int.le_refl 0, by show (0 : Int) ≤ _; omega⟩ ?_ ?_
  · rintro k hk r ⟨w5, w6, rfl, g1, g2⟩
    have hp := hm _ (List.getElem_mem hk)
    have hcp := hc s[k].toNat (by omega)
    have hgp : gx c s[k] = c.getD s[k].toNat 0 := rfl
    have hpe : s.getD k 0 = s[k] := getD_get hk
    have hrow := t2 _ (gx_mem (xs := t) (i := (k : Int)) (by omega) (by omega))
    have hrow2 : gx t (k : Int) = t.getD k [] := gx_nat
    have hri := h_is_rise s k st (by omega) hk
    have hr := upI_rng s k
    have hb : (if riB s k = true then (1 : Int) else 0) = upI s k := rfl
    have fin : nbB c s t (k + 1) = ((nbB c s t k).1 + (gx (gx t (k : Int)) (nbB c s t k).2 - gx (gx t (k : Int)) (gx c s[k])), gx c s[k] + upI s k) := by
      rw [nbB, hpe, hrow2]
    unfold b_number_before_1
    generalize nbB c s t k = p at g1 g2 fin ⊢
    rw [← hgp] at hcp
    simp_arith [hri, hb]
    exact kp ⟨_, _, by rw [fin], by rw [fin]; dsimp only; omega, by rw [fin]; dsimp only; omega⟩
  · rintro r ⟨w5, w6, rfl, g1, g2⟩
    rw [show s.length = c.length by omega]
    simp_arith []
    exact kp ⟨rfl, rfl, rfl⟩
-- lemmas
theorem map_get (due : List (List Int)) : (rgI 0 due.length).map (fun i => due.getD i.toNat []) = due := by
  apply List.ext_getElem
  · rw [List.length_map, rgI_length]
  · intro i h1 h2
    rw [List.getElem_map, rgI_get h2, Int.zero_add, Int.toNat_natCast, List.getD_eq_getElem?_getD, List.getElem?_eq_getElem h2]
    rfl
theorem krP_eq (p : Kr) : krP p = .tup [Lx .int p.1, Tx .int p.2] := rfl
theorem due_mem {c : List Int} {lot : List (List Int)} {r : List Int} (h : r ∈ dueL c lot) : r ∈ lot := by
  obtain ⟨p, hp, rfl⟩ := List.mem_map.mp h
  obtain ⟨row, hr, rfl⟩ := List.mem_map.mp ((sortK_perm _).mem_iff.mp hp)
  exact hr
theorem due_len (c : List Int) (lot : List (List Int)) : (dueL c lot).length = lot.length := by
  unfold dueL
  rw [List.length_map, (sortK_perm _).length_eq, List.length_map]
theorem w__law_code_right (F__law_sequence F_count_before F_has_before F_nth_before F_number_before : Fn) (h__law_sequence : S__law_sequence F__law_sequence) (h_count_before : S_count_before F_count_before) (h_has_before : S_has_before F_has_before) (h_nth_before : S_nth_before F_nth_before) (h_number_before : S_number_before F_number_before) : S__law_code_right (mkFn 2 10 (a__law_code_right F__law_sequence F_count_before F_has_before F_nth_before F_number_before)) := by
  intro c lot st h1 h2 hc hok
  unfold okC at hok
  simp only [Bool.and_eq_true, decide_eq_true_eq, List.all_eq_true] at hok
  obtain ⟨⟨⟨⟨⟨k1, k2⟩, k3⟩, k4⟩, k5⟩, k6⟩ := hok
  have hdl := due_len c lot
  have hdm := fun r (h : r ∈ dueL c lot) => due_mem h
  have hrow : ∀ r ∈ lot, r.length = c.length ∧ Cd r := by
    intro r hr
    obtain ⟨a, b⟩ := k4 r hr
    refine ⟨a, fun i hi => ?_⟩
    have := b (r[i], i) (List.mem_iff_getElem.mpr ⟨i, by rw [List.length_zipIdx]; exact hi, by rw [List.getElem_zipIdx, Nat.zero_add]⟩)
    rw [getD_get hi]
    exact this
  have hel : ∀ r, Cd r → r.length ≤ 5 → ∀ x ∈ r, 0 ≤ x ∧ x < 5 := by
    intro r hr hl x hx
    obtain ⟨i, hi, rfl⟩ := List.getElem_of_mem hx
    have := hr i hi
    rw [getD_get hi] at this
    omega
  have hs := seqB_length c c.length
  have hrp : Rp (Tx .int c) := (Sm.T fun x hx => .small (by have := hel c hc h2 x hx; omega) (by have := hel c hc h2 x hx; omega)).rp (by omega) (by omega)
  have hrpd : Rp (Lx (Tx .int) (dueL c lot)) := (Sm.L (n := 1 * c.length + 1) (d := 2) fun r hr => by
    obtain ⟨a, b⟩ := hrow r (hdm r hr)
    have : Sm (1 * r.length + 1) 2 (Tx .int r) := Sm.T fun x hx => .small (by have := hel r b (by omega) x hx; omega) (by have := hel r b (by omega) x hx; omega)
    rw [a] at this
    exact this).rp (by
      have : (1 * c.length + 1) * (dueL c lot).length ≤ 6 * 200 := Nat.mul_le_mul (by omega) (by omega)
      omega) (by omega)
  refine fp_eq ?_
  unfold a__law_code_right
  simp_arith [hrp.eq, h__law_sequence c st (by omega) hc]
  have hsq : seqB c c.length = sqL c := rfl
  refine comp_map (f := Tx PV.int) (g := krP) lot (fun row => ((sqL c).map (gx row), row)) (by omega) (fun i hi => ?_) ?_
  · obtain ⟨a, b⟩ := hrow _ (List.getElem_mem hi)
    generalize lot[i] = row at a b
    simp_arith []
    refine comp_map (f := .int) (g := .int) (seqB c c.length) (gx row) (by omega) (fun j hj => ?_) ?_
    · have hm := seqB_mem.mp (List.getElem_mem hj)
      generalize (seqB c c.length)[j] = x at hm
      simp_arith []
      exact kp ⟨rfl, rfl, rfl⟩
    · simp_arith []
      exact kp ⟨rfl, rfl, rfl⟩
  · have e1 : PV.lst ((lot.map fun row => ((sqL c).map (gx row), row)).map krP) = Lx krP (lot.map fun row => ((sqL c).map (gx row), row)) := rfl
    simp_arith [e1, sorted_K]
    refine comp_map (f := krP) (g := Tx PV.int) (sortK (lot.map fun row => ((sqL c).map (gx row), row))) (fun p => p.2) (by rw [(sortK_perm _).length_eq, List.length_map]; omega) (fun i hi => ?_) ?_
    · rw [krP_eq]
      generalize (sortK (lot.map fun row => ((sqL c).map (gx row), row)))[i] = p
      simp_arith []
      exact kp ⟨rfl, rfl, rfl⟩
    · have e2 : PV.lst (((sortK (lot.map fun row => ((sqL c).map (gx row), row))).map fun p => p.2).map (Tx PV.int)) = Lx (Tx .int) (dueL c lot) := rfl
      simp_arith [e2]
      generalize dueL c lot = due at k1 k2 k3 k5 hdl hdm hrpd
      rw [rgIt_eq]
      have e3 : PV.lst [] = Lx (Tx .int) [] := rfl
      have hneq : neF (Lx (Tx .int) due) (Lx (Tx .int) []) = some (hasB c) := by
        rw [ne_rows, k2]
        cases due <;> rfl
      have hr2 : Rp (.lst [.int (cntB c), .bl (hasB c)]) := (Sm.lst (.cons (.small (by omega) (by omega)) (Nat.le_refl _) (.cons (.bl _) (Nat.le_refl _) .nil))).rp (by decide) (by decide)
      refine wp_for_in (f := PV.int) (I := fun i r => ∃ w5, r = ⟨[.val (Tx .int c), .val (Lx (Tx .int) lot), .val (.str (rpS (Tx .int c))), .val (Lx .int (seqB c c.length)), .own false (Lx (Tx .int) due), w5, .no, .no, .no, .no], [], st⟩) ⟨_, rfl⟩ ?_ ?_
      · rintro q hq r ⟨w5, rfl⟩
        unfold b__law_code_right_1
        simp_arith [h_count_before c st h1 (by omega) hc, h_has_before c st h1 (by omega) hc, e3, hneq, ← k1, repr_L hr2 (by simp), ne_ss hr2.ok]
        rw [rgIt_eq, show (cntB c).toNat = due.length by omega]
        refine comp_map (f := .int) (g := Tx .int) (rgI 0 due.length) (fun i => due.getD i.toNat []) (by rw [rgI_length]; omega) (fun i hi => ?_) ?_
        · rw [rgI_length] at hi
          rw [rgI_get hi]
          have := h_nth_before c ((0 : Int) + (i : Nat)) (due.getD i []) st h1 (by omega) hc (by omega) (by omega) (by rw [Int.zero_add]; exact k3 i (List.mem_range.mpr hi))
          simp_arith [this]
          exact kp ⟨by rw [Int.zero_add, Int.toNat_natCast], rfl, rfl⟩
        · rw [map_get]
          have e4 : PV.lst (due.map (Tx PV.int)) = Lx (Tx .int) due := rfl
          simp_arith [e4, hrpd.eq, ne_ss hrpd.ok]
          exact kp ⟨_, rfl⟩
      · rintro r ⟨w5, rfl⟩
        simp_arith []
        refine comp_map (f := Tx PV.int) (g := .int) due numB (by omega) (fun i hi => ?_) ?_
        · have hm := hdm _ (List.getElem_mem hi)
          generalize due[i] = row at hm
          obtain ⟨a, b⟩ := hrow row hm
          simp_arith [h_number_before row st (by omega) (by omega) b]
          exact kp ⟨rfl, rfl, rfl⟩
        · have e5 : PV.lst ((due.map numB).map PV.int) = Lx .int (due.map numB) := rfl
          simp_arith [e5]
          rw [k5]
          simp_arith [hrp.eq, eq_ss hrp.ok]
          exact kp ⟨rfl, rfl, rfl⟩
-- lemmas
theorem ck1_all : ∀ n, 1 ≤ n → n ≤ 5 → ck1 n = true := by
  intro n h1 h2
  rcases (show n = 1 ∨ n = 2 ∨ n = 3 ∨ n = 4 ∨ n = 5 by omega) with rfl | rfl | rfl | rfl | rfl
  · decide +kernel
  · decide +kernel
  · decide +kernel
  · decide +kernel
  · decide +kernel
theorem ck2_all : ∀ n, 1 ≤ n → n ≤ 4 → ck2 n = true := by
  intro n h1 h2
  rcases (show n = 1 ∨ n = 2 ∨ n = 3 ∨ n = 4 by omega) with rfl | rfl | rfl | rfl
  · decide +kernel
  · decide +kernel
  · decide +kernel
  · decide +kernel
theorem linesR (m : Nat) : ∀ n, ∀ r ∈ linesL m n, r.length = n
  | 0, r, h => by
    have h : r ∈ [[]] := h
    rw [List.mem_singleton.mp h]
    rfl
  | n + 1, r, h => by
    rw [linesL] at h
    obtain ⟨y, hy, h⟩ := List.mem_flatMap.mp h
    obtain ⟨m, _, rfl⟩ := List.mem_map.mp h
    rw [List.length_append, linesR _ n y hy]
    rfl
theorem linesN {k : Nat} : ∀ ls : List (List Int), (ls.flatMap fun r => (rgI 0 k).map fun m => r ++ [m]).length = ls.length * k
  | [] => by simp
  | a :: ls => by rw [List.flatMap_cons, List.length_append, linesN ls, List.length_map, rgI_length, List.length_cons, Nat.add_mul]; omega
theorem linesLen (m : Nat) : ∀ n, (linesL m n).length = m ^ n
  | 0 => rfl
  | n + 1 => by rw [linesL, linesN, linesLen m n, Nat.pow_succ]
theorem w_law (F__law_codes F__law_lots F__law_code_right F__law_all_lines F_least_before F_has_before : Fn) (h__law_codes : S__law_codes F__law_codes) (h__law_lots : S__law_lots F__law_lots) (h__law_code_right : S__law_code_right F__law_code_right) (h__law_all_lines : S__law_all_lines F__law_all_lines) (h_least_before : S_least_before F_least_before) (h_has_before : S_has_before F_has_before) : S_law (mkFn 1 8 (a_law F__law_codes F__law_lots F__law_code_right F__law_all_lines F_least_before F_has_before)) := by
  intro ns hl hb
  unfold a_law
  have e0 : PV.lst [] = Lx (Tx .int) [] := rfl
  simp_arith []
  refine wp_for_rg (I := fun v r => ∃ w1 w2 w3, r = ⟨[.val (.scr ns), w1, w2, w3, .no, .no, .no, .no], [], []⟩) ⟨_, _, _, rfl⟩ ?_ ?_
  · rintro v h0 h1 r ⟨w1, w2, w3, rfl⟩
    obtain ⟨n, rfl⟩ := Int.eq_ofNat_of_zero_le (show 0 ≤ v by omega)
    have hck := ck1_all n (by omega) (by omega)
    unfold ck1 at hck
    rw [List.all_eq_true] at hck
    have hlen := rows_len6 n (by omega)
    unfold b_law_1
    simp_arith [h__law_codes n [] (by omega) (by omega), h__law_lots (rowsL n) [] (by omega) (fun l hl => by rw [(rows_row n l hl).1]; omega)]
    refine comp_in (f := Tx PV.int) (g := Tx PV.int) (rowsL n) (fun _ => false) (fun c => c) (by omega) (fun i hi => ?_) ?_
    · have hm := List.getElem_mem hi
      generalize (rowsL n)[i] = c at hm
      obtain ⟨a, b⟩ := rows_row n c hm
      have hc1 := hck c hm
      have hty : tyP (Dt (Lx (Tx .int)) (lotsL (rowsL n))) = some "dict" := rfl
      have hg : getTF (Dt (Lx (Tx .int)) (lotsL (rowsL n))) [Tx .int c, Lx (Tx .int) []] = some (.val (Lx (Tx .int) ((lkT c (lotsL (rowsL n))).getD []))) := by
        rw [get_T]
        cases lkT c (lotsL (rowsL n)) <;> rfl
      simp_arith [↓wp_seeV, hty, e0, hg, h__law_code_right c ((lkT c (lotsL (rowsL n))).getD []) [] (by omega) (by omega) b hc1]
      refine wT_of rfl (fun h => by cases h) (fun _ => ?_)
      exact kp ⟨rfl, rfl⟩
    · have e9 : (rowsL n).filter (fun _ => false) = [] := List.filter_eq_nil_iff.mpr fun _ _ z => by cases z
      have e1 : PV.lst ((([] : List (List Int)).map fun c => c).map (Tx PV.int)) = Lx (Tx .int) [] := rfl
      rw [e9]
      have hne : neF (Lx (Tx .int) []) (Lx (Tx .int) []) = some false := ne_rows
      simp_arith [e1, e0, hne]
      exact kp ⟨_, _, _, rfl⟩
  · rintro r ⟨w1, w2, w3, rfl⟩
    simp_arith []
    refine wp_for_rg (I := fun v r => ∃ w1 w3 w4 w5, r = ⟨[.val (.scr ns), w1, w2, w3, w4, w5, .no, .no], [], []⟩) ⟨_, _, _, _, rfl⟩ ?_ ?_
    · rintro v h0 h1 r ⟨w1, w3, w4, w5, rfl⟩
      obtain ⟨n, rfl⟩ := Int.eq_ofNat_of_zero_le (show 0 ≤ v by omega)
      have hck := ck2_all n (by omega) (by omega)
      unfold ck2 at hck
      rw [List.all_eq_true] at hck
      have hlen := rows_len6 n (by omega)
      have hll : (linesL n n).length ≤ 256 := by
        rw [linesLen]
        have a1 : n ^ n ≤ 4 ^ n := Nat.pow_le_pow_left (by omega) _
        have a2 : 4 ^ n ≤ 4 ^ 4 := Nat.pow_le_pow_right (by decide) (by omega)
        omega
      unfold b_law_3
      simp_arith [h__law_all_lines n [] (by omega) (by omega), h__law_lots (linesL n n) [] (by omega) (fun l hl => by rw [linesR n n l hl]; omega), h__law_codes n [] (by omega) (by omega)]
      refine wp_for_in (f := Tx PV.int) (xs := rowsL n) (I := fun i r => ∃ w4 w5, r = ⟨[.val (.scr ns), .val (.int (n : Int)), w2, .own false (Dt (Lx (Tx .int)) (lotsL (linesL n n))), w4, w5, .no, .no], [], []⟩) ⟨_, _, rfl⟩ ?_ ?_
      · rintro i hi r ⟨w4, w5, rfl⟩
        have hm := List.getElem_mem hi
        generalize (rowsL n)[i] = c at hm
        obtain ⟨a, b⟩ := rows_row n c hm
        have hc2 := hck c hm
        unfold ok2 at hc2
        cases hlk : lkT c (lotsL (linesL n n)) with
        | none => rw [hlk] at hc2; cases hc2
        | some lot =>
          rw [hlk] at hc2
          simp only [Bool.and_eq_true, decide_eq_true_eq, List.all_eq_true] at hc2
          obtain ⟨⟨⟨⟨⟨q1, q2⟩, q3⟩, q4⟩, q5⟩, q6⟩ := hc2
          unfold b_law_2
          simp_arith []
          rw [rgIt_eq]
          have hix := ix_Tk (f := Lx (Tx PV.int)) hlk
          refine comp_map (f := .int) (g := .int) (rgI 0 n) (fun p => mnL (lot.map fun l => gx l p)) (by rw [rgI_length]; omega) (fun j hj => ?_) ?_
          · have hj2 := rgI_mem.mp (List.getElem_mem hj)
            generalize (rgI 0 n)[j] = p at hj2
            simp_arith [hix]
            refine comp_map (f := Tx PV.int) (g := .int) lot (fun l => gx l p) (by omega) (fun q hq => ?_) ?_
            · have hl := q4 _ (List.getElem_mem hq)
              generalize lot[q] = l at hl
              simp_arith []
              exact kp ⟨rfl, rfl, rfl⟩
            · have e1 : PV.lst ((lot.map fun l => gx l p).map PV.int) = Lx .int (lot.map fun l => gx l p) := rfl
              simp_arith [e1]
              exact kp ⟨rfl, rfl, rfl⟩
          · have e1 : PV.lst (((rgI 0 n).map fun p => mnL (lot.map fun l => gx l p)).map PV.int) = Lx .int (leastM (sqL c)) := by
              rw [← q2]
              rfl
            have hlb := h_least_before c [] (by omega) (by omega) b
            have esq : leastM (seqB c c.length) = leastM (sqL c) := rfl
            rw [esq] at hlb
            have hlm : Sm (1 * (leastM (sqL c)).length + 1) 2 (Tx .int (leastM (sqL c))) := Sm.T fun x hx => .small (by have := q6 x hx; omega) (by have := q6 x hx; omega)
            have hll2 := q4 _ q3
            have hrp : Rp (.lst [Tx .int (leastM (sqL c)), Tx .int (leastM (sqL c))]) := (Sm.lst (.cons hlm (Nat.le_refl _) (.cons hlm (Nat.le_refl _) .nil))).rp (by omega) (by omega)
            have hni : notInF (Tx .int (leastM (sqL c))) (Lx (Tx .int) lot) = some false := by
              rw [notIn_rows, decide_eq_true q3]
              rfl
            rw [e1]
            simp_arith [hlb, repr_L hrp (by simp), ne_ss hrp.ok, hix, hni]
            exact kp ⟨_, _, rfl⟩
      · rintro r ⟨w4, w5, rfl⟩
        simp_arith []
        exact kp ⟨_, _, _, _, rfl⟩
    · rintro r ⟨w1, w3, w4, w5, rfl⟩
      have e1 : PV.tup [.int 0, .int 0, .int 1] = Tx .int [0, 0, 1] := rfl
      have e2 : PV.tup [.int 1, .int 0, .int 1] = Tx .int (leastM (seqB [0, 0, 1] ([0, 0, 1] : List Int).length)) := congrArg (Tx PV.int) (show ([1, 0, 1] : List Int) = leastM (seqB [0, 0, 1] 3) by decide +kernel)
      have hc : Cd [0, 0, 1] := by
        intro i hi
        have : i < 3 := hi
        rcases (show i = 0 ∨ i = 1 ∨ i = 2 by omega) with rfl | rfl | rfl <;> decide
      have e3 : hasB [0, 0, 1] = false := by decide +kernel
      simp_arith [e1, e2, h_least_before [0, 0, 1] [] (by decide) (by decide) hc, h_has_before [0, 0, 1] [] (by decide) (by decide) hc, e3]
      exact kp rfl
theorem t_is_int : S_is_int F_is_int := w_is_int
theorem t_next_row : S_next_row F_next_row := w_next_row
theorem t_sequence_of : S_sequence_of F_sequence_of := w_sequence_of
theorem t_least_marks : S_least_marks F_least_marks := w_least_marks
theorem t_is_rise : S_is_rise F_is_rise := w_is_rise
theorem t__law_round : S__law_round F__law_round := w__law_round
theorem t__law_all_lines : S__law_all_lines F__law_all_lines := w__law_all_lines
theorem t__law_sequence : S__law_sequence F__law_sequence := w__law_sequence
theorem t__law_codes : S__law_codes F__law_codes := w__law_codes
theorem t_in_range : S_in_range F_in_range := w_in_range _ t_is_int
theorem t_ways_on : S_ways_on F_ways_on := w_ways_on _ t_is_rise
theorem t__law_lots : S__law_lots F__law_lots := w__law_lots _ t__law_round
theorem t_is_mark : S_is_mark F_is_mark := w_is_mark _ t_in_range
theorem t_is_line : S_is_line F_is_line := w_is_line _ t_is_mark
theorem t_is_code : S_is_code F_is_code := w_is_code _ t_is_line
theorem t_require_code : S_require_code F_require_code := w_require_code _ t_is_code
theorem t_least_before : S_least_before F_least_before := w_least_before _ _ _ t_require_code t_least_marks t_sequence_of
theorem t_has_before : S_has_before F_has_before := w_has_before _ _ _ t_require_code t_least_marks t_sequence_of
theorem t_count_before : S_count_before F_count_before := w_count_before _ _ _ t_require_code t_ways_on t_sequence_of
theorem t_nth_before : S_nth_before F_nth_before := w_nth_before _ _ _ _ _ t_require_code t_sequence_of t_ways_on t_in_range t_is_rise
theorem t_number_before : S_number_before F_number_before := w_number_before _ _ _ _ _ t_require_code t_sequence_of t_next_row t_ways_on t_is_rise
theorem t__law_code_right : S__law_code_right F__law_code_right := w__law_code_right _ _ _ _ _ t__law_sequence t_count_before t_has_before t_nth_before t_number_before
theorem t_law : S_law F_law := w_law _ _ _ _ _ _ t__law_codes t__law_lots t__law_code_right t__law_all_lines t_least_before t_has_before
theorem pure_law (ns : List Int) (hl : ns.length ≤ 63) (hb : ∀ z ∈ ns, Builtin.Int.intBits z ≤ 1048576) : ∃ ln st, F_law [.val (.scr ns)] [] = .ok (.val (.bl true)) ln st := law_pure t_law ns hl hb
end LK33
open PySem PySem.W PySem.Calls PyProof.Rows
theorem PySem.Challenge.cw_countahead_k33_rows_one_round_before_holds : PySem.Challenge.rw_countahead_k33_rows_one_round_before.Holds := by
  w_on; o_law
  refine HandSHeadRun.head_any (r := OpenLaw.row PySem.Challenge.rw_countahead_k33_rows_one_round_before) (q := view (OpenLaw.row PySem.Challenge.rw_countahead_k33_rows_one_round_before).prog [32]) (H := LK33.hk) (ob := LK33.ob) (M := 4000) (loose := ["MarkError", "NoNumber", "NoCode", "MOST_PERSONS", "GREATEST", "is_int", "in_range", "is_mark", "is_line", "is_code", "next_row", "require_code", "sequence_of", "least_marks", "is_rise", "ways_on", "least_before", "has_before", "count_before", "nth_before", "number_before", "_law_round", "_law_all_lines", "_law_sequence", "_law_codes", "_law_lots", "_law_code_right"]) (d := HandSHeadRun.topDef (OpenLaw.row PySem.Challenge.rw_countahead_k33_rows_one_round_before).prog 32) (kwd := []) LK33.ob_eq
    (by kernel_rfl) (fun s => by kernel_rfl) LK33.run (by kernel_rfl) (by kernel_rfl) (by kernel_rfl) (by rfl) (by first | assumption | decide +kernel) (by decide +kernel) ⟨rfl, rfl, rfl, rfl, rfl, by decide +kernel⟩ ?hw ?hc
  case hw => w_witness2
  case hc =>
    refine BL.walk_ofG (l := PySem.Challenge.rw_countahead_k33_rows_one_round_before) (n := 63) (k := 9) (x := "script") (CX := L2.CX (PySem.Challenge.rw_countahead_k33_rows_one_round_before).prog) rfl (by decide) (by kernel_rfl) ⟨rfl, by decide, by decide⟩ ?F (fun _ _ _ _ _ z => BL.cx_no z)
    intro w mg fa h Y G hmg0
    obtain ⟨K, KX, c⟩ := Y
    have hmg : mg ("law" : PySem.Str) = some (.ref fa) := by
      have e : (HandSHeadRun.topDef (OpenLaw.row PySem.Challenge.rw_countahead_k33_rows_one_round_before).prog 32).name = ("law" : PySem.Str) := by kernel_rfl
      rw [← e]
      exact hmg0
    obtain ⟨fd, hb, hF⟩ := LK33.facts (P := (PySem.Challenge.rw_countahead_k33_rows_one_round_before).prog) (w := w) KX G hmg c []
    exact ⟨K, fd, _, KX, hb, fun H a ns hl hb hO hS => BL.law_end (LK33.pure_law ns hl hb) hO hS, hF⟩
