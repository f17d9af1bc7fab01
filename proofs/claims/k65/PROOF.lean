import PyProof.Rows.All
import Wide.All
import OpenK.AllK
import Wide.FinOn
import HandS.ForMost
import HandS.Exc
import HandS.ExcOwn
import HandS.WordsExc
import HandS.HeadHook2
import HandS.HeadEnd
import KE.KStateDown
import Lean
import HandS.Base
import HandS.Call
import HandS.Ends
import HandS.Words
import HandS.DeepEq
import HandS.Head0
import HandS.Head1
import HandS.Head2
import HandS.HeadHook1
import HandS.Defaults
import HandS.IsInst
import HandS.New0
import HandS.Rev
import HandS.SetKeys
import HandS.SortKw
import KE.DatumOrd
import HandS.Wide
import HandS.Deep
import HandS.SortInts
import HandS.More
import HandS.SetFor
import HandS.Strs
import HandS.TupSets
import HandS.Conv
import HandS.WideBits
import HandS.SortRule
import HandS.Style
import HandS.TryOnly
import HandS.Comp
import HandS.Codes
import HandS.Iter
import HandS.Text
import HandS.OwnIter
import HandS.IterNext
import HandS.IterVal
import HandS.CallSlots
import HandS.MakeKwOnly
import HandS.Property
import HandS.Dict
import PyProof.ExcBaseAll.ValueError
import HandS.ExcIs
import HandS.ExcInit
import HandS.ExcField
import HandS.DictComp
import KE.DataCmp
import KE.KExcIs
import PyProof.Rows.SeqItemCall
import PyProof.ListIndex
import PyProof.ListIndexNeg
import KE.SortData
import PySem.Challenge.RW_tintonce_k65_whole_webs_in_the_list
set_option Elab.async false
set_option linter.all false
set_option maxRecDepth 100000
set_option maxHeartbeats 4000000
set_option synthInstance.maxSize 1000000
set_option synthInstance.maxHeartbeats 40000000

/-! L3a: values as trees, the state, steps, the lifted judgements. -/
namespace L3
open PySem PySem.Spec PyProof.Rows L2

/-- a value as data: trees; ref: an object of the map O -/
inductive DV where
  | non | bl (b : Bool) | int (i : Int) | str (s : Str) | ty (n : String) | ref (a : Addr)
  | lst (xs : List DV) | tup (xs : List DV) | dic (kvs : List (Key × DV)) | dit (kvs : List (List Key × DV)) | obj (c : Str) | seq (xs : List DV)
/-- a changeable object -/
inductive SO where
  | lst (xs : List DV) | dic (kvs : List (Key × DV)) | dit (kvs : List (List Key × DV)) | ins (c : Str) (fs : List (Str × DV))
structure DErr where
  c : Str
  fd : Option DV := none
/-- what a slot holds; err: the exception that a suite has at hand -/
inductive SV where
  | val (x : DV) | own (o : SO) | rf (a : Addr) | err (a : Addr) (cls : Value) (d : Option Addr) (e : DErr)
/-- what an expression gives -/
inductive TV where
  | val (x : DV) | own (o : SO) | rf (a : Addr) | slt (i : Nat)
abbrev OM := Addr → Option SO
structure DSt where
  g : List (Option SV)
  o : OM
def noO : OM := fun _ => none

/-- plain values, as they stand in a dict whose keys are tuples -/
inductive FV : V → DV → Prop where
  | non : FV .non .non
  | bl (b : Bool) : FV (.bl b) (.bl b)
  | int (i : Int) : FV (.int i) (.int i)
  | str (x : Str) : FV (.str x) (.str x)
inductive Fts : List (List Key × V) → List (List Key × DV) → Prop where
  | nil : Fts [] []
  | cons {k : List Key} {v : V} {x : DV} {vs : List (List Key × V)} {xs : List (List Key × DV)} : FV v x → Fts vs xs → Fts ((k, v) :: vs) ((k, x) :: xs)
mutual
inductive Rp (K : PySem.W.Frag) (F : Hp) : V → DV → Prop where
  | non : Rp K F .non .non
  | bl (b : Bool) : Rp K F (.bl b) (.bl b)
  | int (i : Int) : Rp K F (.int i) (.int i)
  | str (x : Str) : Rp K F (.str x) (.str x)
  | ty (n : String) : Rp K F (.ty n) (.ty n)
  | ref (a : Addr) : Rp K F (.ref a) (.ref a)
  | lst {a : Addr} {vs : List V} {xs : List DV} : F a = some (.lst vs) → Rps K F vs xs → Rp K F (.ref a) (.lst xs)
  | seq {a : Addr} {vs : List V} {xs : List DV} : SqL K F a vs → Rps K F vs xs → Rp K F (.ref a) (.seq xs)
  | tup {a : Addr} {vs : List V} {xs : List DV} : SqT K F a vs → Rps K F vs xs → Rp K F (.ref a) (.tup xs)
  | dic {a : Addr} {vs : List (Key × V)} {xs : List (Key × DV)} : F a = some (.dK vs) → Rks K F vs xs → Rp K F (.ref a) (.dic xs)
  | dit {a : Addr} {vs : List (List Key × V)} {xs : List (List Key × DV)} : F a = some (.dT vs) → Fts vs xs → Rp K F (.ref a) (.dit xs)
  | obj {a dx : Addr} {c : Str} : F a = some (.ins (He.ga K c) dx []) → Rp K F (.ref a) (.obj c)
inductive Rps (K : PySem.W.Frag) (F : Hp) : List V → List DV → Prop where
  | nil : Rps K F [] []
  | cons {v : V} {x : DV} {vs : List V} {xs : List DV} : Rp K F v x → Rps K F vs xs → Rps K F (v :: vs) (x :: xs)
inductive Rks (K : PySem.W.Frag) (F : Hp) : List (Key × V) → List (Key × DV) → Prop where
  | nil : Rks K F [] []
  | cons {k : Key} {v : V} {x : DV} {vs : List (Key × V)} {xs : List (Key × DV)} : Rp K F v x → Rks K F vs xs → Rks K F ((k, v) :: vs) ((k, x) :: xs)
end
/-- an instance's fields -/
inductive Rfs (K : PySem.W.Frag) (F : Hp) : List (Str × V) → List (Str × DV) → Prop where
  | nil : Rfs K F [] []
  | cons {k : Str} {v : V} {x : DV} {vs : List (Str × V)} {xs : List (Str × DV)} : Rp K F v x → Rfs K F vs xs → Rfs K F ((k, v) :: vs) ((k, x) :: xs)

section
variable {K : PySem.W.Frag} {F F' H H' : Hp}
theorem Same.seqT {K : PySem.W.Frag} {H H' : Hp} {a : Addr} {xs : List V} (e : Same H H') (h : SqT K H a xs) : SqT K H' a xs := by
  rcases h with (h | ⟨o, h⟩) | h
  · exact .inl (.inl (e _ _ h))
  · exact .inl (.inr ⟨o, e _ _ h⟩)
  · exact .inr h
mutual
theorem Rp.mono (e : Same F F') : ∀ {v : V} {x : DV}, Rp K F v x → Rp K F' v x
  | _, _, .non => .non
  | _, _, .bl b => .bl b
  | _, _, .int i => .int i
  | _, _, .str x => .str x
  | _, _, .ty n => .ty n
  | _, _, .ref a => .ref a
  | _, _, .lst h r => .lst (e _ _ h) (Rps.mono e r)
  | _, _, .seq h r => .seq (e.seq h) (Rps.mono e r)
  | _, _, .tup h r => .tup (Same.seqT e h) (Rps.mono e r)
  | _, _, .dic h r => .dic (e _ _ h) (Rks.mono e r)
  | _, _, .dit h r => .dit (e _ _ h) r
  | _, _, .obj h => .obj (e _ _ h)
theorem Rps.mono (e : Same F F') : ∀ {vs : List V} {xs : List DV}, Rps K F vs xs → Rps K F' vs xs
  | _, _, .nil => .nil
  | _, _, .cons h r => .cons (Rp.mono e h) (Rps.mono e r)
theorem Rks.mono (e : Same F F') : ∀ {vs : List (Key × V)} {xs : List (Key × DV)}, Rks K F vs xs → Rks K F' vs xs
  | _, _, .nil => .nil
  | _, _, .cons h r => .cons (Rp.mono e h) (Rks.mono e r)
end
theorem Rfs.mono (e : Same F F') : ∀ {vs : List (Str × V)} {xs : List (Str × DV)}, Rfs K F vs xs → Rfs K F' vs xs
  | _, _, .nil => .nil
  | _, _, .cons h r => .cons (Rp.mono e h) (Rfs.mono e r)
theorem Rps.len : ∀ {vs : List V} {xs : List DV}, Rps K F vs xs → vs.length = xs.length
  | _, _, .nil => rfl
  | _, _, .cons _ r => congrArg Nat.succ (Rps.len r)
theorem Rps.get : ∀ {vs : List V} {xs : List DV} {i : Nat} {x : DV}, Rps K F vs xs → xs[i]? = some x → ∃ v, vs[i]? = some v ∧ Rp K F v x
  | _, _, _, _, .nil, e => by simp at e
  | _, _, 0, _, .cons h _, e => by simp at e; subst e; exact ⟨_, rfl, h⟩
  | _, _, i + 1, _, .cons _ r, e => by
    obtain ⟨v, h1, h2⟩ := Rps.get (i := i) r (by simpa using e)
    exact ⟨v, by simpa using h1, h2⟩
theorem Rps.append : ∀ {vs ws : List V} {xs ys : List DV}, Rps K F vs xs → Rps K F ws ys → Rps K F (vs ++ ws) (xs ++ ys)
  | _, _, _, _, .nil, s => s
  | _, _, _, _, .cons h r, s => .cons h (Rps.append r s)
theorem Rps.set {v : V} {x : DV} (h : Rp K F v x) : ∀ {vs : List V} {xs : List DV} (i : Nat), Rps K F vs xs → Rps K F (vs.set i v) (xs.set i x)
  | _, _, _, .nil => .nil
  | _, _, 0, .cons _ r => .cons h r
  | _, _, i + 1, .cons q r => .cons q (Rps.set h i r)
theorem Rps.take : ∀ {vs : List V} {xs : List DV} (n : Nat), Rps K F vs xs → Rps K F (vs.take n) (xs.take n)
  | _, _, 0, _ => .nil
  | _, _, _ + 1, .nil => .nil
  | _, _, n + 1, .cons h r => .cons h (Rps.take n r)
theorem Rps.drop : ∀ {vs : List V} {xs : List DV} (n : Nat), Rps K F vs xs → Rps K F (vs.drop n) (xs.drop n)
  | _, _, 0, r => r
  | _, _, _ + 1, .nil => .nil
  | _, _, n + 1, .cons _ r => Rps.drop n r
theorem Rps.reverse : ∀ {vs : List V} {xs : List DV}, Rps K F vs xs → Rps K F vs.reverse xs.reverse
  | _, _, .nil => .nil
  | _, _, .cons h r => by
    rw [List.reverse_cons, List.reverse_cons]
    exact Rps.append (Rps.reverse r) (.cons h .nil)
theorem Rps.eraseIdx : ∀ {vs : List V} {xs : List DV} (i : Nat), Rps K F vs xs → Rps K F (vs.eraseIdx i) (xs.eraseIdx i)
  | _, _, _, .nil => .nil
  | _, _, 0, .cons _ r => r
  | _, _, i + 1, .cons h r => .cons h (Rps.eraseIdx i r)

/-- what stands at a changeable object's address -/
def HOof (K : PySem.W.Frag) (F H : Hp) (a : Addr) : SO → Prop
  | .lst xs => ∃ vs, H a = some (.lst vs) ∧ Rps K F vs xs
  | .dic xs => ∃ vs, H a = some (.dK vs) ∧ Rks K F vs xs
  | .dit xs => ∃ vs, H a = some (.dT vs) ∧ Fts vs xs
  | .ins c fs => ∃ dx vs, H a = some (.ins (He.ga K c) dx vs) ∧ Rfs K F vs fs
theorem HOof.mono {a : Addr} {o : SO} (h : HOof K F H a o) (e : Same F F') (k : ∀ u, H a = some u → H' a = some u) : HOof K F' H' a o := by
  cases o with
  | lst xs => obtain ⟨vs, h1, h2⟩ := h; exact ⟨vs, k _ h1, h2.mono e⟩
  | dic xs => obtain ⟨vs, h1, h2⟩ := h; exact ⟨vs, k _ h1, h2.mono e⟩
  | dit xs => obtain ⟨vs, h1, h2⟩ := h; exact ⟨vs, k _ h1, h2⟩
  | ins c fs => obtain ⟨dx, vs, h1, h2⟩ := h; exact ⟨dx, vs, k _ h1, h2.mono e⟩
theorem HOof.some {a : Addr} {o : SO} (h : HOof K F H a o) : ∃ u, H a = some u := by
  cases o with
  | lst xs => obtain ⟨vs, h1, _⟩ := h; exact ⟨_, h1⟩
  | dic xs => obtain ⟨vs, h1, _⟩ := h; exact ⟨_, h1⟩
  | dit xs => obtain ⟨vs, h1, _⟩ := h; exact ⟨_, h1⟩
  | ins c fs => obtain ⟨dx, vs, h1, _⟩ := h; exact ⟨_, h1⟩
theorem HOof.ne {a : Addr} {o : SO} (h : HOof K F H a o) : H a ≠ none := by
  obtain ⟨u, e⟩ := h.some
  rw [e]; exact fun z => by cases z

def ErrR (K : PySem.W.Frag) (F : Hp) (cls : Value) (dd : Option Addr) (e : DErr) : Prop :=
  cls = .ref (He.ga K e.c) ∧ (e.fd = none → dd = none) ∧ ∀ x, e.fd = some x → ∃ d v, dd = some d ∧ F d = some (.xd [(("thing" : Str), v)]) ∧ Rp K F v x
theorem ErrR.mono {cls : Value} {dd : Option Addr} {e : DErr} (s : Same F F') (h : ErrR K F cls dd e) : ErrR K F' cls dd e :=
  ⟨h.1, h.2.1, fun x hx => let ⟨d, v, h1, h2, h3⟩ := h.2.2 x hx; ⟨d, v, h1, s _ _ h2, h3.mono s⟩⟩
def SVr (K : PySem.W.Frag) (F H : Hp) (v : V) : SV → Prop
  | .val x => Rp K F v x
  | .own o => ∃ p, v = .ref p ∧ F p = none ∧ HOof K F H p o
  | .rf a => v = .ref a
  | .err a cls d e => v = .ref a ∧ ErrR K F cls d e

/-- p is the state's own: a slot's, or in the map -/
def ow (σ : L2.St) (S : DSt) (p : Addr) : Prop := (∃ (i : Nat) (o : SO), S.g[i]? = some (some (.own o)) ∧ σ[i]? = some (some (.ref p))) ∨ S.o p ≠ none

structure Stt (K : PySem.W.Frag) (F H : Hp) (σ : L2.St) (S : DSt) : Prop where
  ex : Same F H
  len : S.g.length = σ.length
  sl : ∀ (i : Nat) x, S.g[i]? = some (some x) → ∃ v, σ[i]? = some (some v) ∧ SVr K F H v x
  inj : ∀ (i j : Nat) o o' p, S.g[i]? = some (some (.own o)) → S.g[j]? = some (some (.own o')) → σ[i]? = some (some (.ref p)) → σ[j]? = some (some (.ref p)) → i = j
  sep : ∀ (i : Nat) o p, S.g[i]? = some (some (.own o)) → σ[i]? = some (some (.ref p)) → S.o p = none
  ob : ∀ a so, S.o a = some so → F a = none ∧ HOof K F H a so

structure Stp (K : PySem.W.Frag) (F H : Hp) (σ : L2.St) (S : DSt) (F' H' : Hp) (σ' : L2.St) (S' : DSt) : Prop where
  fx : Same F F'
  kp : ∀ a o, H a = some o → ¬ ow σ S a → H' a = some o
  nf : ∀ a, H a ≠ none → ¬ ow σ S a → F' a ≠ none → F a ≠ none
  no : ∀ a, ow σ' S' a → ow σ S a ∨ H a = none
  st : Stt K F' H' σ' S'

variable {σ σ' σ1 σ2 : L2.St} {S S' S1 S2 : DSt} {F1 F2 H1 H2 : Hp} {p : Addr} {v : V}
theorem Stt.ow_some (s : Stt K F H σ S) (h : ow σ S p) : F p = none ∧ ∃ o, HOof K F H p o := by
  rcases h with ⟨i, o, e1, e2⟩ | h
  · obtain ⟨v, e3, r⟩ := s.sl i _ e1
    rw [e2] at e3; cases e3
    obtain ⟨q, e4, e5, e6⟩ := r
    cases e4
    exact ⟨e5, o, e6⟩
  · cases e : S.o p with
    | none => exact absurd e h
    | some so => obtain ⟨h1, h2⟩ := s.ob p so e; exact ⟨h1, so, h2⟩
theorem Stt.grow (s : Stt K F H σ S) (e : Same H H') : Stt K F H' σ S :=
  ⟨s.ex.trans e, s.len, fun i x h => by
    obtain ⟨v, e1, r⟩ := s.sl i x h
    refine ⟨v, e1, ?_⟩
    cases x with
    | val x => exact r
    | own o => obtain ⟨q, e2, e3, e4⟩ := r; exact ⟨q, e2, e3, e4.mono (Same.refl F) (e q)⟩
    | rf a => exact r
    | err a c d e => exact r, s.inj, s.sep, fun a so h => by obtain ⟨h1, h2⟩ := s.ob a so h; exact ⟨h1, h2.mono (Same.refl F) (e a)⟩⟩
theorem Stp.refl (s : Stt K F H σ S) : Stp K F H σ S F H σ S := ⟨Same.refl F, fun _ _ h _ => h, fun _ _ _ h => h, fun _ h => .inl h, s⟩
theorem Stp.grow (s : Stt K F H σ S) (e : Same H H') : Stp K F H σ S F H' σ S := ⟨Same.refl F, fun _ _ h _ => e _ _ h, fun _ _ _ h => h, fun _ h => .inl h, s.grow e⟩
theorem Stp.trans (a : Stp K F H σ S F1 H1 σ1 S1) (b : Stp K F1 H1 σ1 S1 F2 H2 σ2 S2) : Stp K F H σ S F2 H2 σ2 S2 := by
  have nn : ∀ x, H x ≠ none → ¬ ow σ S x → ¬ ow σ1 S1 x := fun x h1 h2 h3 => by
    rcases a.no x h3 with z | z
    · exact h2 z
    · exact h1 z
  refine ⟨a.fx.trans b.fx, fun x o h n => ?_, fun x h n q => ?_, fun x h => ?_, b.st⟩
  · have hx : H x ≠ none := by rw [h]; exact fun z => by cases z
    exact b.kp x o (a.kp x o h n) (nn x hx n)
  · have hx1 : H1 x ≠ none := by
      cases e : H x with
      | none => exact absurd e h
      | some o => rw [a.kp x o e n]; exact fun z => by cases z
    exact a.nf x h n (b.nf x hx1 (nn x h n) q)
  · rcases b.no x h with z | z
    · exact a.no x z
    · by_cases hn : ow σ S x
      · exact .inl hn
      · refine .inr ?_
        cases e : H x with
        | none => rfl
        | some o => rw [a.kp x o e hn] at z; cases z
/-- what is new behind a step was new before, or the state's own -/
theorem Stp.newb (a : Stp K F H σ S F1 H1 σ1 S1) (h : H1 p = none ∨ ow σ1 S1 p) : H p = none ∨ ow σ S p := by
  rcases h with h | h
  · by_cases hn : ow σ S p
    · exact .inr hn
    · refine .inl ?_
      cases e : H p with
      | none => rfl
      | some o => rw [a.kp p o e hn] at h; cases h
  · exact (a.no p h).symm

/-- a value at hand -/
def TVr (K : PySem.W.Frag) (F H : Hp) (σ : L2.St) (S : DSt) (v : V) : TV → Prop
  | .val x => Rp K F v x
  | .own o => ∃ p, v = .ref p ∧ F p = none ∧ HOof K F H p o ∧ ¬ ow σ S p
  | .rf a => v = .ref a
  | .slt i => σ[i]? = some (some v)
/-- its object is new since H -/
def Nw (H : Hp) (σ : L2.St) (S : DSt) (v : V) (y : TV) : Prop := ∀ o p, y = .own o → v = .ref p → H p = none ∨ ow σ S p
theorem Nw.val {x : DV} : Nw H σ S v (.val x) := fun o p h => by cases h
theorem Nw.rf {a : Addr} : Nw H σ S v (.rf a) := fun o p h => by cases h
theorem Nw.slt {i : Nat} : Nw H σ S v (.slt i) := fun o p h => by cases h
theorem Nw.back {y : TV} (a : Stp K F H σ S F1 H1 σ1 S1) (h : Nw H1 σ1 S1 v y) : Nw H σ S v y := fun o p e1 e2 => a.newb (h o p e1 e2)
theorem TVr.step {y : TV} (a : Stp K F H σ S F1 H1 σ S1) (h : TVr K F H σ S v y) : TVr K F1 H1 σ S1 v y := by
  cases y with
  | val x => exact Rp.mono a.fx h
  | rf b => exact h
  | slt i => exact h
  | own o =>
    obtain ⟨p, e, h1, h2, h3⟩ := h
    have hp := h2.ne
    refine ⟨p, e, ?_, h2.mono a.fx fun u q => a.kp p u q h3, fun z => ?_⟩
    · cases q : F1 p with
      | none => rfl
      | some o => exact absurd h1 (a.nf p hp h3 (by rw [q]; exact fun z => by cases z))
    · rcases a.no p z with z | z
      · exact h3 z
      · exact hp z

/-! ### the lifted judgements -/
abbrev DE := DSt → (TV → DSt → Prop) → (DErr → DSt → Prop) → Prop
abbrev DX := DSt → (DV → DSt → Prop) → (DErr → DSt → Prop) → Prop
abbrev DA := DSt → (List DV → DSt → Prop) → (DErr → DSt → Prop) → Prop
abbrev DB := DSt → (List TV → DSt → Prop) → (DErr → DSt → Prop) → Prop
abbrev DT := DSt → (Bool → DSt → Prop) → (DErr → DSt → Prop) → Prop
structure DEnds where
  nx : DSt → Prop
  rt : TV → DSt → Prop
  bk : DSt → Prop := fun _ => False
  ct : DSt → Prop := fun _ => False
  ex : DErr → DSt → Prop
abbrev DS := DSt → DEnds → Prop
def ExL (K : PySem.W.Frag) (W : WX) (F H : Hp) (σ : L2.St) (S : DSt) (Ed : DErr → DSt → Prop) : Prop :=
  ∀ cls dd err F' H' σ' S', Stp K F H σ S F' H' σ' S' → ErrR K F' cls dd err → (∀ d, dd = some d → H d = none ∨ ow σ S d) → Ed err S' → W cls dd σ' H'
def LE (K : PySem.W.Frag) (W : WX) (t : TE) (d : DE) : Prop := ∀ F H σ S (Q : VK) Qd Ed, Stt K F H σ S → d S Qd Ed →
  (∀ v y F' H' S', Stp K F H σ S F' H' σ S' → TVr K F' H' σ S' v y → Nw H σ S v y → Qd y S' → Q v H') → ExL K W F H σ S Ed → t σ H Q
def LX (K : PySem.W.Frag) (W : WX) (t : TE) (d : DX) : Prop := ∀ F H σ S (Q : VK) Qd Ed, Stt K F H σ S → d S Qd Ed →
  (∀ v x F' H' S', Stp K F H σ S F' H' σ S' → Rp K F' v x → Qd x S' → Q v H') → ExL K W F H σ S Ed → t σ H Q
def LA (K : PySem.W.Frag) (W : WX) (t : TA) (d : DA) : Prop := ∀ F H σ S (Q : List V → Hp → Prop) Qd Ed, Stt K F H σ S → d S Qd Ed →
  (∀ vs xs F' H' S', Stp K F H σ S F' H' σ S' → Rps K F' vs xs → Qd xs S' → Q vs H') → ExL K W F H σ S Ed → t σ H Q
inductive TVs (K : PySem.W.Frag) (F H : Hp) (σ : L2.St) (S : DSt) : List V → List TV → Prop where
  | nil : TVs K F H σ S [] []
  | cons {v : V} {y : TV} {vs : List V} {ys : List TV} : TVr K F H σ S v y → TVs K F H σ S vs ys → TVs K F H σ S (v :: vs) (y :: ys)
theorem TVs.step (a : Stp K F H σ S F1 H1 σ S1) : ∀ {vs : List V} {ys : List TV}, TVs K F H σ S vs ys → TVs K F1 H1 σ S1 vs ys
  | _, _, .nil => .nil
  | _, _, .cons h r => .cons (h.step a) (TVs.step a r)
def LB (K : PySem.W.Frag) (W : WX) (t : TA) (d : DB) : Prop := ∀ F H σ S (Q : List V → Hp → Prop) Qd Ed, Stt K F H σ S → d S Qd Ed →
  (∀ vs ys F' H' S', Stp K F H σ S F' H' σ S' → TVs K F' H' σ S' vs ys → Qd ys S' → Q vs H') → ExL K W F H σ S Ed → t σ H Q
def LT (K : PySem.W.Frag) (W : WX) (t : TT) (d : DT) : Prop := ∀ F H σ S (Q : Bool → Hp → Prop) Qd Ed, Stt K F H σ S → d S Qd Ed →
  (∀ b F' H' S', Stp K F H σ S F' H' σ S' → Qd b S' → Q b H') → ExL K W F H σ S Ed → t σ H Q
structure Lnk (K : PySem.W.Frag) (W : WX) (F H : Hp) (σ : L2.St) (S : DSt) (D : Ends) (Dd : DEnds) : Prop where
  nx : ∀ F' H' σ' S', Stp K F H σ S F' H' σ' S' → Dd.nx S' → D.nx σ' H'
  rt : ∀ v y F' H' σ' S', Stp K F H σ S F' H' σ' S' → TVr K F' H' σ' S' v y → Nw H σ S v y → Dd.rt y S' → D.rt v H'
  bk : ∀ F' H' σ' S', Stp K F H σ S F' H' σ' S' → Dd.bk S' → D.bk σ' H'
  ct : ∀ F' H' σ' S', Stp K F H σ S F' H' σ' S' → Dd.ct S' → D.ct σ' H'
  ex : ExL K W F H σ S Dd.ex
def LS (K : PySem.W.Frag) (W : WX) (t : TS) (d : DS) : Prop := ∀ F H σ S (D : Ends) (Dd : DEnds), Stt K F H σ S → d S Dd → Lnk K W F H σ S D Dd → t D σ H
theorem ExL.step {W : WX} {Ed : DErr → DSt → Prop} (a : Stp K F H σ S F1 H1 σ1 S1) (h : ExL K W F H σ S Ed) : ExL K W F1 H1 σ1 S1 Ed :=
  fun cls dd err F' H' σ' S' b r n => h cls dd err F' H' σ' S' (a.trans b) r fun d e => a.newb (n d e)
theorem Lnk.step {W : WX} {D : Ends} {Dd : DEnds} (a : Stp K F H σ S F1 H1 σ1 S1) (h : Lnk K W F H σ S D Dd) : Lnk K W F1 H1 σ1 S1 D Dd :=
  ⟨fun F' H' σ' S' b => h.nx F' H' σ' S' (a.trans b), fun v y F' H' σ' S' b r n => h.rt v y F' H' σ' S' (a.trans b) r (n.back a), fun F' H' σ' S' b => h.bk F' H' σ' S' (a.trans b), fun F' H' σ' S' b => h.ct F' H' σ' S' (a.trans b), h.ex.step a⟩
end

/-- a judgement: HandS's derivation and its lift, together -/
structure EJ (X : Cx) (W : WX) (e : Expr) (t : TE) (d : DE) : Prop where
  p : PE X e t
  l : LE X.K W t d
structure XJ (X : Cx) (W : WX) (e : Expr) (t : TE) (d : DX) : Prop where
  p : PE X e t
  l : LX X.K W t d
structure AJ (X : Cx) (W : WX) (es : List Expr) (t : TA) (d : DA) : Prop where
  p : PA X es t
  l : LA X.K W t d
structure BJ (X : Cx) (W : WX) (es : List Expr) (t : TA) (d : DB) : Prop where
  p : PA X es t
  l : LB X.K W t d
structure TJ (X : Cx) (W : WX) (e : Expr) (t : TT) (d : DT) : Prop where
  p : PT X e t
  l : LT X.K W t d
structure SJ (X : Cx) (W : WX) (st : Stmt) (t : TS) (d : DS) : Prop where
  p : PS X st t
  l : LS X.K W t d
structure SsJ (X : Cx) (W : WX) (sts : List Stmt) (t : TS) (d : DS) : Prop where
  p : PSs X sts t
  l : LS X.K W t d
end L3

/-! L3b: freezing, looking, generic operators. -/
namespace L3
open PySem PySem.Spec PyProof.Rows L2
section
variable {K : PySem.W.Frag} {F F' H H' F0 H0 : Hp} {σ σ' σ1 σ2 σ0 : L2.St} {S S' S1 S2 S0 : DSt} {F1 F2 H1 H2 : Hp} {p : Addr} {v : V} {W : WX}

theorem same_upd {o : HO} (h : F p = none) : Same F (upd F p o) := fun b u e => by
  rw [upd_ne (ne_of_none e h)]; exact e
/-- a changeable object becomes a tree -/
theorem Stt.frz {u : HO} (s : Stt K F H σ S) (hF : F p = none) (hH : H p = some u) (ho : S'.o = S.o) (hp : S.o p = none) (hl : S'.g.length = S.g.length)
    (hg : ∀ (i : Nat) o, S'.g[i]? = some (some (.own o)) → S.g[i]? = some (some (.own o)) ∧ σ[i]? ≠ some (some (.ref p)))
    (hv : ∀ (i : Nat) x, S'.g[i]? = some (some x) → (∀ o, x ≠ .own o) → ∃ v, σ[i]? = some (some v) ∧ SVr K (upd F p u) H v x) : Stt K (upd F p u) H σ S' := by
  have hs := same_upd (o := u) hF
  refine ⟨fun b o e => ?_, by rw [hl]; exact s.len, fun i x e => ?_, fun i j o o' q e1 e2 e3 e4 => ?_, fun i o q e1 e2 => ?_, fun a so e => ?_⟩
  · by_cases hb : b = p
    · subst hb; rw [upd_same] at e; cases e; exact hH
    · rw [upd_ne hb] at e; exact s.ex b o e
  · cases x with
    | own o =>
      obtain ⟨e1, e2⟩ := hg i o e
      obtain ⟨v, e3, q, rfl, h1, h2⟩ := s.sl i _ e1
      refine ⟨_, e3, q, rfl, ?_, h2.mono hs fun _ h => h⟩
      rw [upd_ne (fun z => e2 (by rw [e3, z]))]
      exact h1
    | val x => exact hv i _ e fun o z => by cases z
    | rf a => exact hv i _ e fun o z => by cases z
    | err a c d er => exact hv i _ e fun o z => by cases z
  · exact s.inj i j o o' q (hg i o e1).1 (hg j o' e2).1 e3 e4
  · rw [ho]; exact s.sep i o q (hg i o e1).1 e2
  · rw [ho] at e
    obtain ⟨h1, h2⟩ := s.ob a so e
    have ha : a ≠ p := fun z => by rw [z, hp] at e; cases e
    exact ⟨by rw [upd_ne ha]; exact h1, h2.mono hs fun _ h => h⟩

def frzK (S : DSt) (y : TV) (Q : DV → DSt → Prop) : Prop :=
  match y with
  | .val x => Q x S
  | .rf a => Q (.ref a) S
  | .own (.lst xs) => Q (.lst xs) S
  | .own (.dic xs) => Q (.dic xs) S
  | .own (.dit xs) => Q (.dit xs) S
  | .own (.ins _ _) => False
  | .slt i => match S.g[i]? with
    | some (some (.val x)) => Q x S
    | some (some (.rf a)) => Q (.ref a) S
    | some (some (.own (.lst xs))) => Q (.lst xs) ⟨S.g.set i (some (.val (.lst xs))), S.o⟩
    | some (some (.own (.dic xs))) => Q (.dic xs) ⟨S.g.set i (some (.val (.dic xs))), S.o⟩
    | some (some (.own (.dit xs))) => Q (.dit xs) ⟨S.g.set i (some (.val (.dit xs))), S.o⟩
    | _ => False
theorem frz_new {u : HO} (a : Stp K F0 H0 σ0 S0 F H σ S) (hF : F p = none) (hH : H p = some u) (hn : ¬ ow σ S p) (hw : H0 p = none ∨ ow σ0 S0 p) : Stp K F0 H0 σ0 S0 (upd F p u) H σ S := by
  have hs := same_upd (o := u) hF
  have hop : S.o p = none := by
    cases e : S.o p with
    | none => rfl
    | some so => exact absurd (.inr (by rw [e]; exact fun z => by cases z)) hn
  refine ⟨a.fx.trans hs, a.kp, fun b h n q => ?_, a.no, a.st.frz hF hH rfl hop rfl (fun i o e => ⟨e, fun z => hn (.inl ⟨i, o, e, z⟩)⟩) fun i x e hx => ?_⟩
  · by_cases hb : b = p
    · subst hb
      rcases hw with z | z
      · exact absurd z h
      · exact absurd z n
    · rw [upd_ne hb] at q; exact a.nf b h n q
  · obtain ⟨v, e1, r⟩ := a.st.sl i x e
    refine ⟨v, e1, ?_⟩
    cases x with
    | val y => exact Rp.mono hs r
    | own o => exact absurd rfl (hx o)
    | rf b => exact r
    | err b c d er => exact ⟨r.1, r.2.mono hs⟩
theorem frz_slot {u : HO} {i : Nat} {o : SO} {x : DV} (a : Stp K F0 H0 σ0 S0 F H σ S) (e : S.g[i]? = some (some (.own o))) (e2 : σ[i]? = some (some (.ref p))) (hF : F p = none) (hH : H p = some u) (r : Rp K (upd F p u) (.ref p) x) :
    Stp K F0 H0 σ0 S0 (upd F p u) H σ ⟨S.g.set i (some (.val x)), S.o⟩ := by
  have hs := same_upd (o := u) hF
  have hop : S.o p = none := a.st.sep i o p e e2
  have hi : i < S.g.length := (List.getElem?_eq_some_iff.mp e).1
  have hj : ∀ (j : Nat) y, (S.g.set i (some (.val x)))[j]? = some (some y) → (j = i ∧ y = .val x) ∨ (j ≠ i ∧ S.g[j]? = some (some y)) := fun j y h => by
    by_cases hji : j = i
    · subst hji
      rw [List.getElem?_set_self hi] at h
      cases h
      exact .inl ⟨rfl, rfl⟩
    · rw [List.getElem?_set_ne (Ne.symm hji)] at h
      exact .inr ⟨hji, h⟩
  refine ⟨a.fx.trans hs, a.kp, fun b h n q => ?_, fun b h => ?_, a.st.frz hF hH rfl hop (by simp) (fun j o' h => ?_) fun j y h hy => ?_⟩
  · by_cases hb : b = p
    · subst hb
      rcases a.no b (.inl ⟨i, o, e, e2⟩) with z | z
      · exact absurd z n
      · exact absurd z h
    · rw [upd_ne hb] at q; exact a.nf b h n q
  · refine a.no b ?_
    rcases h with ⟨j, o', h1, h2⟩ | h
    · rcases hj j _ h1 with ⟨_, z⟩ | ⟨_, z⟩
      · cases z
      · exact .inl ⟨j, o', z, h2⟩
    · exact .inr h
  · rcases hj j _ h with ⟨_, z⟩ | ⟨hne, z⟩
    · cases z
    · exact ⟨z, fun q => hne (a.st.inj j i o' o p z e q e2)⟩
  · rcases hj j _ h with ⟨z1, z2⟩ | ⟨hne, z⟩
    · subst z1 z2; exact ⟨_, e2, r⟩
    · obtain ⟨v, e1, r'⟩ := a.st.sl j y z
      refine ⟨v, e1, ?_⟩
      cases y with
      | val y => exact Rp.mono hs r'
      | own o => exact absurd rfl (hy o)
      | rf b => exact r'
      | err b c d er => exact ⟨r'.1, r'.2.mono hs⟩
theorem frz_ok {y : TV} {Q : DV → DSt → Prop} (a : Stp K F0 H0 σ0 S0 F H σ S) (t : TVr K F H σ S v y) (n : Nw H0 σ0 S0 v y) (h : frzK S y Q) : ∃ x F' S', Stp K F0 H0 σ0 S0 F' H σ S' ∧ Rp K F' v x ∧ Q x S' := by
  cases y with
  | val x => exact ⟨x, F, S, a, t, h⟩
  | rf b => cases (show v = .ref b from t); exact ⟨.ref b, F, S, a, .ref b, h⟩
  | own o =>
    obtain ⟨p, e, h1, h2, h3⟩ := t
    subst e
    have hw := n o p rfl rfl
    cases o with
    | lst xs =>
      obtain ⟨vs, h4, h5⟩ := h2
      exact ⟨.lst xs, _, S, frz_new a h1 h4 h3 hw, .lst upd_same (h5.mono (same_upd h1)), h⟩
    | dic xs =>
      obtain ⟨vs, h4, h5⟩ := h2
      exact ⟨.dic xs, _, S, frz_new a h1 h4 h3 hw, .dic upd_same (h5.mono (same_upd h1)), h⟩
    | dit xs =>
      obtain ⟨vs, h4, h5⟩ := h2
      exact ⟨.dit xs, _, S, frz_new a h1 h4 h3 hw, .dit upd_same h5, h⟩
    | ins c fs => exact h.elim
  | slt i =>
    have e2 : σ[i]? = some (some v) := t
    have h' : (match S.g[i]? with
      | some (some (.val x)) => Q x S
      | some (some (.rf a)) => Q (.ref a) S
      | some (some (.own (.lst xs))) => Q (.lst xs) ⟨S.g.set i (some (.val (.lst xs))), S.o⟩
      | some (some (.own (.dic xs))) => Q (.dic xs) ⟨S.g.set i (some (.val (.dic xs))), S.o⟩
      | some (some (.own (.dit xs))) => Q (.dit xs) ⟨S.g.set i (some (.val (.dit xs))), S.o⟩
      | _ => False) := h
    split at h'
    · rename_i x e
      obtain ⟨w, e3, r⟩ := a.st.sl i _ e
      rw [e2] at e3; cases e3
      exact ⟨x, F, S, a, r, h'⟩
    · rename_i b e
      obtain ⟨w, e3, r⟩ := a.st.sl i _ e
      rw [e2] at e3; cases e3
      cases (show v = .ref b from r)
      exact ⟨.ref b, F, S, a, .ref b, h'⟩
    · rename_i xs e
      obtain ⟨w, e3, p, rfl, h1, vs, h4, h5⟩ := a.st.sl i _ e
      rw [e2] at e3; cases e3
      have r : Rp K (upd F p (.lst vs)) (.ref p) (.lst xs) := .lst upd_same (h5.mono (same_upd h1))
      exact ⟨.lst xs, _, _, frz_slot a e e2 h1 h4 r, r, h'⟩
    · rename_i xs e
      obtain ⟨w, e3, p, rfl, h1, vs, h4, h5⟩ := a.st.sl i _ e
      rw [e2] at e3; cases e3
      have r : Rp K (upd F p (.dK vs)) (.ref p) (.dic xs) := .dic upd_same (h5.mono (same_upd h1))
      exact ⟨.dic xs, _, _, frz_slot a e e2 h1 h4 r, r, h'⟩
    · rename_i xs e
      obtain ⟨w, e3, p, rfl, h1, vs, h4, h5⟩ := a.st.sl i _ e
      rw [e2] at e3; cases e3
      have r : Rp K (upd F p (.dT vs)) (.ref p) (.dit xs) := .dit upd_same h5
      exact ⟨.dit xs, _, _, frz_slot a e e2 h1 h4 r, r, h'⟩
    · exact h'.elim
def dFrz (d : DE) : DX := fun S Q Ed => d S (fun y S1 => frzK S1 y Q) Ed
theorem LE.frz {t : TE} {d : DE} (h : LE K W t d) : LX K W t (dFrz d) := fun F H σ S Q Qd Ed s hd k e =>
  h F H σ S Q _ Ed s hd (fun v y F' H' S' a r n q => by
    obtain ⟨x, F2, S2, b, r2, q2⟩ := frz_ok a r n q
    exact k v x F2 H' S2 b r2 q2) e
def dVal (d : DX) : DE := fun S Q Ed => d S (fun x S1 => Q (.val x) S1) Ed
theorem LX.val {t : TE} {d : DX} (h : LX K W t d) : LE K W t (dVal d) := fun F H σ S Q Qd Ed s hd k e =>
  h F H σ S Q _ Ed s hd (fun v x F' H' S' a r q => k v (.val x) F' H' S' a r Nw.val q) e

/-! ### looking at a value as a tree -/
def onS {α : Type} (o : Option α) (Q : α → Prop) : Prop := match o with
  | some x => Q x
  | none => False
theorem onS_some {α : Type} {x : α} {Q : α → Prop} : onS (some x) Q = Q x := rfl
def soT : SO → Option DV
  | .lst xs => some (.lst xs)
  | .dic xs => some (.dic xs)
  | .dit xs => some (.dit xs)
  | .ins _ _ => none
def tree (S : DSt) : TV → Option DV
  | .val (.ref a) => (S.o a).bind soT
  | .val x => some x
  | .rf a => (S.o a).bind soT
  | .own o => soT o
  | .slt i => match S.g[i]? with
    | some (some (.val x)) => some x
    | some (some (.own o)) => soT o
    | some (some (.rf a)) => (S.o a).bind soT
    | _ => none
/-- as a tree whose root is read off the heap -/
inductive RpB (K : PySem.W.Frag) (F H : Hp) : V → DV → Prop where
  | of {v : V} {x : DV} : Rp K F v x → RpB K F H v x
  | lst {a : Addr} {vs : List V} {xs : List DV} : H a = some (.lst vs) → Rps K F vs xs → RpB K F H (.ref a) (.lst xs)
  | dic {a : Addr} {vs : List (Key × V)} {xs : List (Key × DV)} : H a = some (.dK vs) → Rks K F vs xs → RpB K F H (.ref a) (.dic xs)
  | dit {a : Addr} {vs : List (List Key × V)} {xs : List (List Key × DV)} : H a = some (.dT vs) → Fts vs xs → RpB K F H (.ref a) (.dit xs)
theorem soT_ok {o : SO} {x : DV} (h : HOof K F H p o) (e : soT o = some x) : RpB K F H (.ref p) x := by
  cases o with
  | lst xs => obtain ⟨vs, h1, h2⟩ := h; cases e; exact .lst h1 h2
  | dic xs => obtain ⟨vs, h1, h2⟩ := h; cases e; exact .dic h1 h2
  | dit xs => obtain ⟨vs, h1, h2⟩ := h; cases e; exact .dit h1 h2
  | ins c fs => cases e
theorem tree_ok {y : TV} {x : DV} (s : Stt K F H σ S) (t : TVr K F H σ S v y) (e : tree S y = some x) : RpB K F H v x := by
  have rfc : ∀ a, (S.o a).bind soT = some x → RpB K F H (.ref a) x := fun a e => by
    cases q : S.o a with
    | none => rw [q] at e; cases e
    | some so => rw [q] at e; exact soT_ok (s.ob a so q).2 e
  cases y with
  | val y =>
    cases y with
    | ref a => cases (show Rp K F v (.ref a) from t); exact rfc a e
    | _ => cases e; exact .of t
  | rf a => cases (show v = .ref a from t); exact rfc a e
  | own o => obtain ⟨p, rfl, h1, h2, h3⟩ := t; exact soT_ok h2 e
  | slt i =>
    have e2 : σ[i]? = some (some v) := t
    have e' : (match S.g[i]? with
      | some (some (.val x)) => some x
      | some (some (.own o)) => soT o
      | some (some (.rf a)) => (S.o a).bind soT
      | _ => none) = some x := e
    split at e'
    · rename_i y q
      cases e'
      obtain ⟨w, e3, r⟩ := s.sl i _ q
      rw [e2] at e3; cases e3; exact .of r
    · rename_i o q
      obtain ⟨w, e3, p, rfl, h1, h2⟩ := s.sl i _ q
      rw [e2] at e3; cases e3; exact soT_ok h2 e'
    · rename_i a q
      obtain ⟨w, e3, r⟩ := s.sl i _ q
      rw [e2] at e3; cases e3
      cases (show v = .ref a from r); exact rfc a e'
    · cases e'
theorem RpB.list {xs : List DV} (h : RpB K F H v (.lst xs)) (s : Same F H) : ∃ a vs, v = .ref a ∧ H a = some (.lst vs) ∧ Rps K F vs xs := by
  cases h with
  | of r => cases r with | lst h1 h2 => exact ⟨_, _, rfl, s _ _ h1, h2⟩
  | lst h1 h2 => exact ⟨_, _, rfl, h1, h2⟩
theorem RpB.dict {xs : List (Key × DV)} (h : RpB K F H v (.dic xs)) (s : Same F H) : ∃ a vs, v = .ref a ∧ H a = some (.dK vs) ∧ Rks K F vs xs := by
  cases h with
  | of r => cases r with | dic h1 h2 => exact ⟨_, _, rfl, s _ _ h1, h2⟩
  | dic h1 h2 => exact ⟨_, _, rfl, h1, h2⟩
theorem RpB.seq {xs : List DV} (h : RpB K F H v (.seq xs)) (s : Same F H) : ∃ a vs, v = .ref a ∧ SqL K H a vs ∧ Rps K F vs xs := by
  cases h with | of r => cases r with | seq h1 h2 => exact ⟨_, _, rfl, s.seq h1, h2⟩
theorem RpB.tup {xs : List DV} (h : RpB K F H v (.tup xs)) (s : Same F H) : ∃ a vs, v = .ref a ∧ SqT K H a vs ∧ Rps K F vs xs := by
  cases h with | of r => cases r with | tup h1 h2 => exact ⟨_, _, rfl, Same.seqT s h1, h2⟩
theorem RpB.int {i : Int} (h : RpB K F H v (.int i)) : v = .int i := by cases h with | of r => cases r; rfl
theorem RpB.bl {i : Bool} (h : RpB K F H v (.bl i)) : v = .bl i := by cases h with | of r => cases r; rfl
theorem RpB.str {i : Str} (h : RpB K F H v (.str i)) : v = .str i := by cases h with | of r => cases r; rfl
theorem RpB.non (h : RpB K F H v .non) : v = .non := by cases h with | of r => cases r; rfl
inductive RpBs (K : PySem.W.Frag) (F H : Hp) : List V → List DV → Prop where
  | nil : RpBs K F H [] []
  | cons {v : V} {x : DV} {vs : List V} {xs : List DV} : RpB K F H v x → RpBs K F H vs xs → RpBs K F H (v :: vs) (x :: xs)

/-! ### what a rule hands on -/
structure Grw (F H F' H' : Hp) : Prop where
  fx : Same F F'
  hx : Same H H'
  ex : Same F' H'
  nf : ∀ a, H a ≠ none → F' a ≠ none → F a ≠ none
theorem Grw.refl (h : Same F H) : Grw F H F H := ⟨Same.refl F, Same.refl H, h, fun _ _ h => h⟩
theorem Grw.new {o : HO} (h : Same F H) (hp : H p = none) : Grw F H F (upd H p o) := ⟨Same.refl F, same_upd hp, h.trans (same_upd hp), fun _ _ h => h⟩
/-- a new frozen object -/
theorem Grw.newF {o : HO} (h : Same F H) (hp : H p = none) : Grw F H (upd F p o) (upd H p o) := by
  have hF : F p = none := h.free hp
  refine ⟨same_upd hF, same_upd hp, fun b u e => ?_, fun a ha q => ?_⟩
  · by_cases hb : b = p
    · subst hb; rw [upd_same] at e ⊢; exact e
    · rw [upd_ne hb] at e ⊢; exact h b u e
  · rw [upd_ne (fun z => ha (by rw [z]; exact hp))] at q; exact q
theorem Stp.grw (s : Stt K F H σ S) (g : Grw F H F' H') : Stp K F H σ S F' H' σ S := by
  refine ⟨g.fx, fun a o h _ => g.hx a o h, fun a h _ q => g.nf a h q, fun a h => .inl h, ⟨g.ex, s.len, fun i x e => ?_, s.inj, s.sep, fun a so e => ?_⟩⟩
  · obtain ⟨v, e1, r⟩ := s.sl i x e
    refine ⟨v, e1, ?_⟩
    cases x with
    | val y => exact Rp.mono g.fx r
    | rf b => exact r
    | err b c d er => exact ⟨r.1, r.2.mono g.fx⟩
    | own o =>
      obtain ⟨q, e2, e3, e4⟩ := r
      refine ⟨q, e2, ?_, e4.mono g.fx (g.hx q)⟩
      cases z : F' q with
      | none => rfl
      | some u => exact absurd e3 (g.nf q e4.ne (by rw [z]; exact fun y => by cases y))
  · obtain ⟨h1, h2⟩ := s.ob a so e
    refine ⟨?_, h2.mono g.fx (g.hx a)⟩
    cases z : F' a with
    | none => rfl
    | some u => exact absurd h1 (g.nf a h2.ne (by rw [z]; exact fun y => by cases y))
/-- the wish for a result -/
def Res (K : PySem.W.Frag) (F H : Hp) (z : TV) (Q : VK) : Prop := match z with
  | .val d => ∀ v F' H', Grw F H F' H' → Rp K F' v d → Q v H'
  | .own o => ∀ p F' H', Grw F H F' H' → H p = none → F' p = none → HOof K F' H' p o → Q (.ref p) H'
  | _ => True
theorem Res.here {d : DV} {Q : VK} (h : Res K F H (.val d) Q) (s : Same F H) (r : Rp K F v d) : Q v H := h v F H (Grw.refl s) r
theorem Res.newL {xs : List DV} {vs : List V} {Q : VK} (h : Res K F H (.own (.lst xs)) Q) (s : Same F H) (hp : H p = none) (r : Rps K F vs xs) : Q (.ref p) (upd H p (.lst vs)) :=
  h p F _ (Grw.new s hp) hp (s.free hp) ⟨vs, upd_same, r⟩
theorem Res.newT {xs : List DV} {vs : List V} {Q : VK} (h : Res K F H (.val (.tup xs)) Q) (s : Same F H) (hp : H p = none) (r : Rps K F vs xs) : Q (.ref p) (upd H p (.tup vs)) :=
  h (.ref p) _ _ (Grw.newF s hp) (.tup (.inl (.inl upd_same)) (r.mono (same_upd (s.free hp))))
theorem res_of {z : TV} {Q : VK} {Qd : TV → DSt → Prop} (s : Stt K F H σ S) (hz : (∃ d, z = .val d) ∨ (∃ o, z = .own o) ∨ ∀ F H Q, Res K F H z Q → True) (q : Qd z S)
    (k : ∀ v y F' H' S', Stp K F H σ S F' H' σ S' → TVr K F' H' σ S' v y → Nw H σ S v y → Qd y S' → Q v H') : Res K F H z Q := by
  cases z with
  | val d => exact fun v F' H' g r => k v (.val d) F' H' S (Stp.grw s g) r Nw.val q
  | own o =>
    intro p F' H' g hp hF h
    refine k (.ref p) (.own o) F' H' S (Stp.grw s g) ⟨p, rfl, hF, h, fun z => ?_⟩ (fun o' p' e1 e2 => by cases e2; exact .inl hp) q
    obtain ⟨_, o', h'⟩ := s.ow_some z
    exact h'.ne hp
  | rf a => trivial
  | slt i => trivial

/-! ### one operand, two operands, arguments -/
def G1 (K : PySem.W.Frag) (r : V → Hp → VK → Prop) (f : DV → Option TV) : Prop := ∀ F H v x z Q, Same F H → RpB K F H v x → f x = some z → Res K F H z Q → r v H Q
def G2 (K : PySem.W.Frag) (r : R2) (f : DV → DV → Option TV) : Prop := ∀ F H v w x y z Q, Same F H → RpB K F H v x → RpB K F H w y → f x y = some z → Res K F H z Q → r v w H Q
def Gn (K : PySem.W.Frag) (r : List V → Hp → VK → Prop) (f : List DV → Option TV) : Prop := ∀ F H vs xs z Q, Same F H → RpBs K F H vs xs → f xs = some z → Res K F H z Q → r vs H Q
def d1 (f : DV → Option TV) (da : DE) : DE := fun S Q Ed => da S (fun y S1 => onS (tree S1 y) fun x => onS (f x) fun z => Q z S1) Ed
def d2 (f : DV → DV → Option TV) (da db : DE) : DE := fun S Q Ed => da S (fun y S1 => db S1 (fun y' S2 => onS (tree S2 y) fun x => onS (tree S2 y') fun x' => onS (f x x') fun z => Q z S2) Ed) Ed
theorem onS_ok {α : Type} {o : Option α} {Q : α → Prop} (h : onS o Q) : ∃ x, o = some x ∧ Q x := by
  cases o with
  | none => exact h.elim
  | some x => exact ⟨x, rfl, h⟩
theorem LE.u {r : V → Hp → VK → Prop} {f : DV → Option TV} {ta : TE} {da : DE} (g : G1 K r f) (ha : LE K W ta da) : LE K W (tUn r ta) (d1 f da) := fun F H σ S Q Qd Ed s hd k e =>
  ha F H σ S _ _ Ed s hd (fun v y F1 H1 S1 a r1 n q => by
    obtain ⟨x, e1, q⟩ := onS_ok q
    obtain ⟨z, e2, q⟩ := onS_ok q
    exact g F1 H1 v x z Q a.st.ex (tree_ok a.st r1 e1) e2 (res_of a.st (.inr (.inr fun _ _ _ _ => trivial)) q fun v' y' F' H' S' b r' n' q' => k v' y' F' H' S' (a.trans b) r' (n'.back a) q')) e
theorem LE.b {r : R2} {f : DV → DV → Option TV} {ta tb : TE} {da db : DE} (g : G2 K r f) (ha : LE K W ta da) (hb : LE K W tb db) : LE K W (tOp r ta tb) (d2 f da db) := fun F H σ S Q Qd Ed s hd k e =>
  ha F H σ S _ _ Ed s hd (fun v y F1 H1 S1 a r1 n q => hb F1 H1 σ S1 _ _ Ed a.st q (fun w y' F2 H2 S2 b r2 n2 q => by
    obtain ⟨x, e1, q⟩ := onS_ok q
    obtain ⟨x', e2, q⟩ := onS_ok q
    obtain ⟨z, e3, q⟩ := onS_ok q
    have ab := a.trans b
    exact g F2 H2 v w x x' z Q b.st.ex (tree_ok b.st (r1.step b) e1) (tree_ok b.st r2 e2) e3 (res_of b.st (.inr (.inr fun _ _ _ _ => trivial)) q fun v' y' F' H' S' c r' n' q' => k v' y' F' H' S' (ab.trans c) r' (n'.back ab) q')) (e.step a)) e
def treeAll (S : DSt) : List TV → Option (List DV)
  | [] => some []
  | y :: ys => match tree S y with
    | some x => match treeAll S ys with
      | some xs => some (x :: xs)
      | none => none
    | none => none
theorem treeAll_ok (s : Stt K F H σ S) : ∀ {vs : List V} {ys : List TV} {xs : List DV}, TVs K F H σ S vs ys → treeAll S ys = some xs → RpBs K F H vs xs
  | _, _, _, .nil, e => by cases e; exact .nil
  | _, _, xs, .cons (y := y) (ys := ys) h r, e => by
    have e' : (match tree S y with
      | some x => match treeAll S ys with
        | some xs => some (x :: xs)
        | none => none
      | none => none) = some xs := e
    cases q1 : tree S y with
    | none => rw [q1] at e'; cases e'
    | some x =>
      rw [q1] at e'
      cases q2 : treeAll S ys with
      | none => simp only [q2] at e'; cases e'
      | some zs =>
        simp only [q2] at e'
        cases e'
        exact .cons (tree_ok s h q1) (treeAll_ok s r q2)
def dN (f : List DV → Option TV) (da : DB) : DE := fun S Q Ed => da S (fun ys S1 => onS (treeAll S1 ys) fun xs => onS (f xs) fun z => Q z S1) Ed
theorem LB.n {r : List V → Hp → VK → Prop} {f : List DV → Option TV} {ta : TA} {da : DB} (g : Gn K r f) (ha : LB K W ta da) : LE K W (tCB r ta) (dN f da) := fun F H σ S Q Qd Ed s hd k e =>
  ha F H σ S _ _ Ed s hd (fun vs ys F1 H1 S1 a r1 q => by
    obtain ⟨xs, e1, q⟩ := onS_ok q
    obtain ⟨z, e2, q⟩ := onS_ok q
    exact g F1 H1 vs xs z Q a.st.ex (treeAll_ok a.st r1 e1) e2 (res_of a.st (.inr (.inr fun _ _ _ _ => trivial)) q fun v' y' F' H' S' b r' n' q' => k v' y' F' H' S' (a.trans b) r' (n'.back a) q')) e
/-! ### argument lists -/
def dBnil : DB := fun S Q _ => Q [] S
def dBcons (da : DE) (db : DB) : DB := fun S Q Ed => da S (fun y S1 => db S1 (fun ys S2 => Q (y :: ys) S2) Ed) Ed
def dAnil : DA := fun S Q _ => Q [] S
def dAcons (da : DX) (db : DA) : DA := fun S Q Ed => da S (fun y S1 => db S1 (fun ys S2 => Q (y :: ys) S2) Ed) Ed
theorem LB.nil : LB K W tNil dBnil := fun F H σ S Q Qd Ed s hd k e => k [] [] F H S (Stp.refl s) .nil hd
theorem LB.cons {ta : TE} {tr : TA} {da : DE} {db : DB} (ha : LE K W ta da) (hb : LB K W tr db) : LB K W (tCons ta tr) (dBcons da db) := fun F H σ S Q Qd Ed s hd k e =>
  ha F H σ S _ _ Ed s hd (fun v y F1 H1 S1 a r1 n q => hb F1 H1 σ S1 _ _ Ed a.st q (fun vs ys F2 H2 S2 b r2 q => k (v :: vs) (y :: ys) F2 H2 S2 (a.trans b) (.cons (r1.step b) r2) q) (e.step a)) e
theorem LA.nil : LA K W tNil dAnil := fun F H σ S Q Qd Ed s hd k e => k [] [] F H S (Stp.refl s) .nil hd
theorem LA.cons {ta : TE} {tr : TA} {da : DX} {db : DA} (ha : LX K W ta da) (hb : LA K W tr db) : LA K W (tCons ta tr) (dAcons da db) := fun F H σ S Q Qd Ed s hd k e =>
  ha F H σ S _ _ Ed s hd (fun v y F1 H1 S1 a r1 q => hb F1 H1 σ S1 _ _ Ed a.st q (fun vs ys F2 H2 S2 b r2 q => k (v :: vs) (y :: ys) F2 H2 S2 (a.trans b) (.cons (r1.mono b.fx) r2) q) (e.step a)) e
/-! ### names, constants -/
def dVar (i : Nat) : DE := fun S Q _ => match S.g[i]? with
  | some (some (.val x)) => Q (.val x) S
  | some (some (.own _)) => Q (.slt i) S
  | some (some (.rf a)) => Q (.rf a) S
  | _ => False
theorem LE.var (i : Nat) : LE K W (tVar i) (dVar i) := fun F H σ S Q Qd Ed s hd k e => by
  have h : (match S.g[i]? with
    | some (some (.val x)) => Qd (.val x) S
    | some (some (.own _)) => Qd (.slt i) S
    | some (some (.rf a)) => Qd (.rf a) S
    | _ => False) := hd
  split at h
  · rename_i x q
    obtain ⟨v, e1, r⟩ := s.sl i _ q
    exact ⟨v, e1, k v (.val x) F H S (Stp.refl s) r Nw.val h⟩
  · rename_i o q
    obtain ⟨v, e1, r⟩ := s.sl i _ q
    exact ⟨v, e1, k v (.slt i) F H S (Stp.refl s) e1 Nw.slt h⟩
  · rename_i a q
    obtain ⟨v, e1, r⟩ := s.sl i _ q
    exact ⟨v, e1, k v (.rf a) F H S (Stp.refl s) r Nw.rf h⟩
  · exact h.elim
def dC (x : DV) : DE := fun S Q _ => Q (.val x) S
theorem LE.c {x : DV} (v : V) (r : ∀ F, Rp K F v x) : LE K W (tC v) (dC x) := fun F H σ S Q Qd Ed s hd k e => k v (.val x) F H S (Stp.refl s) (r F) Nw.val hd
/-! ### tests, and, or, not -/
def blK (y : TV) (Q : Bool → Prop) : Prop := match y with
  | .val (.bl b) => Q b
  | _ => False
theorem blK_ok {y : TV} {Q : Bool → Prop} (h : blK y Q) : ∃ b, y = .val (.bl b) ∧ Q b := by
  cases y with
  | val x =>
    cases x with
    | bl b => exact ⟨b, rfl, h⟩
    | _ => exact (show False from h).elim
  | _ => exact (show False from h).elim
def dTest (d : DE) : DT := fun S Q Ed => d S (fun y S1 => blK y fun b => Q b S1) Ed
theorem LE.test {t : TE} {d : DE} (h : LE K W t d) : LT K W (tTest t) (dTest d) := fun F H σ S Q Qd Ed s hd k e =>
  h F H σ S _ _ Ed s hd (fun v y F1 H1 S1 a r n q => by
    obtain ⟨b, rfl, q⟩ := blK_ok q
    cases (show Rp K F1 v (.bl b) from r)
    exact ⟨b, rfl, k b F1 H1 S1 a q⟩) e
theorem LE.testB {t : TE} {d : DE} (h : LE K W t d) : LT K W (tB t) (dTest d) := LE.test h
def dAnd (d u : DT) : DT := fun S Q Ed => d S (fun b S1 => if b = true then u S1 Q Ed else Q false S1) Ed
def dOr (d u : DT) : DT := fun S Q Ed => d S (fun b S1 => if b = true then Q true S1 else u S1 Q Ed) Ed
def dNot (d : DT) : DT := fun S Q Ed => d S (fun b S1 => Q (!b) S1) Ed
theorem LT.and {t u : TT} {d d' : DT} (h : LT K W t d) (h' : LT K W u d') : LT K W (tAnd t u) (dAnd d d') := fun F H σ S Q Qd Ed s hd k e =>
  h F H σ S _ _ Ed s hd (fun b F1 H1 S1 a q => by
    cases b with
    | true => exact h' F1 H1 σ S1 Q Qd Ed a.st q (fun b F2 H2 S2 c q => k b F2 H2 S2 (a.trans c) q) (e.step a)
    | false => exact k false F1 H1 S1 a q) e
theorem LT.or {t u : TT} {d d' : DT} (h : LT K W t d) (h' : LT K W u d') : LT K W (tOr t u) (dOr d d') := fun F H σ S Q Qd Ed s hd k e =>
  h F H σ S _ _ Ed s hd (fun b F1 H1 S1 a q => by
    cases b with
    | false => exact h' F1 H1 σ S1 Q Qd Ed a.st q (fun b F2 H2 S2 c q => k b F2 H2 S2 (a.trans c) q) (e.step a)
    | true => exact k true F1 H1 S1 a q) e
theorem LT.not {t : TT} {d : DT} (h : LT K W t d) : LT K W (tNot t) (dNot d) := fun F H σ S Q Qd Ed s hd k e =>
  h F H σ S _ _ Ed s hd (fun b F1 H1 S1 a q => k (!b) F1 H1 S1 a q) e
def dAndV (d u : DE) : DE := fun S Q Ed => d S (fun y S1 => blK y fun b => if b = true then u S1 Q Ed else Q (.val (.bl false)) S1) Ed
def dOrV (d u : DE) : DE := fun S Q Ed => d S (fun y S1 => blK y fun b => if b = true then Q (.val (.bl true)) S1 else u S1 Q Ed) Ed
def dNotV (d : DE) : DE := fun S Q Ed => d S (fun y S1 => blK y fun b => Q (.val (.bl (!b))) S1) Ed
def dIfV (c : DT) (d u : DE) : DE := fun S Q Ed => c S (fun b S1 => if b = true then d S1 Q Ed else u S1 Q Ed) Ed
theorem LE.andV {t u : TE} {d d' : DE} (h : LE K W t d) (h' : LE K W u d') : LE K W (tAndV t u) (dAndV d d') := fun F H σ S Q Qd Ed s hd k e =>
  h F H σ S _ _ Ed s hd (fun v y F1 H1 S1 a r n q => by
    obtain ⟨b, rfl, q⟩ := blK_ok q
    cases (show Rp K F1 v (.bl b) from r)
    refine ⟨b, rfl, ?_⟩
    cases b with
    | true => exact h' F1 H1 σ S1 Q Qd Ed a.st q (fun v y F2 H2 S2 c r n q => k v y F2 H2 S2 (a.trans c) r (n.back a) q) (e.step a)
    | false => exact k _ (.val (.bl false)) F1 H1 S1 a (Rp.bl false) Nw.val q) e
theorem LE.orV {t u : TE} {d d' : DE} (h : LE K W t d) (h' : LE K W u d') : LE K W (tOrV t u) (dOrV d d') := fun F H σ S Q Qd Ed s hd k e =>
  h F H σ S _ _ Ed s hd (fun v y F1 H1 S1 a r n q => by
    obtain ⟨b, rfl, q⟩ := blK_ok q
    cases (show Rp K F1 v (.bl b) from r)
    refine ⟨b, rfl, ?_⟩
    cases b with
    | false => exact h' F1 H1 σ S1 Q Qd Ed a.st q (fun v y F2 H2 S2 c r n q => k v y F2 H2 S2 (a.trans c) r (n.back a) q) (e.step a)
    | true => exact k _ (.val (.bl true)) F1 H1 S1 a (Rp.bl true) Nw.val q) e
theorem LE.notV {t : TE} {d : DE} (h : LE K W t d) : LE K W (tNotV t) (dNotV d) := fun F H σ S Q Qd Ed s hd k e =>
  h F H σ S _ _ Ed s hd (fun v y F1 H1 S1 a r n q => by
    obtain ⟨b, rfl, q⟩ := blK_ok q
    cases (show Rp K F1 v (.bl b) from r)
    exact ⟨b, rfl, k _ (.val (.bl (!b))) F1 H1 S1 a (Rp.bl (!b)) Nw.val q⟩) e
theorem LE.ifV {c : TT} {t u : TE} {dc : DT} {d d' : DE} (hc : LT K W c dc) (h : LE K W t d) (h' : LE K W u d') : LE K W (tIf c t u) (dIfV dc d d') := fun F H σ S Q Qd Ed s hd k e =>
  hc F H σ S _ _ Ed s hd (fun b F1 H1 S1 a q => by
    cases b with
    | true => exact h F1 H1 σ S1 Q Qd Ed a.st q (fun v y F2 H2 S2 c r n q => k v y F2 H2 S2 (a.trans c) r (n.back a) q) (e.step a)
    | false => exact h' F1 H1 σ S1 Q Qd Ed a.st q (fun v y F2 H2 S2 c r n q => k v y F2 H2 S2 (a.trans c) r (n.back a) q) (e.step a)) e
/-! ### displays -/
def dTup (da : DA) : DE := fun S Q Ed => da S (fun xs S1 => xs.length ≤ sizeLine ∧ Q (.val (.tup xs)) S1) Ed
def dLst (da : DA) : DE := fun S Q Ed => da S (fun xs S1 => xs.length ≤ sizeLine ∧ Q (.own (.lst xs)) S1) Ed
theorem LA.tup {t : TA} {d : DA} (h : LA K W t d) : LE K W (tTup t) (dTup d) := fun F H σ S Q Qd Ed s hd k e =>
  h F H σ S _ _ Ed s hd (fun vs xs F1 H1 S1 a r ⟨z, q⟩ => ⟨by rw [r.len]; exact z, fun p hp =>
    (res_of (z := .val (.tup xs)) (Q := Q) a.st (.inl ⟨_, rfl⟩) q fun v' y' F' H' S' b r' n' q' => k v' y' F' H' S' (a.trans b) r' (n'.back a) q').newT a.st.ex hp r⟩) e
theorem LA.lst {t : TA} {d : DA} (h : LA K W t d) : LE K W (tLst t) (dLst d) := fun F H σ S Q Qd Ed s hd k e =>
  h F H σ S _ _ Ed s hd (fun vs xs F1 H1 S1 a r ⟨z, q⟩ => ⟨by rw [r.len]; exact z, fun p hp =>
    (res_of (z := .own (.lst xs)) (Q := Q) a.st (.inr (.inl ⟨_, rfl⟩)) q fun v' y' F' H' S' b r' n' q' => k v' y' F' H' S' (a.trans b) r' (n'.back a) q').newL a.st.ex hp r⟩) e
end
end L3

/-! L3c: statements, loops, changes of objects. -/
namespace L3
open PySem PySem.Spec PyProof.Rows L2
def updO (o : OM) (p : Addr) (s : SO) : OM := fun b => if b = p then some s else o b
theorem updO_same {o : OM} {p : Addr} {s : SO} : updO o p s p = some s := if_pos rfl
theorem updO_ne {o : OM} {p b : Addr} {s : SO} (h : b ≠ p) : updO o p s b = o b := if_neg h
def DSt.put (S : DSt) (i : Nat) (x : SV) : DSt := ⟨S.g.set i (some x), S.o⟩
def DSt.wipe (S : DSt) (ks : List Nat) : DSt := ⟨ks.foldl (fun g i => g.set i none) S.g, S.o⟩
section
variable {K : PySem.W.Frag} {F F' H H' F0 H0 : Hp} {σ σ' σ1 σ2 σ0 : L2.St} {S S' S1 S2 S0 : DSt} {F1 F2 H1 H2 : Hp} {p : Addr} {v : V} {W : WX}

/-! ### slots -/
theorem put_get {i j : Nat} {x y : SV} (h : (S.put i x).g[j]? = some (some y)) : (j = i ∧ y = x ∧ i < S.g.length) ∨ (j ≠ i ∧ S.g[j]? = some (some y)) := by
  by_cases hji : j = i
  · subst hji
    by_cases hl : j < S.g.length
    · have h' : (S.g.set j (some x))[j]? = some (some y) := h
      rw [List.getElem?_set_self hl] at h'
      cases h'
      exact .inl ⟨rfl, rfl, hl⟩
    · have h' : (S.g.set j (some x))[j]? = some (some y) := h
      rw [List.getElem?_eq_none (by rw [List.length_set]; omega)] at h'
      cases h'
  · have h' : (S.g.set i (some x))[j]? = some (some y) := h
    rw [List.getElem?_set_ne (Ne.symm hji)] at h'
    exact .inr ⟨hji, h'⟩
theorem Stp.put {i : Nat} {x : DV} (s : Stt K F H σ S) (r : Rp K F v x) : Stp K F H σ S F H (σ.set i (some v)) (S.put i (.val x)) := by
  have back : ∀ (j : Nat) o q, (S.put i (.val x)).g[j]? = some (some (.own o)) → (σ.set i (some v))[j]? = some (some (.ref q)) → S.g[j]? = some (some (.own o)) ∧ σ[j]? = some (some (.ref q)) := fun j o q e1 e2 => by
    rcases put_get e1 with ⟨_, z, _⟩ | ⟨hne, z⟩
    · cases z
    · rw [List.getElem?_set_ne (Ne.symm hne)] at e2; exact ⟨z, e2⟩
  refine ⟨Same.refl F, fun _ _ h _ => h, fun _ _ _ h => h, fun a h => .inl ?_, ⟨s.ex, ?_, fun j y e => ?_, fun j l o o' q e1 e2 e3 e4 => ?_, fun j o q e1 e2 => ?_, s.ob⟩⟩
  · rcases h with ⟨j, o, e1, e2⟩ | h
    · obtain ⟨z1, z2⟩ := back j o a e1 e2; exact .inl ⟨j, o, z1, z2⟩
    · exact .inr h
  · show (S.g.set i _).length = (σ.set i _).length
    rw [List.length_set, List.length_set]; exact s.len
  · rcases put_get e with ⟨rfl, rfl, hl⟩ | ⟨hne, z⟩
    · exact ⟨v, List.getElem?_set_self (by rw [← s.len]; exact hl), r⟩
    · rw [List.getElem?_set_ne (Ne.symm hne)]; exact s.sl j y z
  · obtain ⟨a1, a2⟩ := back j o q e1 e3
    obtain ⟨b1, b2⟩ := back l o' q e2 e4
    exact s.inj j l o o' q a1 b1 a2 b2
  · obtain ⟨a1, a2⟩ := back j o q e1 e2
    exact s.sep j o q a1 a2
theorem wipe_get {ks : List Nat} : ∀ {g : List (Option SV)} {j : Nat} {y : SV}, (ks.foldl (fun g i => g.set i none) g)[j]? = some (some y) → g[j]? = some (some y) := by
  induction ks with
  | nil => intro g j y h; exact h
  | cons k ks ih =>
    intro g j y h
    have h' := ih (g := g.set k none) h
    by_cases hj : j = k
    · subst hj
      by_cases hl : j < g.length
      · rw [List.getElem?_set_self hl] at h'; cases h'
      · rw [List.getElem?_eq_none (by rw [List.length_set]; omega)] at h'; cases h'
    · rw [List.getElem?_set_ne (Ne.symm hj)] at h'; exact h'
theorem wipe_len {ks : List Nat} : ∀ {g : List (Option SV)}, (ks.foldl (fun g i => g.set i none) g).length = g.length := by
  induction ks with
  | nil => intro g; rfl
  | cons k ks ih => intro g; rw [List.foldl_cons, ih, List.length_set]
theorem Stp.wipe (ks : List Nat) (s : Stt K F H σ S) : Stp K F H σ S F H σ (S.wipe ks) := by
  refine ⟨Same.refl F, fun _ _ h _ => h, fun _ _ _ h => h, fun a h => .inl ?_, ⟨s.ex, by show (ks.foldl _ S.g).length = _; rw [wipe_len]; exact s.len, fun j y e => s.sl j y (wipe_get e), fun j l o o' q e1 e2 => s.inj j l o o' q (wipe_get e1) (wipe_get e2), fun j o q e1 => s.sep j o q (wipe_get e1), s.ob⟩⟩
  rcases h with ⟨j, o, e1, e2⟩ | h
  · exact .inl ⟨j, o, wipe_get e1, e2⟩
  · exact .inr h
/-- a value at hand is stored -/
def setK (i : Nat) (y : TV) (S : DSt) (k : DSt → Prop) : Prop := match y with
  | .val x => k (S.put i (.val x))
  | .own o => k (S.put i (.own o))
  | .rf a => k (S.put i (.rf a))
  | .slt j => if j = i then k S else False
theorem set_own {i : Nat} {o : SO} (a : Stp K F0 H0 σ0 S0 F H σ S) (hF : F p = none) (ho : HOof K F H p o) (hn : ¬ ow σ S p) (hw : H0 p = none ∨ ow σ0 S0 p) : Stp K F0 H0 σ0 S0 F H (σ.set i (some (.ref p))) (S.put i (.own o)) := by
  have s := a.st
  have back : ∀ (j : Nat) o' q, (S.put i (.own o)).g[j]? = some (some (.own o')) → (σ.set i (some (.ref p)))[j]? = some (some (.ref q)) → (j = i ∧ q = p) ∨ (j ≠ i ∧ S.g[j]? = some (some (.own o')) ∧ σ[j]? = some (some (.ref q))) := fun j o' q e1 e2 => by
    rcases put_get e1 with ⟨rfl, z, hl⟩ | ⟨hne, z⟩
    · rw [List.getElem?_set_self (by rw [← s.len]; exact hl)] at e2; cases e2; exact .inl ⟨rfl, rfl⟩
    · rw [List.getElem?_set_ne (Ne.symm hne)] at e2; exact .inr ⟨hne, z, e2⟩
  have hop : S.o p = none := by
    cases e : S.o p with
    | none => rfl
    | some so => exact absurd (.inr (by rw [e]; exact fun z => by cases z)) hn
  refine ⟨a.fx, a.kp, a.nf, fun b h => ?_, ⟨s.ex, ?_, fun j y e => ?_, fun j l o1 o2 q e1 e2 e3 e4 => ?_, fun j o1 q e1 e2 => ?_, s.ob⟩⟩
  · rcases h with ⟨j, o', e1, e2⟩ | h
    · rcases back j o' b e1 e2 with ⟨_, rfl⟩ | ⟨_, z1, z2⟩
      · exact hw.symm
      · exact a.no b (.inl ⟨j, o', z1, z2⟩)
    · exact a.no b (.inr h)
  · show (S.g.set i _).length = (σ.set i _).length
    rw [List.length_set, List.length_set]; exact s.len
  · rcases put_get e with ⟨rfl, rfl, hl⟩ | ⟨hne, z⟩
    · exact ⟨.ref p, List.getElem?_set_self (by rw [← s.len]; exact hl), p, rfl, hF, ho⟩
    · rw [List.getElem?_set_ne (Ne.symm hne)]; exact s.sl j y z
  · rcases back j o1 q e1 e3 with ⟨rfl, rfl⟩ | ⟨_, a1, a2⟩
    · rcases back l o2 q e2 e4 with ⟨rfl, _⟩ | ⟨_, b1, b2⟩
      · rfl
      · exact absurd (.inl ⟨l, o2, b1, b2⟩) hn
    · rcases back l o2 q e2 e4 with ⟨rfl, rfl⟩ | ⟨_, b1, b2⟩
      · exact absurd (.inl ⟨j, o1, a1, a2⟩) hn
      · exact s.inj j l o1 o2 q a1 b1 a2 b2
  · rcases back j o1 q e1 e2 with ⟨rfl, rfl⟩ | ⟨_, a1, a2⟩
    · exact hop
    · exact s.sep j o1 q a1 a2
theorem put_rf {i : Nat} {b : Addr} (s : Stt K F H σ S) : Stp K F H σ S F H (σ.set i (some (.ref b))) (S.put i (.rf b)) := by
  have a := Stp.put (i := i) s (Rp.ref (K := K) (F := F) b)
  have nown : ∀ (j : Nat) o, (S.put i (.rf b)).g[j]? = some (some (.own o)) → (S.put i (.val (.ref b))).g[j]? = some (some (.own o)) := fun j o e => by
    rcases put_get e with ⟨_, z, _⟩ | ⟨hne, z⟩
    · cases z
    · show (S.g.set i _)[j]? = _
      rw [List.getElem?_set_ne (Ne.symm hne)]; exact z
  refine ⟨a.fx, a.kp, a.nf, fun x h => ?_, ⟨s.ex, ?_, fun j y e => ?_, fun j l o o' q e1 e2 => a.st.inj j l o o' q (nown j o e1) (nown l o' e2), fun j o q e1 => a.st.sep j o q (nown j o e1), s.ob⟩⟩
  · rcases h with ⟨j, o, e1, e2⟩ | h
    · exact a.no x (.inl ⟨j, o, nown j o e1, e2⟩)
    · exact a.no x (.inr h)
  · show (S.g.set i _).length = (σ.set i _).length
    rw [List.length_set, List.length_set]; exact s.len
  · rcases put_get e with ⟨rfl, rfl, hl⟩ | ⟨hne, z⟩
    · exact ⟨.ref b, List.getElem?_set_self (by rw [← s.len]; exact hl), rfl⟩
    · rw [List.getElem?_set_ne (Ne.symm hne)]; exact s.sl j y z
theorem setK_ok {i : Nat} {y : TV} {k : DSt → Prop} (a : Stp K F0 H0 σ0 S0 F H σ S) (t : TVr K F H σ S v y) (n : Nw H0 σ0 S0 v y) (h : setK i y S k) : ∃ S', Stp K F0 H0 σ0 S0 F H (σ.set i (some v)) S' ∧ k S' := by
  cases y with
  | val x => exact ⟨_, a.trans (Stp.put a.st t), h⟩
  | own o => obtain ⟨p, rfl, h1, h2, h3⟩ := t; exact ⟨_, set_own a h1 h2 h3 (n o p rfl rfl), h⟩
  | rf b => cases (show v = .ref b from t); exact ⟨_, a.trans (put_rf a.st), h⟩
  | slt j =>
    have e2 : σ[j]? = some (some v) := t
    have h' : if j = i then k S else False := h
    by_cases hji : j = i
    · rw [if_pos hji] at h'
      subst hji
      have hl : j < σ.length := (List.getElem?_eq_some_iff.mp e2).1
      have e3 : σ.set j (some v) = σ := by
        apply List.ext_getElem?
        intro m
        by_cases hm : m = j
        · subst hm; rw [List.getElem?_set_self hl, e2]
        · rw [List.getElem?_set_ne (Ne.symm hm)]
      rw [e3]
      exact ⟨S, a, h'⟩
    · rw [if_neg hji] at h'; exact h'.elim
/-- .. as an object of the map -/
def setR (i : Nat) (y : TV) (S : DSt) (k : DSt → Prop) : Prop := match y with
  | .val (.ref a) => k (S.put i (.rf a))
  | .val _ => False
  | .own o => ∀ p, S.o p = none → k ⟨S.g.set i (some (.rf p)), updO S.o p o⟩
  | .rf a => k (S.put i (.rf a))
  | .slt _ => False
theorem to_map {o : SO} (a : Stp K F0 H0 σ0 S0 F H σ S) (hF : F p = none) (ho : HOof K F H p o) (hn : ¬ ow σ S p) (hw : H0 p = none ∨ ow σ0 S0 p) : Stp K F0 H0 σ0 S0 F H σ ⟨S.g, updO S.o p o⟩ := by
  have s := a.st
  refine ⟨a.fx, a.kp, a.nf, fun b h => ?_, ⟨s.ex, s.len, s.sl, s.inj, fun j o' q e1 e2 => ?_, fun b so e => ?_⟩⟩
  · rcases h with h | h
    · exact a.no b (.inl h)
    · by_cases hb : b = p
      · rw [hb]; exact hw.symm
      · have h' : updO S.o p o b ≠ none := h
        rw [updO_ne hb] at h'
        exact a.no b (.inr h')
  · have hq : q ≠ p := fun z => hn (by rw [← z]; exact .inl ⟨j, o', e1, e2⟩)
    show updO S.o p o q = none
    rw [updO_ne hq]
    exact s.sep j o' q e1 e2
  · have e' : updO S.o p o b = some so := e
    by_cases hb : b = p
    · subst hb; rw [updO_same] at e'; cases e'; exact ⟨hF, ho⟩
    · rw [updO_ne hb] at e'; exact s.ob b so e'
theorem setR_ok {i : Nat} {y : TV} {k : DSt → Prop} (a : Stp K F0 H0 σ0 S0 F H σ S) (t : TVr K F H σ S v y) (n : Nw H0 σ0 S0 v y) (h : setR i y S k) : ∃ S', Stp K F0 H0 σ0 S0 F H (σ.set i (some v)) S' ∧ k S' := by
  cases y with
  | val x =>
    cases x with
    | ref b => cases t; exact ⟨_, a.trans (put_rf a.st), h⟩
    | _ => exact (show False from h).elim
  | own o =>
    obtain ⟨p, rfl, h1, h2, h3⟩ := t
    have hop : S.o p = none := by
      cases e : S.o p with
      | none => rfl
      | some so => exact absurd (.inr (by rw [e]; exact fun z => by cases z)) h3
    have b := to_map a h1 h2 h3 (n o p rfl rfl)
    exact ⟨_, b.trans (put_rf b.st), h p hop⟩
  | rf b => cases (show v = .ref b from t); exact ⟨_, a.trans (put_rf a.st), h⟩
  | slt j => exact h.elim

/-! ### an object is changed -/
def mutK (S : DSt) (y : TV) (f : SO → Option SO) (k : DSt → Prop) : Prop := match y with
  | .slt j => match S.g[j]? with
    | some (some (.own o)) => onS (f o) fun o' => k (S.put j (.own o'))
    | some (some (.rf a)) => onS (S.o a) fun o => onS (f o) fun o' => k ⟨S.g, updO S.o a o'⟩
    | _ => False
  | .rf a => onS (S.o a) fun o => onS (f o) fun o' => k ⟨S.g, updO S.o a o'⟩
  | .val (.ref a) => onS (S.o a) fun o => onS (f o) fun o' => k ⟨S.g, updO S.o a o'⟩
  | _ => False
theorem mut_map {o o' : SO} (a : Stp K F0 H0 σ0 S0 F H σ S) (e : S.o p = some o) (hne : ∀ b, b ≠ p → H' b = H b) (ho : HOof K F H' p o') : Stp K F0 H0 σ0 S0 F H' σ ⟨S.g, updO S.o p o'⟩ := by
  have s := a.st
  have hp : ow σ S p := .inr (by rw [e]; exact fun z => by cases z)
  obtain ⟨hF, _⟩ := s.ow_some hp
  refine ⟨a.fx, fun b u h n => ?_, a.nf, fun b h => ?_, ⟨fun b u h => ?_, s.len, fun j x h => ?_, s.inj, fun j o1 q e1 e2 => ?_, fun b so h => ?_⟩⟩
  · have hb : b ≠ p := fun z => by
      subst z
      rcases a.no b hp with z | z
      · exact n z
      · rw [h] at z; cases z
    rw [hne b hb]; exact a.kp b u h n
  · rcases h with h | h
    · exact a.no b (.inl h)
    · by_cases hb : b = p
      · rw [hb]; exact a.no p hp
      · have h' : updO S.o p o' b ≠ none := h
        rw [updO_ne hb] at h'
        exact a.no b (.inr h')
  · rw [hne b (fun z => by rw [z, hF] at h; cases h)]; exact s.ex b u h
  · obtain ⟨v, e1, r⟩ := s.sl j x h
    refine ⟨v, e1, ?_⟩
    cases x with
    | val x => exact r
    | rf b => exact r
    | err b c d er => exact r
    | own o1 =>
      obtain ⟨q, rfl, h1, h2⟩ := r
      have hq : q ≠ p := fun z => by
        have := s.sep j o1 q h e1
        rw [z, e] at this; cases this
      exact ⟨q, rfl, h1, h2.mono (Same.refl F) fun u z => by rw [hne q hq]; exact z⟩
  · have hq : q ≠ p := fun z => by
      have := s.sep j o1 q e1 e2
      rw [z, e] at this; cases this
    show updO S.o p o' q = none
    rw [updO_ne hq]; exact s.sep j o1 q e1 e2
  · have h' : updO S.o p o' b = some so := h
    by_cases hb : b = p
    · subst hb; rw [updO_same] at h'; cases h'; exact ⟨hF, ho⟩
    · rw [updO_ne hb] at h'
      obtain ⟨h1, h2⟩ := s.ob b so h'
      exact ⟨h1, h2.mono (Same.refl F) fun u z => by rw [hne b hb]; exact z⟩
theorem mut_slot {o o' : SO} {j : Nat} (a : Stp K F0 H0 σ0 S0 F H σ S) (e : S.g[j]? = some (some (.own o))) (e2 : σ[j]? = some (some (.ref p))) (hne : ∀ b, b ≠ p → H' b = H b) (ho : HOof K F H' p o') : Stp K F0 H0 σ0 S0 F H' σ (S.put j (.own o')) := by
  have s := a.st
  have hp : ow σ S p := .inl ⟨j, o, e, e2⟩
  obtain ⟨hF, _⟩ := s.ow_some hp
  have back : ∀ (l : Nat) o1, (S.put j (.own o')).g[l]? = some (some (.own o1)) → ∃ o2, S.g[l]? = some (some (.own o2)) := fun l o1 h => by
    rcases put_get h with ⟨rfl, _, _⟩ | ⟨_, z⟩
    · exact ⟨o, e⟩
    · exact ⟨o1, z⟩
  refine ⟨a.fx, fun b u h n => ?_, a.nf, fun b h => ?_, ⟨fun b u h => ?_, ?_, fun l x h => ?_, fun l m o1 o2 q e1 e3 e4 e5 => ?_, fun l o1 q e1 e3 => ?_, fun b so h => ?_⟩⟩
  · have hb : b ≠ p := fun z => by
      subst z
      rcases a.no b hp with z | z
      · exact n z
      · rw [h] at z; cases z
    rw [hne b hb]; exact a.kp b u h n
  · rcases h with ⟨l, o1, h1, h2⟩ | h
    · obtain ⟨o2, z⟩ := back l o1 h1
      exact a.no b (.inl ⟨l, o2, z, h2⟩)
    · exact a.no b (.inr h)
  · rw [hne b (fun z => by rw [z, hF] at h; cases h)]; exact s.ex b u h
  · show (S.g.set j _).length = _
    rw [List.length_set]; exact s.len
  · rcases put_get h with ⟨rfl, rfl, _⟩ | ⟨hlj, z⟩
    · exact ⟨.ref p, e2, p, rfl, hF, ho⟩
    · obtain ⟨v, e1, r⟩ := s.sl l x z
      refine ⟨v, e1, ?_⟩
      cases x with
      | val x => exact r
      | rf b => exact r
      | err b c d er => exact r
      | own o1 =>
        obtain ⟨q, rfl, h1, h2⟩ := r
        have hq : q ≠ p := fun w => hlj (s.inj l j o1 o q z e e1 (by rw [e2, w]))
        exact ⟨q, rfl, h1, h2.mono (Same.refl F) fun u z => by rw [hne q hq]; exact z⟩
  · obtain ⟨o3, z1⟩ := back l o1 e1
    obtain ⟨o4, z2⟩ := back m o2 e3
    exact s.inj l m o3 o4 q z1 z2 e4 e5
  · obtain ⟨o3, z1⟩ := back l o1 e1
    exact s.sep l o3 q z1 e3
  · obtain ⟨h1, h2⟩ := s.ob b so h
    have hb : b ≠ p := fun w => by
      have := s.sep j o p e e2
      rw [← w] at this
      have h' : S.o b = some so := h
      rw [this] at h'; cases h'
    exact ⟨h1, h2.mono (Same.refl F) fun u z => by rw [hne b hb]; exact z⟩
theorem mut_ok {y : TV} {f : SO → Option SO} {k : DSt → Prop} (a : Stp K F0 H0 σ0 S0 F H σ S) (t : TVr K F H σ S v y) (h : mutK S y f k) :
    ∃ p o o', v = .ref p ∧ HOof K F H p o ∧ f o = some o' ∧ ∀ H', (∀ b, b ≠ p → H' b = H b) → HOof K F H' p o' → ∃ S', Stp K F0 H0 σ0 S0 F H' σ S' ∧ k S' := by
  have viaO : ∀ b, (onS (S.o b) fun o => onS (f o) fun o' => k ⟨S.g, updO S.o b o'⟩) → ∃ p o o', V.ref b = .ref p ∧ HOof K F H p o ∧ f o = some o' ∧ ∀ H', (∀ b, b ≠ p → H' b = H b) → HOof K F H' p o' → ∃ S', Stp K F0 H0 σ0 S0 F H' σ S' ∧ k S' := fun b h => by
    obtain ⟨o, e1, h⟩ := onS_ok h
    obtain ⟨o', e2, h⟩ := onS_ok h
    exact ⟨b, o, o', rfl, (a.st.ob b o e1).2, e2, fun H' hne ho => ⟨_, mut_map a e1 hne ho, h⟩⟩
  cases y with
  | rf b => cases (show v = .ref b from t); exact viaO b h
  | val x =>
    cases x with
    | ref b => cases t; exact viaO b h
    | _ => exact (show False from h).elim
  | own o => exact (show False from h).elim
  | slt j =>
    have e2 : σ[j]? = some (some v) := t
    have h' : (match S.g[j]? with
      | some (some (.own o)) => onS (f o) fun o' => k (S.put j (.own o'))
      | some (some (.rf a)) => onS (S.o a) fun o => onS (f o) fun o' => k ⟨S.g, updO S.o a o'⟩
      | _ => False) := h
    split at h'
    · rename_i o q
      obtain ⟨o', e3, h'⟩ := onS_ok h'
      obtain ⟨w, e4, p, rfl, h1, h2⟩ := a.st.sl j _ q
      rw [e2] at e4; cases e4
      exact ⟨p, o, o', rfl, h2, e3, fun H' hne ho => ⟨_, mut_slot a q e2 hne ho, h'⟩⟩
    · rename_i b q
      obtain ⟨w, e4, r⟩ := a.st.sl j _ q
      rw [e2] at e4; cases e4
      cases (show v = .ref b from r)
      exact viaO b h'
    · exact h'.elim

/-! ### statements -/
def dNext : DS := fun S D => D.nx S
def dSeq (d u : DS) : DS := fun S D => d S { D with nx := fun S1 => u S1 D }
def dWipe (ks : List Nat) (d : DS) : DS := fun S D => d S { D with nx := fun S1 => D.nx (S1.wipe ks) }
def dDrop (d : DE) : DS := fun S D => d S (fun _ S1 => D.nx S1) D.ex
def dRet (d : DE) : DS := fun S D => d S D.rt D.ex
def dRetN : DS := fun S D => D.rt (.val .non) S
def dIf (c : DT) (d u : DS) : DS := fun S D => c S (fun b S1 => if b = true then d S1 D else u S1 D) D.ex
def dBrk : DS := fun S D => D.bk S
def dCnt : DS := fun S D => D.ct S
def dNever : DS := fun _ _ => False
def dSet (i : Nat) (d : DE) : DS := fun S D => d S (fun y S1 => setK i y S1 D.nx) D.ex
def dSetR (i : Nat) (d : DE) : DS := fun S D => d S (fun y S1 => setR i y S1 D.nx) D.ex
def dSetX (i : Nat) (d : DX) : DS := fun S D => d S (fun x S1 => D.nx (S1.put i (.val x))) D.ex
theorem LS.next : LS K W tNext dNext := fun F H σ S D Dd s hd k => k.nx F H σ S (Stp.refl s) hd
theorem LS.seq {t u : TS} {d d' : DS} (h : LS K W t d) (h' : LS K W u d') : LS K W (tSeq t u) (dSeq d d') := fun F H σ S D Dd s hd k =>
  h F H σ S _ _ s hd ⟨fun F1 H1 σ1 S1 a q => h' F1 H1 σ1 S1 D Dd a.st q (k.step a), k.rt, k.bk, k.ct, k.ex⟩
theorem LS.wipe (ks : List Nat) {t : TS} {d : DS} (h : LS K W t d) : LS K W t (dWipe ks d) := fun F H σ S D Dd s hd k =>
  h F H σ S _ _ s hd ⟨fun F1 H1 σ1 S1 a q => k.nx F1 H1 σ1 _ (a.trans (Stp.wipe ks a.st)) q, k.rt, k.bk, k.ct, k.ex⟩
theorem LS.drop {t : TE} {d : DE} (h : LE K W t d) : LS K W (tDrop t) (dDrop d) := fun F H σ S D Dd s hd k =>
  h F H σ S _ _ _ s hd (fun v y F1 H1 S1 a r n q => k.nx F1 H1 σ S1 a q) k.ex
theorem LS.ret {t : TE} {d : DE} (h : LE K W t d) : LS K W (tRet t) (dRet d) := fun F H σ S D Dd s hd k =>
  h F H σ S _ _ _ s hd (fun v y F1 H1 S1 a r n q => k.rt v y F1 H1 σ S1 a r n q) k.ex
theorem LS.retN : LS K W tRetN dRetN := fun F H σ S D Dd s hd k => k.rt .non (.val .non) F H σ S (Stp.refl s) Rp.non Nw.val hd
theorem LS.ite {c : TT} {t u : TS} {dc : DT} {d d' : DS} (hc : LT K W c dc) (h : LS K W t d) (h' : LS K W u d') : LS K W (tIfS c t u) (dIf dc d d') := fun F H σ S D Dd s hd k =>
  hc F H σ S _ _ _ s hd (fun b F1 H1 S1 a q => by
    cases b with
    | true => exact h F1 H1 σ S1 D Dd a.st q (k.step a)
    | false => exact h' F1 H1 σ S1 D Dd a.st q (k.step a)) k.ex
theorem LS.brk : LS K W tBreak dBrk := fun F H σ S D Dd s hd k => k.bk F H σ S (Stp.refl s) hd
theorem LS.cnt : LS K W tCont dCnt := fun F H σ S D Dd s hd k => k.ct F H σ S (Stp.refl s) hd
theorem LS.never : LS K W tNever dNever := fun F H σ S D Dd s hd k => hd
theorem LS.set {i : Nat} {t : TE} {d : DE} (h : LE K W t d) : LS K W (tAsg t (gName i)) (dSet i d) := fun F H σ S D Dd s hd k =>
  h F H σ S _ _ _ s hd (fun v y F1 H1 S1 a r n q => by
    obtain ⟨S2, b, q⟩ := setK_ok a r n q
    exact k.nx F1 H1 _ S2 b q) k.ex
theorem LS.setR {i : Nat} {t : TE} {d : DE} (h : LE K W t d) : LS K W (tAsg t (gName i)) (dSetR i d) := fun F H σ S D Dd s hd k =>
  h F H σ S _ _ _ s hd (fun v y F1 H1 S1 a r n q => by
    obtain ⟨S2, b, q⟩ := setR_ok a r n q
    exact k.nx F1 H1 _ S2 b q) k.ex
theorem LS.setX {i : Nat} {t : TE} {d : DX} (h : LX K W t d) : LS K W (tAsg t (gName i)) (dSetX i d) := fun F H σ S D Dd s hd k =>
  h F H σ S _ _ _ s hd (fun v y F1 H1 S1 a r q => k.nx F1 H1 _ _ (a.trans (Stp.put a.st r)) q) k.ex
/-- x op= e, x a plain value -/
def dAug (i : Nat) (f : DV → DV → Option DV) (d : DE) : DS := fun S D => match S.g[i]? with
  | some (some (.val x)) => d S (fun y S1 => onS (tree S1 y) fun y => onS (f x y) fun z => D.nx (S1.put i (.val z))) D.ex
  | _ => False
def GV (K : PySem.W.Frag) (r : R2) (f : DV → DV → Option DV) : Prop := ∀ F H v w x y z Q, Same F H → RpB K F H v x → RpB K F H w y → f x y = some z → (∀ v, Rp K F v z → Q v H) → r v w H Q
theorem LS.aug {i : Nat} {te : TE} {d : DE} {ti : TIp} {f : DV → DV → Option DV} (g : GV K ti f) (h : LE K W te d) : LS K W (tAug i te ti) (dAug i f d) := fun F H σ S D Dd s hd k => by
  have h' : (match S.g[i]? with
    | some (some (.val x)) => d S (fun y S1 => onS (tree S1 y) fun y => onS (f x y) fun z => Dd.nx (S1.put i (.val z))) Dd.ex
    | _ => False) := hd
  split at h'
  · rename_i x e
    obtain ⟨v, e1, r⟩ := s.sl i _ e
    refine ⟨v, e1, h F H σ S _ _ _ s h' (fun w y F1 H1 S1 a r1 n q => ?_) k.ex⟩
    obtain ⟨y', e2, q⟩ := onS_ok q
    obtain ⟨z, e3, q⟩ := onS_ok q
    exact g F1 H1 v w x y' z _ a.st.ex (.of (Rp.mono a.fx r)) (tree_ok a.st r1 e2) e3 fun u ru => k.nx F1 H1 _ _ (a.trans (Stp.put a.st ru)) q
  · exact h'.elim

/-! ### targets -/
abbrev DG := DV → DSt → (DSt → Prop) → Prop
abbrev DGs := List DV → DSt → (DSt → Prop) → Prop
def LG (K : PySem.W.Frag) (g : TG) (d : DG) : Prop := ∀ F H σ S v x (Q : L2.St → Hp → Prop) Qd, Stt K F H σ S → Rp K F v x → d x S Qd → (∀ F' H' σ' S', Stp K F H σ S F' H' σ' S' → Qd S' → Q σ' H') → g v σ H Q
def LGs (K : PySem.W.Frag) (g : TGs) (d : DGs) : Prop := ∀ F H σ S vs xs (Q : L2.St → Hp → Prop) Qd, Stt K F H σ S → Rps K F vs xs → d xs S Qd → (∀ F' H' σ' S', Stp K F H σ S F' H' σ' S' → Qd S' → Q σ' H') → g vs σ H Q
def gN (i : Nat) : DG := fun x S k => k (S.put i (.val x))
def gN0 : DGs := fun xs S k => xs = [] ∧ k S
def gNs (d : DG) (u : DGs) : DGs := fun xs S k => match xs with
  | x :: r => d x S fun S1 => u r S1 k
  | [] => False
def gT (n : Nat) (u : DGs) : DG := fun x S k => match x with
  | .tup xs => xs.length = n ∧ u xs S k
  | _ => False
theorem LG.name {i : Nat} : LG K (gName i) (gN i) := fun F H σ S v x Q Qd s r hd k => k F H _ _ (Stp.put s r) hd
theorem LGs.nil : LGs K gNil gN0 := fun F H σ S vs xs Q Qd s r hd k => by
  obtain ⟨rfl, hd⟩ := hd
  cases r
  exact ⟨rfl, k F H σ S (Stp.refl s) hd⟩
theorem LGs.cons {g : TG} {gs : TGs} {d : DG} {u : DGs} (h : LG K g d) (h' : LGs K gs u) : LGs K (gCons g gs) (gNs d u) := fun F H σ S vs xs Q Qd s r hd k => by
  cases r with
  | nil => exact hd.elim
  | cons r1 r2 =>
    refine ⟨_, _, rfl, h F H σ S _ _ _ _ s r1 hd fun F1 H1 σ1 S1 a q => ?_⟩
    exact h' F1 H1 σ1 S1 _ _ _ _ a.st (r2.mono a.fx) q fun F2 H2 σ2 S2 b q => k F2 H2 σ2 S2 (a.trans b) q
theorem LG.tup {n : Nat} {gs : TGs} {u : DGs} (h : LGs K gs u) : LG K (gTup K n gs) (gT n u) := fun F H σ S v x Q Qd s r hd k => by
  cases x with
  | tup xs =>
    obtain ⟨hl, hd⟩ := hd
    cases r with
    | tup r1 r2 => exact ⟨_, _, rfl, Same.seqT s.ex r1, by rw [r2.len]; exact hl, h F H σ S _ _ _ _ s r2 hd k⟩
  | _ => exact (show False from hd).elim
/-- a, b = a tuple -/
def dUnp (d : DX) (g : DG) : DS := fun S D => d S (fun x S1 => g x S1 D.nx) D.ex
theorem LS.unp {t : TE} {d : DX} {g : TG} {dg : DG} (h : LX K W t d) (hg : LG K g dg) : LS K W (tAsg t g) (dUnp d dg) := fun F H σ S D Dd s hd k =>
  h F H σ S _ _ _ s hd (fun v x F1 H1 S1 a r q => hg F1 H1 σ S1 v x _ _ a.st r q fun F2 H2 σ2 S2 b q => k.nx F2 H2 σ2 S2 (a.trans b) q) k.ex

/-! ### what a loop walks -/
def Wk (K : PySem.W.Frag) (F0 : Hp) (J : It) (xs : List DV) : Prop := ∀ F H σ S, Stt K F H σ S → Same F0 F → ∀ i : Nat, (i = xs.length → J.stop i H) ∧
  ∀ x, xs[i]? = some x → J.go i H ∧ ∀ v H3, J.yld i H v H3 → ∃ F3, Stp K F H σ S F3 H3 σ S ∧ Rp K F3 v x
abbrev DI := DSt → (List DV → DSt → Prop) → (DErr → DSt → Prop) → Prop
def LI (K : PySem.W.Frag) (W : WX) (wi : TI) (d : DI) : Prop := ∀ F H σ S (R : It → Hp → Prop) Qd Ed, Stt K F H σ S → d S Qd Ed →
  (∀ J xs F' H' S', Stp K F H σ S F' H' σ S' → Wk K F' J xs → Qd xs S' → R J H') → ExL K W F H σ S Ed → wi σ H R
/-- the turns of a loop, one item after another -/
def forP (g : DG) (b : DS) (ks : List Nat) : List DV → DSt → DEnds → Prop
  | [], S, D => D.nx S
  | x :: xs, S, D => g x S fun S1 => b S1 { nx := fun S2 => forP g b ks xs (S2.wipe ks) D, rt := D.rt, bk := D.nx, ct := fun S2 => forP g b ks xs (S2.wipe ks) D, ex := D.ex }
def dFor (di : DI) (g : DG) (b : DS) (ks : List Nat) : DS := fun S D => di S (fun xs S1 => forP g b ks xs S1 D) D.ex
theorem LS.for_ {wi : TI} {di : DI} {g : TG} {dg : DG} {tb : TS} {db : DS} {ks : List Nat} (hi : LI K W wi di) (hg : LG K g dg) (hb : LS K W tb db) : LS K W (tFor wi g tb) (dFor di dg db ks) := fun F H σ S D Dd s hd k => by
  refine hi F H σ S _ _ _ s hd (fun J xs F1 H1 S1 a w q => ?_) k.ex
  refine ⟨fun i m σ2 H2 => i ≤ xs.length ∧ m = xs.length - i ∧ ∃ F2 S2, Stp K F1 H1 σ S1 F2 H2 σ2 S2 ∧ forP dg db ks (xs.drop i) S2 Dd, ⟨xs.length, Nat.zero_le _, by simp, F1, S1, Stp.refl a.st, by simpa using q⟩, ?_⟩
  rintro i m σ2 H2 ⟨hi, rfl, F2, S2, b, q⟩
  obtain ⟨w1, w2⟩ := w F2 H2 σ2 S2 b.st b.fx i
  by_cases hlt : i < xs.length
  · obtain ⟨w3, w4⟩ := w2 xs[i] (List.getElem?_eq_getElem hlt)
    refine .inr ⟨w3, fun σ3 H3 => ∃ F3 S3, Stp K F1 H1 σ S1 F3 H3 σ3 S3 ∧ forP dg db ks (xs.drop (i + 1)) S3 Dd, fun σ3 H3 ⟨F3, S3, c, q3⟩ => ⟨_, by omega, by omega, rfl, F3, S3, c, q3⟩, fun v H3 hy => ?_⟩
    obtain ⟨F3, c, r⟩ := w4 v H3 hy
    rw [List.drop_eq_getElem_cons hlt] at q
    have bc := b.trans c
    refine hg F3 H3 σ2 S2 v _ _ _ c.st r q fun F4 H4 σ4 S4 e q4 => ?_
    have be := bc.trans e
    have ka := k.step (a.trans be)
    refine hb F4 H4 σ4 S4 _ _ e.st q4 ⟨fun F5 H5 σ5 S5 f q5 => ⟨F5, _, (be.trans f).trans (Stp.wipe ks f.st), q5⟩, ka.rt, fun F5 H5 σ5 S5 f q5 => ka.nx F5 H5 σ5 S5 f q5, fun F5 H5 σ5 S5 f q5 => ⟨F5, _, (be.trans f).trans (Stp.wipe ks f.st), q5⟩, ka.ex⟩
  · have e : i = xs.length := by omega
    refine .inl ⟨w1 e, ?_⟩
    rw [List.drop_eq_nil_of_le (by omega)] at q
    exact k.nx F2 H2 σ2 S2 (a.trans b) q
/-- while, at most so many turns -/
def whileP (c : DT) (b : DS) (ks : List Nat) : Nat → DSt → DEnds → Prop
  | 0, _, _ => False
  | n + 1, S, D => c S (fun t S1 => if t = true then b S1 { nx := fun S2 => whileP c b ks n (S2.wipe ks) D, rt := D.rt, bk := D.nx, ct := fun S2 => whileP c b ks n (S2.wipe ks) D, ex := D.ex } else D.nx S1) D.ex
def dWhile (c : DT) (b : DS) (ks : List Nat) : DS := fun S D => ∃ n, whileP c b ks n S D
theorem LS.while_ {tc : TT} {dc : DT} {tb : TS} {db : DS} {ks : List Nat} (hc : LT K W tc dc) (hb : LS K W tb db) : LS K W (tWhile tc tb) (dWhile dc db ks) := fun F H σ S D Dd s hd k => by
  obtain ⟨n0, hd⟩ := hd
  refine ⟨fun n σ2 H2 => ∃ F2 S2, Stp K F H σ S F2 H2 σ2 S2 ∧ whileP dc db ks n S2 Dd, ⟨n0, F, S, Stp.refl s, hd⟩, ?_⟩
  rintro n σ2 H2 ⟨F2, S2, a, q⟩
  cases n with
  | zero => exact q.elim
  | succ n =>
    refine hc F2 H2 σ2 S2 _ _ _ a.st q (fun t F3 H3 S3 b q => ?_) (k.step a).ex
    have ab := a.trans b
    cases t with
    | false => exact (k.step ab).nx F3 H3 σ2 S3 (Stp.refl b.st) q
    | true =>
      refine ⟨fun σ4 H4 => ∃ F4 S4, Stp K F H σ S F4 H4 σ4 S4 ∧ whileP dc db ks n S4 Dd, fun σ4 H4 ⟨F4, S4, c, q4⟩ => ⟨n, Nat.lt_succ_self n, F4, S4, c, q4⟩, ?_⟩
      have ka := k.step ab
      exact hb F3 H3 σ2 S3 _ _ b.st q ⟨fun F5 H5 σ5 S5 f q5 => ⟨F5, _, (ab.trans f).trans (Stp.wipe ks f.st), q5⟩, ka.rt, fun F5 H5 σ5 S5 f q5 => ka.nx F5 H5 σ5 S5 f q5, fun F5 H5 σ5 S5 f q5 => ⟨F5, _, (ab.trans f).trans (Stp.wipe ks f.st), q5⟩, ka.ex⟩
/-! ### iterables -/
def seqL : DV → Option (List DV)
  | .lst xs => some xs
  | .seq xs => some xs
  | _ => none
theorem seq_of {x : DV} {xs : List DV} (r : Rp K F v x) (e : seqL x = some xs) : ∃ a vs, v = .ref a ∧ SqL K F a vs ∧ Rps K F vs xs := by
  cases x with
  | lst ys => cases e; cases r with | lst h1 h2 => exact ⟨_, _, rfl, .inl (.inl h1), h2⟩
  | seq ys => cases e; cases r with | seq h1 h2 => exact ⟨_, _, rfl, h1, h2⟩
  | _ => cases e
def iL (d : DX) : DI := fun S Q Ed => d S (fun x S1 => onS (seqL x) fun xs => Q xs S1) Ed
/-- at every later state the list reads the same -/
theorem LI.list {K : PySem.W.Frag} {W : WX} {t : TE} {d : DX} (h : LX K W t d) : LI K W (iList K t) (iL d) := fun F H σ S R Qd Ed s hd k e =>
  h F H σ S _ _ _ s hd (fun v x F1 H1 S1 a r q => by
    obtain ⟨xs, e1, q⟩ := onS_ok q
    obtain ⟨b, vs, rfl, h1, h2⟩ := seq_of r e1
    refine ⟨b, rfl, ⟨vs, a.st.ex.seq h1⟩, k _ xs F1 H1 S1 a (fun F2 H2 σ2 S2 s2 f2 i => ?_) q⟩
    have hb : SqL K H2 b vs := s2.ex.seq (f2.seq h1)
    refine ⟨fun hi => ⟨vs, hb, by rw [h2.len, hi]; exact Nat.le_refl _⟩, fun x hx => ?_⟩
    obtain ⟨u, hu, ru⟩ := h2.get hx
    refine ⟨⟨vs, u, hb, hu⟩, fun v H3 hy => ?_⟩
    obtain ⟨e3, hy⟩ := hy
    subst e3
    have := hy vs hb
    rw [hu] at this; cases this
    exact ⟨F2, Stp.refl s2, ru.mono f2⟩) e
end
end L3

/-! L3d: defs and their calls. -/
namespace L3
open PySem PySem.Spec PyProof.Rows L2
/-- a pure def's promise over data -/
abbrev PSp := List DV → (TV → Prop) → (DErr → Prop) → Prop
def liftP (K : PySem.W.Frag) (ps : PSp) : Sp := fun vs H Q E => ∃ (F : Hp) (xs : List DV) (Qd : TV → Prop) (Ed : DErr → Prop), Same F H ∧ Rps K F vs xs ∧ ps xs Qd Ed ∧
  (∀ y, Qd y → Res K F H y Q) ∧ ∀ err, Ed err → ∀ cls dd F' H', Grw F H F' H' → ErrR K F' cls dd err → (∀ d, dd = some d → H d = none) → E cls dd H'
/-- the slots at the entry -/
def gSt (N : List Str) (xs : List DV) : DSt := ⟨xs.map (fun x => some (SV.val x)) ++ List.replicate (N.length - xs.length) none, noO⟩
def retK (S : DSt) (y : TV) (Q : TV → Prop) : Prop := match y with
  | .val x => Q (.val x)
  | .own o => Q (.own o)
  | .slt i => match S.g[i]? with
    | some (some (.own o)) => Q (.own o)
    | some (some (.val x)) => Q (.val x)
    | _ => False
  | .rf a => onS (S.o a) fun o => Q (.own o)
/-- what a def's body is to reach -/
def ends (Q : TV → Prop) (E : DErr → Prop) : DEnds := { nx := fun _ => Q (.val .non), rt := fun y S => retK S y Q, bk := fun _ => False, ct := fun _ => False, ex := fun e _ => E e }
section
variable {K : PySem.W.Frag} {F F' H H' F0 H0 : Hp} {σ σ' σ1 σ2 σ0 : L2.St} {S S' S1 S2 S0 : DSt} {F1 F2 H1 H2 : Hp} {p : Addr} {v : V} {W : WX}
theorem gSt_at {N : List Str} {xs : List DV} {i : Nat} {y : SV} (h : (gSt N xs).g[i]? = some (some y)) : ∃ x, xs[i]? = some x ∧ y = .val x := by
  have h' : (xs.map (fun x => some (SV.val x)) ++ List.replicate (N.length - xs.length) none)[i]? = some (some y) := h
  by_cases hi : i < xs.length
  · rw [List.getElem?_append_left (by rw [List.length_map]; exact hi), List.getElem?_map, List.getElem?_eq_getElem hi] at h'
    cases h'
    exact ⟨xs[i], List.getElem?_eq_getElem hi, rfl⟩
  · rw [List.getElem?_append_right (by rw [List.length_map]; omega), List.getElem?_replicate] at h'
    split at h' <;> cases h'
theorem gSt_ok {N : List Str} {vs : List V} {xs : List DV} (s : Same F H) (r : Rps K F vs xs) : Stt K F H (start N vs) (gSt N xs) := by
  have no : ∀ (i : Nat) o, (gSt N xs).g[i]? ≠ some (some (.own o)) := fun i o e => by
    obtain ⟨x, _, z⟩ := gSt_at e; cases z
  refine ⟨s, ?_, fun i y e => ?_, fun i j o o' p e1 => absurd e1 (no i o), fun i o p e1 => absurd e1 (no i o), fun a so e => by cases (show (none : Option SO) = some so from e)⟩
  · show (xs.map _ ++ List.replicate _ _).length = (vs.map some ++ List.replicate _ _).length
    rw [List.length_append, List.length_append, List.length_map, List.length_map, List.length_replicate, List.length_replicate, r.len]
  · obtain ⟨x, e1, rfl⟩ := gSt_at e
    obtain ⟨v, e2, r2⟩ := r.get e1
    refine ⟨v, ?_, r2⟩
    show (vs.map some ++ _)[i]? = _
    rw [List.getElem?_append_left (by rw [List.length_map]; exact (List.getElem?_eq_some_iff.mp e2).1), List.getElem?_map, e2]
    rfl
theorem gSt_ow {N : List Str} {xs : List DV} {σ : L2.St} {p : Addr} : ¬ ow σ (gSt N xs) p := fun h => by
  rcases h with ⟨i, o, e1, _⟩ | h
  · obtain ⟨x, _, z⟩ := gSt_at e1; cases z
  · exact h rfl
theorem Stp.grow0 (a : Stp K F H σ S F' H' σ' S') (h : ∀ p, ¬ ow σ S p) : Grw F H F' H' := ⟨a.fx, fun b o e => a.kp b o e (h b), a.st.ex, fun b e q => a.nf b e (h b) q⟩
theorem ret_ok {Q : VK} {Qd : TV → Prop} {y : TV} (a : Stp K F H σ S F' H' σ' S') (h0 : ∀ p, ¬ ow σ S p) (t : TVr K F' H' σ' S' v y) (n : Nw H σ S v y) (h : retK S' y Qd) (k : ∀ z, Qd z → Res K F H z Q) : Q v H' := by
  have g := a.grow0 h0
  cases y with
  | val x => exact k _ h v F' H' g t
  | own o =>
    obtain ⟨p, rfl, h1, h2, h3⟩ := t
    exact k _ h p F' H' g ((n o p rfl rfl).resolve_right (h0 p)) h1 h2
  | rf b =>
    cases (show v = .ref b from t)
    obtain ⟨o, e, h⟩ := onS_ok h
    obtain ⟨h1, h2⟩ := a.st.ob b o e
    exact k _ h b F' H' g ((a.no b (.inr (by rw [e]; exact fun z => by cases z))).resolve_left (h0 b)) h1 h2
  | slt i =>
    have e2 : σ'[i]? = some (some v) := t
    have h' : (match S'.g[i]? with
      | some (some (.own o)) => Qd (.own o)
      | some (some (.val x)) => Qd (.val x)
      | _ => False) := h
    split at h'
    · rename_i o e
      obtain ⟨w, e3, p, rfl, h1, h2⟩ := a.st.sl i _ e
      rw [e2] at e3; cases e3
      exact k _ h' p F' H' g ((a.no p (.inl ⟨i, o, e, e2⟩)).resolve_left (h0 p)) h1 h2
    · rename_i x e
      obtain ⟨w, e3, r⟩ := a.st.sl i _ e
      rw [e2] at e3; cases e3
      exact k _ h' v F' H' g r
    · exact h'.elim
end
/-- what a derivation leans on: nothing handled, where an exception goes, loops, room -/
structure Ctx (k : Nat) (X : Cx) (W : WX) : Prop where
  calm : X.calm = true
  tk : Takes X W
  po : PassesOwn (model X.prog X.w) X.A X.env X.xe
  rm : Room k X.A
section
variable {P : Program} {w : World} {K : PySem.W.Frag} {mg : Str → Option Value} {base : Heap} {x qual : Str} {params : Arguments} {body : List Stmt} {scope : Scope} {f : Addr} {fd : FuncData}
/-- THE RULE for a pure def -/
theorem fn_pure {N ps : List Str} {k : Nat} {sp : PSp} {d : DS} (Fd : FunD K x qual params body scope [] [] f fd) (Sc : FnScope N ps scope) (len : ∀ xs Q E, sp xs Q E → xs.length = ps.length)
    (hb : ∀ (cdv : Value) (A : Around) (outer : List Env) (s : Shared) (H : Hp) (E : XK), Room k (A.deeper (envOfC qual scope s.heap.objs.size f cdv)) →
      Ctx k (cxOf (L2.CX P w) P w K mg base N qual scope f cdv A outer s H E) (fun cls dd _ H' => E cls dd H') →
      ∃ t, SsJ (cxOf (L2.CX P w) P w K mg base N qual scope f cdv A outer s H E) (fun cls dd _ H' => E cls dd H') body t d)
    (hd : ∀ xs Q E, sp xs Q E → d (gSt N xs) (ends Q E)) : FnOk P w K mg base (L2.CX P w) (k + 1) f fd ps (liftP K sp) := by
  refine Fd.ok Sc (fun vs H Q E h => ?_) (fun cdv A outer s H vs Q E hr h => ?_)
  · obtain ⟨F, xs, Qd, Ed, _, r, h, _⟩ := h
    rw [r.len]; exact len _ _ _ h
  · obtain ⟨F, xs, Qd, Ed, sm, r, h, kq, ke⟩ := h
    obtain ⟨t, j⟩ := hb cdv A outer s H E hr ⟨rfl, takes_of rfl rfl rfl rfl, passes_of rfl, hr⟩
    refine ⟨t, j.p, j.l F H _ (gSt N xs) _ _ (gSt_ok sm r) (hd xs _ _ h) ⟨fun F' H' σ' S' a q => ?_, fun v y F' H' σ' S' a tv n q => ?_, fun F' H' σ' S' a q => q.elim, fun F' H' σ' S' a q => q.elim, fun cls dd err F' H' σ' S' a er nd q => ?_⟩⟩
    · exact kq _ q .non F' H' (a.grow0 fun p => gSt_ow) .non
    · exact ret_ok a (fun p => gSt_ow) tv n q kq
    · exact ke _ q cls dd F' H' (a.grow0 fun p => gSt_ow) er fun d e => (nd d e).resolve_right gSt_ow
end

/-! ### the call -/
def flat : DV → Bool
  | .non => true
  | .bl _ => true
  | .int _ => true
  | .str _ => true
  | .ty _ => true
  | .ref _ => true
  | _ => false
def flatT : TV → Bool
  | .val x => flat x
  | .own (.lst xs) => xs.all flat
  | .own (.dic xs) => xs.all fun p => flat p.2
  | _ => false
def flatE (e : DErr) : Bool := match e.fd with
  | none => true
  | some x => flat x
def isRef : DV → Bool
  | .ref _ => true
  | _ => false
def allVal : List TV → Bool
  | [] => true
  | .val x :: r => !isRef x && allVal r
  | _ :: _ => false
/-- f(..), f pure -/
def dCall (ps : PSp) (da : DB) : DE := fun S Q Ed => da S (fun ys S1 => onS (treeAll S1 ys) fun xs =>
  ps xs (fun z => (allVal ys = true ∨ flatT z = true) ∧ Q z S1) (fun e => (allVal ys = true ∨ flatE e = true) ∧ Ed e S1)) Ed
section
variable {K : PySem.W.Frag} {F F' H H' F0 H0 : Hp} {σ σ' σ1 σ2 σ0 : L2.St} {S S' S1 S2 S0 : DSt} {F1 F2 H1 H2 : Hp} {p : Addr} {v : V} {W : WX}
theorem flat_any {x : DV} (h : flat x = true) (r : Rp K F v x) : Rp K F' v x := by
  cases r with
  | non => exact .non
  | bl b => exact .bl b
  | int i => exact .int i
  | str x => exact .str x
  | ty n => exact .ty n
  | ref a => exact .ref a
  | _ => cases h
theorem flats_any : ∀ {vs : List V} {xs : List DV}, xs.all flat = true → Rps K F vs xs → Rps K F' vs xs
  | _, _, _, .nil => .nil
  | _, _, h, .cons a r => by
    rw [List.all_cons, Bool.and_eq_true] at h
    exact .cons (flat_any h.1 a) (flats_any h.2 r)
theorem flatk_any : ∀ {vs : List (Key × V)} {xs : List (Key × DV)}, (xs.all fun p => flat p.2) = true → Rks K F vs xs → Rks K F' vs xs
  | _, _, _, .nil => .nil
  | _, _, h, .cons a r => by
    rw [List.all_cons, Bool.and_eq_true] at h
    exact .cons (flat_any h.1 a) (flatk_any h.2 r)
theorem allVal_ok {vs : List V} {ys : List TV} (r : TVs K F H σ S vs ys) : ∀ {xs : List DV}, allVal ys = true → treeAll S ys = some xs → Rps K F vs xs := by
  induction r with
  | nil => intro xs _ e; cases e; exact .nil
  | @cons v y vs ys a r ih =>
    intro xs h e
    cases y with
    | val x =>
      have h' : (!isRef x && allVal ys) = true := h
      rw [Bool.and_eq_true] at h'
      have hx : tree S (.val x) = some x := by
        cases x <;> first | rfl | (cases h'.1)
      have e' : (match tree S (.val x) with
        | some x => match treeAll S ys with
          | some zs => some (x :: zs)
          | none => none
        | none => none) = some xs := e
      rw [hx] at e'
      cases q : treeAll S ys with
      | none => simp only [q] at e'; cases e'
      | some zs =>
        simp only [q] at e'
        cases e'
        exact .cons a (ih h'.2 q)
    | _ => cases h
/-- what stands at these addresses frozen for a while -/
def fzn (F H : Hp) (as : List Addr) : Hp := fun a => match F a with
  | some u => some u
  | none => if a ∈ as then H a else none
theorem fzn_sub {as : List Addr} : Same F (fzn F H as) := fun a u e => by unfold fzn; rw [e]
theorem fzn_in {as : List Addr} (s : Same F H) : Same (fzn F H as) H := fun a u e => by
  unfold fzn at e
  cases q : F a with
  | some w => rw [q] at e; cases e; exact s a _ q
  | none =>
    rw [q] at e
    by_cases h : a ∈ as
    · rw [if_pos h] at e; exact e
    · rw [if_neg h] at e; cases e
theorem fzn_at {as : List Addr} {a : Addr} {u : HO} (s : Same F H) (h : a ∈ as) (e : H a = some u) : fzn F H as a = some u := by
  unfold fzn
  cases q : F a with
  | some w => have := s a w q; rw [e] at this; cases this; rfl
  | none => rw [if_pos h]; exact e
def vAd : List V → List Addr
  | [] => []
  | .ref a :: r => a :: vAd r
  | _ :: r => vAd r
theorem vAd_mem {a : Addr} {vs : List V} (h : V.ref a ∈ vs) : a ∈ vAd vs := by
  induction vs with
  | nil => cases h
  | cons u r ih =>
    rcases List.mem_cons.mp h with e | h2
    · subst e; exact List.mem_cons_self
    · clear h
      cases u with
      | ref b => exact List.mem_cons_of_mem _ (ih h2)
      | _ => exact ih h2
theorem borrow_ok {as : List Addr} (s : Same F H) : ∀ {vs : List V} {xs : List DV}, (∀ a, V.ref a ∈ vs → a ∈ as) → RpBs K F H vs xs → Rps K (fzn F H as) vs xs
  | _, _, _, .nil => .nil
  | _, _, hm, .cons a r => .cons (by
      cases a with
      | of q => exact Rp.mono fzn_sub q
      | lst h1 h2 => exact .lst (fzn_at s (hm _ List.mem_cons_self) h1) (h2.mono fzn_sub)
      | dic h1 h2 => exact .dic (fzn_at s (hm _ List.mem_cons_self) h1) (h2.mono fzn_sub)
      | dit h1 h2 => exact .dit (fzn_at s (hm _ List.mem_cons_self) h1) h2) (borrow_ok s (fun a h => hm a (List.mem_cons_of_mem _ h)) r)
/-- F and what is new in G -/
def plus (F H G : Hp) : Hp := fun a => match H a with
  | none => G a
  | some _ => F a
theorem plus_grw {G : Hp} (s : Same F H) (g : Grw (F1) H G H') : Grw F H (plus F H G) H' := by
  refine ⟨fun a u e => ?_, g.hx, fun a u e => ?_, fun a h q => ?_⟩
  · unfold plus; rw [s a u e]; exact e
  · unfold plus at e
    cases q : H a with
    | none => rw [q] at e; exact g.ex a u e
    | some w => rw [q] at e; rw [g.hx a w q, ← q]; exact s a u e
  · unfold plus at q
    cases z : H a with
    | none => exact absurd z h
    | some w => rw [z] at q; exact q
theorem plus_new {G : Hp} {d : Addr} (h : H d = none) : plus F H G d = G d := by unfold plus; rw [h]
theorem LE.call {ps : PSp} {ta : TA} {da : DB} (ha : LB K W ta da) : LE K W (tCallS (liftP K ps) (WE W) ta) (dCall ps da) := fun F H σ S Q Qd Ed s hd k e =>
  ha F H σ S _ _ Ed s hd (fun vs ys F1 H1 S1 a r1 q => by
    obtain ⟨xs, e1, q⟩ := onS_ok q
    have ea := e.step a
    have sm := a.st.ex
    by_cases hv : allVal ys = true
    · refine ⟨F1, xs, _, _, sm, allVal_ok r1 hv e1, q, fun y hy => ?_, fun err he cls dd F' H' g er nd => ?_⟩
      · exact res_of a.st (.inr (.inr fun _ _ _ _ => trivial)) hy.2 fun v' y' F' H' S' b r' n' q' => k v' y' F' H' S' (a.trans b) r' (n'.back a) q'
      · exact ea cls dd err F' H' σ S1 (Stp.grw a.st g) er (fun d hd => .inl (nd d hd)) he.2
    · refine ⟨fzn F1 H1 (vAd vs), xs, _, _, fzn_in sm, borrow_ok sm (fun a h => vAd_mem h) (treeAll_ok a.st r1 e1), q, fun y hy => ?_, fun err he cls dd F' H' g er nd => ?_⟩
      · obtain ⟨hy, qy⟩ := hy
        have hf := hy.resolve_left hv
        have R := res_of (Q := Q) (z := y) a.st (.inr (.inr fun _ _ _ _ => trivial)) qy fun v' y' F' H' S' b r' n' q' => k v' y' F' H' S' (a.trans b) r' (n'.back a) q'
        cases y with
        | val x => exact fun v F' H' g r => R v _ H' (plus_grw sm g) (flat_any hf r)
        | own o =>
          intro p F' H' g hp hF ho
          refine R p _ H' (plus_grw sm g) hp (by rw [plus_new hp]; exact hF) ?_
          cases o with
          | lst xs => obtain ⟨us, h1, h2⟩ := ho; exact ⟨us, h1, flats_any hf h2⟩
          | dic xs => obtain ⟨us, h1, h2⟩ := ho; exact ⟨us, h1, flatk_any hf h2⟩
          | ins c fs => cases hf
          | dit xs => cases hf
        | rf b => trivial
        | slt i => trivial
      · obtain ⟨he, qe⟩ := he
        have hf := he.resolve_left hv
        refine ea cls dd err _ H' σ S1 (Stp.grw a.st (plus_grw sm g)) ⟨er.1, er.2.1, fun x hx => ?_⟩ (fun d hd => .inl (nd d hd)) qe
        obtain ⟨d, v, h1, h2, h3⟩ := er.2.2 x hx
        refine ⟨d, v, h1, by rw [plus_new (nd d h1)]; exact h2, flat_any ?_ h3⟩
        have hf' : (match err.fd with
          | none => true
          | some x => flat x) = true := hf
        rw [hx] at hf'
        exact hf') e
end
end L3

/-! L3e: operators, subscripts, built-ins. -/
namespace L3
open PySem PySem.Spec PyProof.Rows L2
section
variable {K : PySem.W.Frag} {F F' H H' F0 H0 : Hp} {σ σ' σ1 σ2 σ0 : L2.St} {S S' S1 S2 S0 : DSt} {F1 F2 H1 H2 : Hp} {p : Addr} {v : V} {W : WX}
/-! ### joining, numbers, texts -/
def orF (f g : DV → DV → Option TV) (x y : DV) : Option TV := match f x y with
  | some z => some z
  | none => g x y
theorem G2.or {r r' : R2} {f g : DV → DV → Option TV} (h : G2 K r f) (h' : G2 K r' g) : G2 K (fun x y H Q => r x y H Q ∨ r' x y H Q) (orF f g) := fun F H v w x y z Q s rx ry e R => by
  unfold orF at e
  cases q : f x y with
  | some z' => rw [q] at e; cases e; exact .inl (h F H v w x y _ Q s rx ry q R)
  | none => rw [q] at e; exact .inr (h' F H v w x y z Q s rx ry e R)
/-- two whole numbers, an int under a condition -/
def iiI (C : Int → Int → Prop) [∀ i j, Decidable (C i j)] (g : Int → Int → Int) (x y : DV) : Option TV := match x, y with
  | .int i, .int j => if C i j then some (.val (.int (g i j))) else none
  | _, _ => none
def iiT (g : Int → Int → DV) (x y : DV) : Option TV := match x, y with
  | .int i, .int j => some (.val (g i j))
  | _, _ => none
theorem G2.iiI {C : Int → Int → Prop} [∀ i j, Decidable (C i j)] {g : Int → Int → Int} : G2 K (rI C fun i j => .int (g i j)) (iiI C g) := fun F H v w x y z Q s rx ry e R => by
  cases x <;> first | (cases e; done) | skip
  cases y <;> first | (cases e; done) | skip
  rename_i i j
  have e' : (if C i j then some (TV.val (.int (g i j))) else none) = some z := e
  by_cases c : C i j
  · rw [if_pos c] at e'
    cases e'
    exact ⟨i, j, rx.int, ry.int, c, Res.here R s (.int _)⟩
  · rw [if_neg c] at e'; cases e'
theorem G2.iiN {g : Int → Int → Int} : G2 K (rI0 fun i j => .int (g i j)) (iiT fun i j => .int (g i j)) := fun F H v w x y z Q s rx ry e R => by
  cases x <;> first | (cases e; done) | skip
  cases y <;> first | (cases e; done) | skip
  cases e
  exact ⟨_, _, rx.int, ry.int, Res.here R s (.int _)⟩
theorem G2.iiB {g : Int → Int → Bool} : G2 K (rI0 fun i j => .bl (g i j)) (iiT fun i j => .bl (g i j)) := fun F H v w x y z Q s rx ry e R => by
  cases x <;> first | (cases e; done) | skip
  cases y <;> first | (cases e; done) | skip
  cases e
  exact ⟨_, _, rx.int, ry.int, Res.here R s (.bl _)⟩
instance : ∀ i j, Decidable (CMulW i j) := fun i j => inferInstanceAs (Decidable (_ < _))
instance : ∀ i j, Decidable (CDivW i j) := fun i j => inferInstanceAs (Decidable (_ ∧ _))
instance : ∀ i j, Decidable (CPow i j) := fun i j => inferInstanceAs (Decidable (_ ∧ _ ∧ _))
abbrev rStrAdd : R2 := fun x y H Q => ∃ i j, x = .str i ∧ y = .str j ∧ i.length + j.length ≤ sizeLine ∧ Q (.str (i ++ j)) H
def strAdd (x y : DV) : Option TV := match x, y with
  | .str a, .str b => if a.length + b.length ≤ sizeLine then some (.val (.str (a ++ b))) else none
  | _, _ => none
theorem G2.strAdd : G2 K rStrAdd strAdd := fun F H v w x y z Q s rx ry e R => by
  cases x <;> first | (cases e; done) | skip
  cases y <;> first | (cases e; done) | skip
  rename_i a b
  have e' : (if a.length + b.length ≤ sizeLine then some (TV.val (.str (a ++ b))) else none) = some z := e
  by_cases c : a.length + b.length ≤ sizeLine
  · rw [if_pos c] at e'
    cases e'
    exact ⟨a, b, rx.str, ry.str, c, Res.here R s (.str _)⟩
  · rw [if_neg c] at e'; cases e'
def lstAdd (x y : DV) : Option TV := match x, y with
  | .lst a, .lst b => if a.length + b.length ≤ sizeLine then some (.own (.lst (a ++ b))) else none
  | _, _ => none
theorem G2.lstAdd : G2 K rCat lstAdd := fun F H v w x y z Q s rx ry e R => by
  cases x <;> first | (cases e; done) | skip
  cases y <;> first | (cases e; done) | skip
  rename_i a b
  have e' : (if a.length + b.length ≤ sizeLine then some (TV.own (.lst (a ++ b))) else none) = some z := e
  by_cases c : a.length + b.length ≤ sizeLine
  · rw [if_pos c] at e'
    cases e'
    obtain ⟨p1, vs, rfl, h1, r1⟩ := rx.list s
    obtain ⟨p2, ws, rfl, h2, r2⟩ := ry.list s
    exact ⟨p1, p2, vs, ws, rfl, rfl, h1, h2, by rw [r1.len, r2.len]; exact c, fun p hp => Res.newL R s hp (r1.append r2)⟩
  · rw [if_neg c] at e'; cases e'
/-- + -/
def addF : DV → DV → Option TV := orF (iiT fun i j => .int (i + j)) (orF strAdd lstAdd)
abbrev rAddA : R2 := fun x y H Q => (rI0 fun i j => .int (i + j)) x y H Q ∨ (fun x y H Q => rStrAdd x y H Q ∨ rCat x y H Q) x y H Q
theorem G2.add : G2 K rAddA addF := G2.or G2.iiN (G2.or G2.strAdd G2.lstAdd)
def repF (x y : DV) : Option TV := match x, y with
  | .lst a, .int k => if -(2 ^ 63) ≤ k ∧ k < 2 ^ 63 ∧ a.length * k.toNat ≤ sizeLine then some (.own (.lst (List.replicate k.toNat a).flatten)) else none
  | _, _ => none
theorem Rps.rep {vs : List V} {xs : List DV} (h : Rps K F vs xs) : ∀ k : Nat, Rps K F (List.replicate k vs).flatten (List.replicate k xs).flatten
  | 0 => .nil
  | k + 1 => by
    rw [List.replicate_succ, List.replicate_succ, List.flatten_cons, List.flatten_cons]
    exact h.append (Rps.rep h k)
theorem G2.rep : G2 K rRep repF := fun F H v w x y z Q s rx ry e R => by
  cases x <;> first | (cases e; done) | skip
  cases y <;> first | (cases e; done) | skip
  rename_i a k
  have e' : (if -(2 ^ 63) ≤ k ∧ k < 2 ^ 63 ∧ a.length * k.toNat ≤ sizeLine then some (TV.own (.lst (List.replicate k.toNat a).flatten)) else none) = some z := e
  by_cases c : -(2 ^ 63) ≤ k ∧ k < 2 ^ 63 ∧ a.length * k.toNat ≤ sizeLine
  · rw [if_pos c] at e'
    cases e'
    obtain ⟨p1, vs, rfl, h1, r1⟩ := rx.list s
    exact ⟨p1, k, vs, rfl, ry.int, h1, c.1, c.2.1, by rw [r1.len]; exact c.2.2, fun p hp => Res.newL R s hp (r1.rep _)⟩
  · rw [if_neg c] at e'; cases e'
/-- * -/
def mulF : DV → DV → Option TV := fun x y => match x with
  | .int _ => iiI CMulW (fun i j => i * j) x y
  | _ => repF x y
abbrev rMulA : R2 := fun x y H Q => (rI CMulW fun i j => .int (i * j)) x y H Q ∨ rRep x y H Q
theorem G2.mul : G2 K rMulA mulF := fun F H v w x y z Q s rx ry e R => by
  cases x with
  | int i => exact .inl (G2.iiI F H v w _ y z Q s rx ry e R)
  | _ => exact .inr (G2.rep F H v w _ y z Q s rx ry e R)
abbrev subF : DV → DV → Option TV := iiT fun i j => .int (i - j)
abbrev modF : DV → DV → Option TV := iiI (fun _ j => 0 < j) fun i j => i % j
abbrev divF : DV → DV → Option TV := iiI CDivW fun i j => i / j
abbrev powF : DV → DV → Option TV := iiI CPow fun i j => i ^ j.toNat
abbrev ltF : DV → DV → Option TV := iiT fun i j => .bl (decide (i < j))
abbrev leF : DV → DV → Option TV := iiT fun i j => .bl (decide (i ≤ j))
abbrev gtF : DV → DV → Option TV := iiT fun i j => .bl (decide (j < i))
abbrev geF : DV → DV → Option TV := iiT fun i j => .bl (decide (j ≤ i))
/-! ### equality -/
mutual
def toPy : DV → Option PyData
  | .non => some .none
  | .bl b => some (.bool b)
  | .int i => some (.int i)
  | .str s => some (.str s)
  | .lst xs => (toPys xs).map .list
  | .seq xs => (toPys xs).map .list
  | .tup xs => (toPys xs).map .tuple
  | .dic _ => none
  | .dit _ => none
  | .ty _ => none
  | .ref _ => none
  | .obj _ => none
def toPys : List DV → Option (List PyData)
  | [] => some []
  | x :: xs => match toPy x with
    | some d => match toPys xs with
      | some ds => some (d :: ds)
      | none => none
    | none => none
end
mutual
theorem toPy_ok (s : Same F H) : ∀ {v : V} {x : DV} {d : PyData}, Rp K F v x → toPy x = some d → Dp K H v d
  | _, _, d, .non, e => by cases (show some PyData.none = some d from e); exact .non
  | _, _, d, .bl b, e => by cases (show some (PyData.bool b) = some d from e); exact .bl b
  | _, _, d, .int i, e => by cases (show some (PyData.int i) = some d from e); exact .int i
  | _, _, d, .str x, e => by cases (show some (PyData.str x) = some d from e); exact .str x
  | _, _, d, .ty n, e => by cases (show (none : Option PyData) = some d from e)
  | _, _, d, .ref n, e => by cases (show (none : Option PyData) = some d from e)
  | _, _, d, .lst (xs := xs) h r, e => by
    have e' : (toPys xs).map PyData.list = some d := e
    cases q : toPys xs with
    | none => rw [q] at e'; cases e'
    | some ds => rw [q] at e'; cases e'; exact .lst (.inl (.inl (s _ _ h))) (toPys_ok s r q)
  | _, _, d, .seq (xs := xs) h r, e => by
    have e' : (toPys xs).map PyData.list = some d := e
    cases q : toPys xs with
    | none => rw [q] at e'; cases e'
    | some ds => rw [q] at e'; cases e'; exact .lst (s.seq h) (toPys_ok s r q)
  | _, _, d, .tup (xs := xs) h r, e => by
    have e' : (toPys xs).map PyData.tuple = some d := e
    cases q : toPys xs with
    | none => rw [q] at e'; cases e'
    | some ds => rw [q] at e'; cases e'; exact .tup (Same.seqT s h) (toPys_ok s r q)
  | _, _, d, .dic h r, e => by cases (show (none : Option PyData) = some d from e)
  | _, _, d, .dit h r, e => by cases (show (none : Option PyData) = some d from e)
  | _, _, d, .obj h, e => by cases (show (none : Option PyData) = some d from e)
theorem toPys_ok (s : Same F H) : ∀ {vs : List V} {xs : List DV} {ds : List PyData}, Rps K F vs xs → toPys xs = some ds → DpAll K H vs ds
  | _, _, ds, .nil, e => by cases (show some ([] : List PyData) = some ds from e); exact .nil
  | _, _, ds, .cons (x := x) (xs := xs) h r, e => by
    have e' : (match toPy x with
      | some d => match toPys xs with
        | some ds => some (d :: ds)
        | none => none
      | none => none) = some ds := e
    cases q1 : toPy x with
    | none => rw [q1] at e'; cases e'
    | some d =>
      rw [q1] at e'
      cases q2 : toPys xs with
      | none => simp only [q2] at e'; cases e'
      | some zs => simp only [q2] at e'; cases e'; exact .cons (toPy_ok s h q1) (toPys_ok s r q2)
end
theorem toPyB {x : DV} {d : PyData} (s : Same F H) (r : RpB K F H v x) (e : toPy x = some d) : Dp K H v d := by
  cases r with
  | of r => exact toPy_ok s r e
  | lst h1 h2 =>
    rename_i xs
    have e' : (toPys xs).map PyData.list = some d := e
    cases q : toPys xs with
    | none => rw [q] at e'; cases e'
    | some ds => rw [q] at e'; cases e'; exact .lst (.inl (.inl h1)) (toPys_ok s h2 q)
  | dic h1 h2 => cases (show (none : Option PyData) = some d from e)
  | dit h1 h2 => cases (show (none : Option PyData) = some d from e)
def eqP (neg : Bool) (x y : DV) : Option TV := match toPy x, toPy y with
  | some d, some e => if SeqAt.shaped d = true ∧ SeqAt.shaped e = true then some (.val (.bl (if neg then !PyData.eqv d e else PyData.eqv d e))) else none
  | _, _ => none
abbrev eqF (x y : DV) : Option TV := match x, y with
  | .int i, .int j => some (.val (.bl (decide (i = j))))
  | .str i, .str j => some (.val (.bl (decide (i = j))))
  | _, _ => eqP false x y
abbrev neF (x y : DV) : Option TV := match x, y with
  | .int i, .int j => some (.val (.bl (!decide (i = j))))
  | .str i, .str j => some (.val (.bl (!decide (i = j))))
  | _, _ => eqP true x y
abbrev rEqA (K : PySem.W.Frag) : R2 := fun x y H Q => rEq x y H Q ∨ rEqD K x y H Q
abbrev rNeA (K : PySem.W.Frag) : R2 := fun x y H Q => rNe x y H Q ∨ rNeD K x y H Q
theorem eqP_ok {neg : Bool} {x y : DV} {z : TV} (h : eqP neg x y = some z) : ∃ d e, toPy x = some d ∧ toPy y = some e ∧ SeqAt.shaped d = true ∧ SeqAt.shaped e = true ∧ z = .val (.bl (if neg then !PyData.eqv d e else PyData.eqv d e)) := by
  unfold eqP at h
  cases q1 : toPy x with
  | none => rw [q1] at h; cases h
  | some d =>
    cases q2 : toPy y with
    | none => rw [q1, q2] at h; cases h
    | some e =>
      rw [q1, q2] at h
      have h' : (if SeqAt.shaped d = true ∧ SeqAt.shaped e = true then some (TV.val (.bl (if neg then !PyData.eqv d e else PyData.eqv d e))) else none) = some z := h
      by_cases c : SeqAt.shaped d = true ∧ SeqAt.shaped e = true
      · rw [if_pos c] at h'; cases h'; exact ⟨d, e, rfl, rfl, c.1, c.2, rfl⟩
      · rw [if_neg c] at h'; cases h'
theorem G2.eq : G2 K (rEqA K) eqF := fun F H v w x y z Q s rx ry e R => by
  have gen : eqP false x y = some z → (rEq v w H Q ∨ rEqD K v w H Q) := fun e => by
    obtain ⟨d, e', h1, h2, h3, h4, rfl⟩ := eqP_ok e
    exact .inr ⟨d, e', toPyB s rx h1, toPyB s ry h2, h3, h4, Res.here R s (.bl _)⟩
  unfold eqF at e
  split at e
  · rename_i i j
    cases e
    rw [rx.int, ry.int]
    refine .inl ⟨rfl, Res.here R s ?_⟩
    rw [dec_int, Bool.beq_eq_decide_eq]
    exact .bl _
  · rename_i i j
    cases e
    rw [rx.str, ry.str]
    refine .inl ⟨rfl, Res.here R s ?_⟩
    rw [dec_str]
    exact .bl _
  · exact gen e
theorem G2.ne : G2 K (rNeA K) neF := fun F H v w x y z Q s rx ry e R => by
  have gen : eqP true x y = some z → (rNe v w H Q ∨ rNeD K v w H Q) := fun e => by
    obtain ⟨d, e', h1, h2, h3, h4, rfl⟩ := eqP_ok e
    exact .inr ⟨d, e', toPyB s rx h1, toPyB s ry h2, h3, h4, Res.here R s (.bl _)⟩
  unfold neF at e
  split at e
  · rename_i i j
    cases e
    rw [rx.int, ry.int]
    refine .inl ⟨rfl, Res.here R s ?_⟩
    rw [dec_int, Bool.beq_eq_decide_eq]
    exact .bl _
  · rename_i i j
    cases e
    rw [rx.str, ry.str]
    refine .inl ⟨rfl, Res.here R s ?_⟩
    rw [dec_str]
    exact .bl _
  · exact gen e
/-- is None, is not None -/
def isNon : DV → Bool
  | .non => true
  | _ => false
def isF (x y : DV) : Option TV := match y with
  | .non => some (.val (.bl (isNon x)))
  | _ => none
def isntF (x y : DV) : Option TV := match y with
  | .non => some (.val (.bl (!isNon x)))
  | _ => none
theorem isNon_ok {x : DV} (r : RpB K F H v x) : decide (v = .non) = isNon x := by
  cases r with
  | of r => cases r <;> rfl
  | lst _ _ => rfl
  | dic _ _ => rfl
  | dit _ _ => rfl
theorem G2.is : G2 K (fun x y H Q => y = .non ∧ Q (.bl (decide (x = .non))) H) isF := fun F H v w x y z Q s rx ry e R => by
  cases y <;> first | (cases e; done) | skip
  cases e
  refine ⟨ry.non, Res.here R s ?_⟩
  rw [isNon_ok rx]; exact .bl _
theorem G2.isnt : G2 K (fun x y H Q => y = .non ∧ Q (.bl (!decide (x = .non))) H) isntF := fun F H v w x y z Q s rx ry e R => by
  cases y <;> first | (cases e; done) | skip
  cases e
  refine ⟨ry.non, Res.here R s ?_⟩
  rw [isNon_ok rx]; exact .bl _
/-! ### in -/
def inP (neg : Bool) (x : DV) (ys : List DV) : Option TV := match toPy x, toPys ys with
  | some d, some es => if SeqAt.shaped d = true ∧ SeqAt.shaped (.list es) = true then some (.val (.bl (if neg then !es.any (fun z => PyData.eqv z d) else es.any fun z => PyData.eqv z d))) else none
  | _, _ => none
def inF (neg : Bool) (x y : DV) : Option TV := match y with
  | .lst ys => inP neg x ys
  | .seq ys => inP neg x ys
  | _ => none
theorem inP_ok {neg : Bool} {x : DV} {ys : List DV} {z : TV} (h : inP neg x ys = some z) : ∃ d es, toPy x = some d ∧ toPys ys = some es ∧ SeqAt.shaped d = true ∧ SeqAt.shaped (.list es) = true ∧ z = .val (.bl (if neg then !es.any (fun z => PyData.eqv z d) else es.any fun z => PyData.eqv z d)) := by
  unfold inP at h
  cases q1 : toPy x with
  | none => rw [q1] at h; cases h
  | some d =>
    cases q2 : toPys ys with
    | none => rw [q1, q2] at h; cases h
    | some es =>
      rw [q1, q2] at h
      have h' : (if SeqAt.shaped d = true ∧ SeqAt.shaped (.list es) = true then some (TV.val (.bl (if neg then !es.any (fun z => PyData.eqv z d) else es.any fun z => PyData.eqv z d))) else none) = some z := h
      by_cases c : SeqAt.shaped d = true ∧ SeqAt.shaped (.list es) = true
      · rw [if_pos c] at h'; cases h'; exact ⟨d, es, rfl, rfl, c.1, c.2, rfl⟩
      · rw [if_neg c] at h'; cases h'
theorem seqB {x : DV} {xs : List DV} {d : List PyData} (s : Same F H) (r : RpB K F H v x) (e : seqL x = some xs) (q : toPys xs = some d) : Dp K H v (.list d) := by
  cases x with
  | lst ys => cases e; exact toPyB s r (by show (toPys _).map PyData.list = _; rw [q]; rfl)
  | seq ys => cases e; exact toPyB s r (by show (toPys _).map PyData.list = _; rw [q]; rfl)
  | _ => cases e
theorem G2.in_ : G2 K (rInD K) (inF false) := fun F H v w x y z Q s rx ry e R => by
  have gen : ∀ ys, seqL y = some ys → inP false x ys = some z → rInD K v w H Q := fun ys hy e => by
    obtain ⟨d, es, h1, h2, h3, h4, rfl⟩ := inP_ok e
    exact ⟨d, es, toPyB s rx h1, seqB s ry hy h2, h3, h4, Res.here R s (.bl _)⟩
  cases y <;> first | (cases e; done) | exact gen _ rfl e
theorem G2.notin : G2 K (rNotInD K) (inF true) := fun F H v w x y z Q s rx ry e R => by
  have gen : ∀ ys, seqL y = some ys → inP true x ys = some z → rNotInD K v w H Q := fun ys hy e => by
    obtain ⟨d, es, h1, h2, h3, h4, rfl⟩ := inP_ok e
    exact ⟨d, es, toPyB s rx h1, seqB s ry hy h2, h3, h4, Res.here R s (.bl _)⟩
  cases y <;> first | (cases e; done) | exact gen _ rfl e
/-! ### subscripts -/
def idxF (x y : DV) : Option TV := match x, y with
  | .lst xs, .int i => (atI xs i).map .val
  | .seq xs, .int i => (atI xs i).map .val
  | .tup xs, .int i => (atI xs i).map .val
  | .str z, .int i => if z.length ≤ sizeLine then (atI z.cps.toList i).map fun c => .val (.str ⟨#[c]⟩) else none
  | _, _ => none
theorem Rps.at {vs : List V} {xs : List DV} {i : Int} {x : DV} (r : Rps K F vs xs) (e : atI xs i = some x) : ∃ v, atI vs i = some v ∧ Rp K F v x := by
  unfold atI at e ⊢
  rw [r.len]
  cases q : ixN xs.length i with
  | none => rw [q] at e; cases e
  | some j =>
    rw [q] at e
    exact r.get e
theorem G2.idx : G2 K (rIx K) idxF := fun F H v w x y z Q s rx ry e R => by
  have fin : ∀ (xs : List DV) (i : Int), (atI xs i).map TV.val = some z → ∃ x, atI xs i = some x ∧ z = .val x := fun xs i e => by
    cases q : atI xs i with
    | none => rw [q] at e; cases e
    | some x => rw [q] at e; cases e; exact ⟨x, rfl, rfl⟩
  cases y <;> first | (cases x <;> cases e; done) | skip
  rename_i i
  cases x <;> first | (cases e; done) | skip
  · rename_i z'
    have e' : (if z'.length ≤ sizeLine then (atI z'.cps.toList i).map (fun c => TV.val (.str ⟨#[c]⟩)) else none) = some z := e
    by_cases c : z'.length ≤ sizeLine
    · rw [if_pos c] at e'
      cases q : atI z'.cps.toList i with
      | none => rw [q] at e'; cases e'
      | some ch =>
        rw [q] at e'; cases e'
        exact .inr (.inr ⟨z', i, ch, rx.str, ry.int, c, q, Res.here R s (.str _)⟩)
    · rw [if_neg c] at e'; cases e'
  · rename_i xs
    obtain ⟨x, q, rfl⟩ := fin xs i e
    obtain ⟨a, vs, rfl, h1, h2⟩ := rx.list s
    obtain ⟨u, hu, ru⟩ := h2.at q
    exact .inl ⟨a, vs, i, u, rfl, ry.int, .inl (.inl h1), hu, Res.here R s ru⟩
  · rename_i xs
    obtain ⟨x, q, rfl⟩ := fin xs i e
    obtain ⟨a, vs, rfl, h1, h2⟩ := rx.tup s
    obtain ⟨u, hu, ru⟩ := h2.at q
    exact .inr (.inl ⟨a, vs, i, u, rfl, ry.int, h1, hu, Res.here R s ru⟩)
  · rename_i xs
    obtain ⟨x, q, rfl⟩ := fin xs i e
    obtain ⟨a, vs, rfl, h1, h2⟩ := rx.seq s
    obtain ⟨u, hu, ru⟩ := h2.at q
    exact .inl ⟨a, vs, i, u, rfl, ry.int, h1, hu, Res.here R s ru⟩
/-- a part of a slice -/
abbrev DO := DSt → (Option Int → DSt → Prop) → (DErr → DSt → Prop) → Prop
def LO (K : PySem.W.Frag) (W : WX) (t : TO) (d : DO) : Prop := ∀ F H σ S (Q : Option Int → Hp → Prop) Qd Ed, Stt K F H σ S → d S Qd Ed →
  (∀ o F' H' S', Stp K F H σ S F' H' σ S' → Qd o S' → Q o H') → ExL K W F H σ S Ed → t σ H Q
def intK (y : TV) (Q : Int → Prop) : Prop := match y with
  | .val (.int i) => Q i
  | _ => False
theorem intK_ok {y : TV} {Q : Int → Prop} (h : intK y Q) : ∃ i, y = .val (.int i) ∧ Q i := by
  cases y with
  | val x =>
    cases x with
    | int i => exact ⟨i, rfl, h⟩
    | _ => exact (show False from h).elim
  | _ => exact (show False from h).elim
def dPart (d : DE) : DO := fun S Q Ed => d S (fun y S1 => intK y fun i => Q (some i) S1) Ed
def dNoPart : DO := fun S Q _ => Q none S
theorem LO.nil : LO K W tNoPart dNoPart := fun F H σ S Q Qd Ed s hd k e => k Option.none F H S (Stp.refl s) hd
theorem LO.one {t : TE} {d : DE} (h : LE K W t d) : LO K W (tPart t) (dPart d) := fun F H σ S Q Qd Ed s hd k e =>
  h F H σ S _ _ Ed s hd (fun v y F1 H1 S1 a r n q => by
    obtain ⟨i, rfl, q⟩ := intK_ok q
    cases (show Rp K F1 v (.int i) from r)
    exact ⟨i, rfl, k _ F1 H1 S1 a q⟩) e
def cutD (xs : List DV) (lo hi : Option Int) : List DV := (xs.drop (HT.sIx xs.length 0 lo)).take (HT.sIx xs.length xs.length hi - HT.sIx xs.length 0 lo)
theorem Rps.cut {vs : List V} {xs : List DV} {lo hi : Option Int} (r : Rps K F vs xs) : Rps K F (cutV vs lo hi) (cutD xs lo hi) := by
  unfold cutV cutD
  rw [r.len]
  exact (r.drop _).take _
def dSl (da : DE) (dl dh : DO) : DE := fun S Q Ed => da S (fun y S1 => dl S1 (fun l S2 => dh S2 (fun h S3 => onS ((tree S3 y).bind seqL) fun xs => Q (.own (.lst (cutD xs l h))) S3) Ed) Ed) Ed
theorem LE.slice {ta : TE} {tl th : TO} {da : DE} {dl dh : DO} (ha : LE K W ta da) (hl : LO K W tl dl) (hh : LO K W th dh) : LE K W (tSl (rSlL K) ta tl th) (dSl da dl dh) := fun F H σ S Q Qd Ed s hd k e =>
  ha F H σ S _ _ Ed s hd (fun v y F1 H1 S1 a r n q => hl F1 H1 σ S1 _ _ Ed a.st q (fun l F2 H2 S2 b q => hh F2 H2 σ S2 _ _ Ed b.st q (fun h F3 H3 S3 c q => by
    obtain ⟨xs, e1, q⟩ := onS_ok q
    cases q2 : tree S3 y with
    | none => rw [q2] at e1; cases e1
    | some x =>
      rw [q2] at e1
      have rb := tree_ok c.st ((r.step b).step c) q2
      have abc := (a.trans b).trans c
      obtain ⟨p, vs, rfl, h1, h2⟩ : ∃ p vs, v = .ref p ∧ SqL K H3 p vs ∧ Rps K F3 vs xs := by
        cases x with
        | lst ys => cases e1; obtain ⟨p, vs, e2, h1, h2⟩ := rb.list c.st.ex; exact ⟨p, vs, e2, .inl (.inl h1), h2⟩
        | seq ys => cases e1; exact rb.seq c.st.ex
        | _ => cases e1
      exact ⟨p, vs, rfl, h1, fun p' hp => (res_of (z := .own (.lst (cutD xs l h))) (Q := Q) c.st (.inr (.inl ⟨_, rfl⟩)) q fun v' y' F' H' S' d r' n' q' => k v' y' F' H' S' (abc.trans d) r' (n'.back abc) q').newL c.st.ex hp h2.cut⟩) ((e.step a).step b)) (e.step a)) e
/-! ### built-ins -/
def lenF (xs : List DV) : Option TV := match xs with
  | [.lst ys] => some (.val (.int ys.length))
  | [.seq ys] => some (.val (.int ys.length))
  | [.tup ys] => some (.val (.int ys.length))
  | [.str z] => if z.length ≤ sizeLine then some (.val (.int z.length)) else none
  | _ => none
abbrev rLenA (K : PySem.W.Frag) : List V → Hp → VK → Prop := fun xs H Q => ∃ x n, xs = [x] ∧ LenV K x H n ∧ Q (.int n) H
theorem Gn.len : Gn K (rLenA K) lenF := fun F H vs xs z Q s r e R => by
  cases r with
  | nil => cases e
  | cons r1 r2 =>
    rename_i v x vs xs
    cases r2 with
    | cons _ _ => cases x <;> cases e
    | nil =>
      cases x <;> first | (cases e; done) | skip
      · rename_i z'
        have e' : (if z'.length ≤ sizeLine then some (TV.val (.int z'.length)) else none) = some z := e
        by_cases c : z'.length ≤ sizeLine
        · rw [if_pos c] at e'; cases e'
          exact ⟨v, _, rfl, by rw [r1.str]; exact ⟨c, rfl⟩, Res.here R s (.int _)⟩
        · rw [if_neg c] at e'; cases e'
      · cases e
        obtain ⟨a, us, rfl, h1, h2⟩ := r1.list s
        exact ⟨_, _, rfl, .inl ⟨us, .inl (.inl h1), h2.len.symm⟩, Res.here R s (.int _)⟩
      · cases e
        obtain ⟨a, us, rfl, h1, h2⟩ := r1.tup s
        exact ⟨_, _, rfl, .inr ⟨us, h1, h2.len.symm⟩, Res.here R s (.int _)⟩
      · cases e
        obtain ⟨a, us, rfl, h1, h2⟩ := r1.seq s
        exact ⟨_, _, rfl, .inl ⟨us, h1, h2.len.symm⟩, Res.here R s (.int _)⟩
def max2F (xs : List DV) : Option TV := match xs with
  | [.int i, .int j] => some (.val (.int (if j > i then j else i)))
  | _ => none
def min2F (xs : List DV) : Option TV := match xs with
  | [.int i, .int j] => some (.val (.int (if j < i then j else i)))
  | _ => none
theorem RpBs.int2 {vs : List V} {i j : Int} (r : RpBs K F H vs [.int i, .int j]) : vs = [.int i, .int j] := by
  cases r with
  | cons a r => cases r with
    | cons b r => cases r; rw [a.int, b.int]
theorem RpBs.one {vs : List V} {x : DV} (r : RpBs K F H vs [x]) : ∃ v, vs = [v] ∧ RpB K F H v x := by
  cases r with
  | cons a r => cases r; exact ⟨_, rfl, a⟩
theorem two_of {α : Type} {f : DV → DV → Option α} : ∀ {xs : List DV} {z : α}, (match xs with | [x, y] => f x y | _ => none) = some z → ∃ x y, xs = [x, y] ∧ f x y = some z
  | [x, y], z, e => ⟨x, y, rfl, e⟩
  | [], z, e => by cases e
  | [x], z, e => by cases e
  | x :: y :: w :: r, z, e => by cases e
theorem Gn.max2 : Gn K (fun xs H Q => ∃ i j, xs = [.int i, .int j] ∧ Q (.int (if j > i then j else i)) H) max2F := fun F H vs xs z Q s r e R => by
  unfold max2F at e
  split at e
  · cases e; rw [r.int2]; exact ⟨_, _, rfl, Res.here R s (.int _)⟩
  · cases e
theorem Gn.min2 : Gn K (fun xs H Q => ∃ i j, xs = [.int i, .int j] ∧ Q (.int (if j < i then j else i)) H) min2F := fun F H vs xs z Q s r e R => by
  unfold min2F at e
  split at e
  · cases e; rw [r.int2]; exact ⟨_, _, rfl, Res.here R s (.int _)⟩
  · cases e
def intF (xs : List DV) : Option TV := match xs with
  | [.int i] => some (.val (.int i))
  | [.bl b] => some (.val (.int (if b then 1 else 0)))
  | _ => none
theorem Gn.int : Gn K (fun xs H Q => (∃ i, xs = [.int i] ∧ Q (.int i) H) ∨ ∃ k, xs = [.bl k] ∧ Q (.int (if k then 1 else 0)) H) intF := fun F H vs xs z Q s r e R => by
  unfold intF at e
  split at e
  · cases e; obtain ⟨v, rfl, h⟩ := r.one; rw [h.int]; exact .inl ⟨_, rfl, Res.here R s (.int _)⟩
  · cases e; obtain ⟨v, rfl, h⟩ := r.one; rw [h.bl]; exact .inr ⟨_, rfl, Res.here R s (.int _)⟩
  · cases e
def listF (xs : List DV) : Option TV := match xs with
  | [.lst ys] => some (.own (.lst ys))
  | [.seq ys] => some (.own (.lst ys))
  | [.tup ys] => some (.own (.lst ys))
  | _ => none
theorem Gn.list : Gn K (fun xs H Q => ∃ p ys, xs = [.ref p] ∧ (SqL K H p ys ∨ SqT K H p ys) ∧ ∀ l, H l = none → Q (.ref l) (upd H l (.lst ys))) listF := fun F H vs xs z Q s r e R => by
  unfold listF at e
  split at e
  · cases e; obtain ⟨v, rfl, h⟩ := r.one; obtain ⟨a, us, rfl, h1, h2⟩ := h.list s
    exact ⟨a, us, rfl, .inl (.inl (.inl h1)), fun l hl => Res.newL R s hl h2⟩
  · cases e; obtain ⟨v, rfl, h⟩ := r.one; obtain ⟨a, us, rfl, h1, h2⟩ := h.seq s
    exact ⟨a, us, rfl, .inl h1, fun l hl => Res.newL R s hl h2⟩
  · cases e; obtain ⟨v, rfl, h⟩ := r.one; obtain ⟨a, us, rfl, h1, h2⟩ := h.tup s
    exact ⟨a, us, rfl, .inr h1, fun l hl => Res.newL R s hl h2⟩
  · cases e
/-! ### lists of whole numbers, of bools -/
def zInts (l : List Int) : List DV := l.map .int
def bls (l : List Bool) : List DV := l.map .bl
def unI : List DV → Option (List Int)
  | [] => some []
  | .int i :: r => (unI r).map (i :: ·)
  | _ :: _ => none
def unB : List DV → Option (List Bool)
  | [] => some []
  | .bl i :: r => (unB r).map (i :: ·)
  | _ :: _ => none
theorem unI_z : ∀ l : List Int, unI (zInts l) = some l
  | [] => rfl
  | i :: r => by show (unI (zInts r)).map _ = _; rw [unI_z r]; rfl
theorem unB_bls : ∀ l : List Bool, unB (bls l) = some l
  | [] => rfl
  | i :: r => by show (unB (bls r)).map _ = _; rw [unB_bls r]; rfl
theorem unI_ok : ∀ {xs : List DV} {l : List Int}, unI xs = some l → xs = zInts l
  | [], l, e => by cases e; rfl
  | x :: r, l, e => by
    cases x <;> first | (cases e; done) | skip
    rename_i i
    have e' : (unI r).map (i :: ·) = some l := e
    cases q : unI r with
    | none => rw [q] at e'; cases e'
    | some m => rw [q] at e'; cases e'; rw [unI_ok q]; rfl
theorem unB_ok : ∀ {xs : List DV} {l : List Bool}, unB xs = some l → xs = bls l
  | [], l, e => by cases e; rfl
  | x :: r, l, e => by
    cases x <;> first | (cases e; done) | skip
    rename_i i
    have e' : (unB r).map (i :: ·) = some l := e
    cases q : unB r with
    | none => rw [q] at e'; cases e'
    | some m => rw [q] at e'; cases e'; rw [unB_ok q]; rfl
theorem rps_z {l : List Int} : ∀ {vs : List V}, Rps K F vs (zInts l) → vs = l.map V.int := by
  induction l with
  | nil => intro vs r; cases (show Rps K F vs [] from r); rfl
  | cons i l ih =>
    intro vs r
    cases (show Rps K F vs (.int i :: zInts l) from r) with
    | cons a r2 => cases a; rw [ih r2, List.map_cons]
theorem rps_bls {l : List Bool} : ∀ {vs : List V}, Rps K F vs (bls l) → vs = l.map V.bl := by
  induction l with
  | nil => intro vs r; cases (show Rps K F vs [] from r); rfl
  | cons i l ih =>
    intro vs r
    cases (show Rps K F vs (.bl i :: bls l) from r) with
    | cons a r2 => cases a; rw [ih r2, List.map_cons]
theorem z_rps : ∀ l : List Int, Rps K F (l.map V.int) (zInts l)
  | [] => .nil
  | i :: l => .cons (.int i) (z_rps l)
theorem RpB.sq {x : DV} {xs : List DV} (r : RpB K F H v x) (s : Same F H) (e : seqL x = some xs) : ∃ a vs, v = .ref a ∧ SqL K H a vs ∧ Rps K F vs xs := by
  cases x with
  | lst ys => cases e; obtain ⟨p, vs, e2, h1, h2⟩ := r.list s; exact ⟨p, vs, e2, .inl (.inl h1), h2⟩
  | seq ys => cases e; exact r.seq s
  | _ => cases e
/-- the numbers of a list -/
def intsOf (x : DV) : Option (List Int) := (seqL x).bind unI
def blsOf (x : DV) : Option (List Bool) := (seqL x).bind unB
theorem intsOf_ok {x : DV} {l : List Int} (r : RpB K F H v x) (s : Same F H) (e : intsOf x = some l) : ∃ a, v = .ref a ∧ SqL K H a (l.map V.int) := by
  unfold intsOf at e
  cases q : seqL x with
  | none => rw [q] at e; cases e
  | some xs =>
    rw [q] at e
    obtain ⟨a, vs, rfl, h1, h2⟩ := r.sq s q
    rw [unI_ok e] at h2
    rw [rps_z h2] at h1
    exact ⟨a, rfl, h1⟩
theorem blsOf_ok {x : DV} {l : List Bool} (r : RpB K F H v x) (s : Same F H) (e : blsOf x = some l) : ∃ a, v = .ref a ∧ SqL K H a (l.map V.bl) := by
  unfold blsOf at e
  cases q : seqL x with
  | none => rw [q] at e; cases e
  | some xs =>
    rw [q] at e
    obtain ⟨a, vs, rfl, h1, h2⟩ := r.sq s q
    rw [unB_ok e] at h2
    rw [rps_bls h2] at h1
    exact ⟨a, rfl, h1⟩
def one {α β : Type} (f : α → Option β) : List α → Option β
  | [x] => f x
  | _ => none
theorem one_ok {α β : Type} {f : α → Option β} {xs : List α} {z : β} (h : one f xs = some z) : ∃ x, xs = [x] ∧ f x = some z := by
  cases xs with
  | nil => cases h
  | cons x r => cases r with
    | nil => exact ⟨x, rfl, h⟩
    | cons y r => cases h
def sumF : List DV → Option TV := one fun x => (intsOf x).map fun l => .val (.int l.sum)
def allF : List DV → Option TV := one fun x => (blsOf x).map fun l => .val (.bl (l.all id))
def anyF : List DV → Option TV := one fun x => (blsOf x).map fun l => .val (.bl (l.any id))
theorem map_ok {α β : Type} {o : Option α} {f : α → β} {z : β} (h : o.map f = some z) : ∃ x, o = some x ∧ z = f x := by
  cases o with
  | none => cases h
  | some x => cases h; exact ⟨x, rfl, rfl⟩
theorem Gn.sum : Gn K (rSum K) sumF := fun F H vs xs z Q s r e R => by
  obtain ⟨x, rfl, e1⟩ := one_ok e
  obtain ⟨l, e2, rfl⟩ := map_ok e1
  obtain ⟨v, rfl, h⟩ := r.one
  obtain ⟨a, rfl, h1⟩ := intsOf_ok h s e2
  exact ⟨a, l, rfl, h1, Res.here R s (.int _)⟩
theorem Gn.all : Gn K (rAll K) allF := fun F H vs xs z Q s r e R => by
  obtain ⟨x, rfl, e1⟩ := one_ok e
  obtain ⟨l, e2, rfl⟩ := map_ok e1
  obtain ⟨v, rfl, h⟩ := r.one
  obtain ⟨a, rfl, h1⟩ := blsOf_ok h s e2
  exact ⟨a, l, rfl, h1, Res.here R s (.bl _)⟩
theorem Gn.any : Gn K (rAny K) anyF := fun F H vs xs z Q s r e R => by
  obtain ⟨x, rfl, e1⟩ := one_ok e
  obtain ⟨l, e2, rfl⟩ := map_ok e1
  obtain ⟨v, rfl, h⟩ := r.one
  obtain ⟨a, rfl, h1⟩ := blsOf_ok h s e2
  exact ⟨a, l, rfl, h1, Res.here R s (.bl _)⟩
def maxL : List Int → Option Int
  | [] => none
  | x :: r => some (r.foldl max x)
def minL : List Int → Option Int
  | [] => none
  | x :: r => some (r.foldl min x)
theorem foldl_max_spec : ∀ (r : List Int) (x : Int), (r.foldl max x = x ∨ r.foldl max x ∈ r) ∧ x ≤ r.foldl max x ∧ ∀ y ∈ r, y ≤ r.foldl max x
  | [], x => ⟨.inl rfl, Int.le_refl x, fun y h => by cases h⟩
  | a :: r, x => by
    obtain ⟨h1, h2, h3⟩ := foldl_max_spec r (max x a)
    refine ⟨?_, by show x ≤ r.foldl max (max x a); omega, fun y hy => ?_⟩
    · show r.foldl max (max x a) = x ∨ r.foldl max (max x a) ∈ a :: r
      rcases h1 with h1 | h1
      · rw [h1]
        by_cases c : x ≤ a
        · right; rw [Int.max_eq_right c]; exact List.mem_cons_self
        · left; omega
      · right; exact List.mem_cons_of_mem _ h1
    · show y ≤ r.foldl max (max x a)
      rcases List.mem_cons.mp hy with e | hy
      · omega
      · exact h3 y hy
theorem foldl_min_spec : ∀ (r : List Int) (x : Int), (r.foldl min x = x ∨ r.foldl min x ∈ r) ∧ r.foldl min x ≤ x ∧ ∀ y ∈ r, r.foldl min x ≤ y
  | [], x => ⟨.inl rfl, Int.le_refl x, fun y h => by cases h⟩
  | a :: r, x => by
    obtain ⟨h1, h2, h3⟩ := foldl_min_spec r (min x a)
    refine ⟨?_, by show r.foldl min (min x a) ≤ x; omega, fun y hy => ?_⟩
    · show r.foldl min (min x a) = x ∨ r.foldl min (min x a) ∈ a :: r
      rcases h1 with h1 | h1
      · rw [h1]
        by_cases c : a ≤ x
        · right; rw [Int.min_eq_right c]; exact List.mem_cons_self
        · left; omega
      · right; exact List.mem_cons_of_mem _ h1
    · show r.foldl min (min x a) ≤ y
      rcases List.mem_cons.mp hy with e | hy
      · omega
      · exact h3 y hy
theorem maxL_uniq {l : List Int} {m k : Int} (e : maxL l = some m) (h1 : k ∈ l) (h2 : ∀ y ∈ l, y ≤ k) : k = m := by
  cases l with
  | nil => cases e
  | cons x r =>
    cases e
    obtain ⟨a1, a2, a3⟩ := foldl_max_spec r x
    have b1 : k ≤ r.foldl max x := by
      rcases List.mem_cons.mp h1 with z | z
      · omega
      · exact a3 k z
    have b2 : r.foldl max x ≤ k := by
      rcases a1 with z | z
      · rw [z]; exact h2 x List.mem_cons_self
      · exact h2 _ (List.mem_cons_of_mem _ z)
    omega
theorem minL_uniq {l : List Int} {m k : Int} (e : minL l = some m) (h1 : k ∈ l) (h2 : ∀ y ∈ l, k ≤ y) : k = m := by
  cases l with
  | nil => cases e
  | cons x r =>
    cases e
    obtain ⟨a1, a2, a3⟩ := foldl_min_spec r x
    have b1 : r.foldl min x ≤ k := by
      rcases List.mem_cons.mp h1 with z | z
      · omega
      · exact a3 k z
    have b2 : k ≤ r.foldl min x := by
      rcases a1 with z | z
      · rw [z]; exact h2 x List.mem_cons_self
      · exact h2 _ (List.mem_cons_of_mem _ z)
    omega
def maxF : List DV → Option TV := one fun x => ((intsOf x).bind maxL).map fun m => .val (.int m)
def minF : List DV → Option TV := one fun x => ((intsOf x).bind minL).map fun m => .val (.int m)
theorem Gn.max : Gn K (rMax K) maxF := fun F H vs xs z Q s r e R => by
  obtain ⟨x, rfl, e1⟩ := one_ok e
  obtain ⟨m, e2, rfl⟩ := map_ok e1
  obtain ⟨v, rfl, h⟩ := r.one
  cases q : intsOf x with
  | none => rw [q] at e2; cases e2
  | some l =>
    rw [q] at e2
    obtain ⟨a, rfl, h1⟩ := intsOf_ok h s q
    refine ⟨a, l, rfl, h1, by cases l with | nil => cases e2 | cons _ _ => exact Nat.succ_pos _, fun k k1 k2 => ?_⟩
    rw [maxL_uniq e2 k1 k2]
    exact Res.here R s (.int _)
theorem Gn.min : Gn K (rMin K) minF := fun F H vs xs z Q s r e R => by
  obtain ⟨x, rfl, e1⟩ := one_ok e
  obtain ⟨m, e2, rfl⟩ := map_ok e1
  obtain ⟨v, rfl, h⟩ := r.one
  cases q : intsOf x with
  | none => rw [q] at e2; cases e2
  | some l =>
    rw [q] at e2
    obtain ⟨a, rfl, h1⟩ := intsOf_ok h s q
    refine ⟨a, l, rfl, h1, by cases l with | nil => cases e2 | cons _ _ => exact Nat.succ_pos _, fun k k1 k2 => ?_⟩
    rw [minL_uniq e2 k1 k2]
    exact Res.here R s (.int _)
/-! ### isinstance -/
def tyOf : DV → Option String
  | .non => some "NoneType"
  | .bl _ => some "bool"
  | .int _ => some "int"
  | .str _ => some "str"
  | .lst _ => some "list"
  | .tup _ => some "tuple"
  | .dic _ => some "dict"
  | _ => none
def isiF (xs : List DV) : Option TV := match xs with
  | [x, .ty n] => match tyOf x with
    | some m => (kitB m n).map fun b => .val (.bl b)
    | none => none
  | _ => none
theorem tyOf_ok {x : DV} {m : String} (s : Same F H) (r : RpB K F H v x) (e : tyOf x = some m) : TyX K H v (.type m) := by
  cases r with
  | of r =>
    cases r with
    | non => cases e; exact .base .non
    | bl b => cases e; exact .base (.bl b)
    | int b => cases e; exact .base (.int b)
    | str b => cases e; exact .base (.str b)
    | lst h _ => cases e; exact .base (.lst (s _ _ h))
    | dic h _ => cases e; exact .base (.dK (s _ _ h))
    | tup h _ =>
      cases e
      rcases Same.seqT s h with (h | ⟨o, h⟩) | ⟨o, its, n, h1, h2, _⟩
      · exact .base (.tup h)
      · exact .fTuple h
      · exact .kTuple h1 h2
    | _ => cases e
  | lst h _ => cases e; exact .base (.lst h)
  | dic h _ => cases e; exact .base (.dK h)
  | dit h _ => cases e
theorem Gn.isi : Gn K (rIsi K) isiF := fun F H vs xs z Q s r e R => by
  unfold isiF at e
  split at e
  · rename_i x n
    cases q : tyOf x with
    | none => rw [q] at e; cases e
    | some m =>
      rw [q] at e
      obtain ⟨b, e2, rfl⟩ := map_ok (show (kitB m n).map (fun b => TV.val (.bl b)) = some z from e)
      cases r with
      | cons r1 r =>
        cases r with
        | cons r2 r =>
          cases r
          cases r2 with
          | of r2 =>
            cases r2
            exact ⟨_, _, _, _, b, rfl, .ty n, tyOf_ok s r1 q, kit_ty e2, Res.here R s (.bl _)⟩
  · cases e
end
end L3

/-! L3f: defs that change objects; changes; walks; comprehensions. -/
namespace L3
open PySem PySem.Spec PyProof.Rows L2
/-! ### defs over the map -/
abbrev GSp := List DV → OM → (TV → OM → Prop) → (DErr → OM → Prop) → Prop
def liftG (K : PySem.W.Frag) (gs : GSp) : Sp := fun vs H Q E => ∃ (F : Hp) (O : OM) (xs : List DV) (Qd : TV → OM → Prop) (Ed : DErr → OM → Prop), Stt K F H [] ⟨[], O⟩ ∧ Rps K F vs xs ∧ gs xs O Qd Ed ∧
  (∀ y O', Qd y O' → ∀ v F' H', Stp K F H [] ⟨[], O⟩ F' H' [] ⟨[], O'⟩ → TVr K F' H' [] ⟨[], O'⟩ v y → Nw H [] ⟨[], O⟩ v y → Q v H') ∧
  ∀ err O', Ed err O' → ∀ cls dd F' H', Stp K F H [] ⟨[], O⟩ F' H' [] ⟨[], O'⟩ → ErrR K F' cls dd err → (∀ d, dd = some d → H d = none ∨ O d ≠ none) → E cls dd H'
/-- fewer objects of the map -/
def SubO (O' O : OM) : Prop := ∀ a so, O' a = some so → O a = some so
theorem SubO.refl (O : OM) : SubO O O := fun _ _ h => h
inductive SvOk : List SV → List DV → Prop where
  | nil : SvOk [] []
  | val {x : DV} {ss : List SV} {xs : List DV} : SvOk ss xs → SvOk (.val x :: ss) (x :: xs)
  | rf {a : Addr} {ss : List SV} {xs : List DV} : SvOk ss xs → SvOk (.rf a :: ss) (.ref a :: xs)
def gSv (N : List Str) (ss : List SV) (O : OM) : DSt := ⟨ss.map some ++ List.replicate (N.length - ss.length) none, O⟩
def retG (S : DSt) (y : TV) (Q : TV → OM → Prop) : Prop := match y with
  | .val x => ∃ O', SubO O' S.o ∧ Q (.val x) O'
  | .own o => ∃ O', SubO O' S.o ∧ Q (.own o) O'
  | .rf a => ∃ O', SubO O' S.o ∧ Q (.rf a) O'
  | .slt i => match S.g[i]? with
    | some (some (.own o)) => ∃ O', SubO O' S.o ∧ Q (.own o) O'
    | some (some (.val x)) => ∃ O', SubO O' S.o ∧ Q (.val x) O'
    | some (some (.rf a)) => onS (S.o a) fun so => ∃ O', SubO O' S.o ∧ O' a = none ∧ Q (.own so) O'
    | _ => False
def endsG (Q : TV → OM → Prop) (E : DErr → OM → Prop) : DEnds := { nx := fun S => ∃ O', SubO O' S.o ∧ Q (.val .non) O', rt := fun y S => retG S y Q, bk := fun _ => False, ct := fun _ => False, ex := fun e S => ∃ O', SubO O' S.o ∧ E e O' }
section
variable {K : PySem.W.Frag} {F F' H H' F0 H0 : Hp} {σ σ' σ1 σ2 σ0 : L2.St} {S S' S1 S2 S0 : DSt} {F1 F2 H1 H2 : Hp} {p : Addr} {v : V} {W : WX} {O O' O1 : OM}
theorem SvOk.len {ss : List SV} {xs : List DV} (h : SvOk ss xs) : ss.length = xs.length := by
  induction h with
  | nil => rfl
  | val _ ih => exact congrArg Nat.succ ih
  | rf _ ih => exact congrArg Nat.succ ih
theorem SvOk.at {ss : List SV} {xs : List DV} (h : SvOk ss xs) : ∀ {i : Nat} {y : SV}, ss[i]? = some y → (∀ o, y ≠ .own o) ∧ ∃ x, xs[i]? = some x ∧ ∀ {K : PySem.W.Frag} {F H : Hp} {v : V}, Rp K F v x → SVr K F H v y := by
  induction h with
  | nil => intro i y e; simp at e
  | @val x ss xs _ ih =>
    intro i y e
    cases i with
    | zero => simp at e; subst e; exact ⟨fun o z => (by cases z), x, rfl, fun r => r⟩
    | succ i => simpa using ih (i := i) (by simpa using e)
  | @rf a ss xs _ ih =>
    intro i y e
    cases i with
    | zero => simp at e; subst e; exact ⟨fun o z => (by cases z), DV.ref a, rfl, fun r => (by cases r; rfl)⟩
    | succ i => simpa using ih (i := i) (by simpa using e)
theorem gSv_at {N : List Str} {ss : List SV} {i : Nat} {y : SV} (h : (gSv N ss O).g[i]? = some (some y)) : ss[i]? = some y := by
  have h' : (ss.map some ++ List.replicate (N.length - ss.length) none)[i]? = some (some y) := h
  by_cases hi : i < ss.length
  · rw [List.getElem?_append_left (by rw [List.length_map]; exact hi), List.getElem?_map, List.getElem?_eq_getElem hi] at h'
    cases h'
    exact List.getElem?_eq_getElem hi
  · rw [List.getElem?_append_right (by rw [List.length_map]; omega), List.getElem?_replicate] at h'
    split at h' <;> cases h'
theorem gSv_ok {N : List Str} {vs : List V} {xs : List DV} {ss : List SV} (s : Stt K F H [] ⟨[], O⟩) (r : Rps K F vs xs) (k : SvOk ss xs) : Stt K F H (start N vs) (gSv N ss O) := by
  have no : ∀ (i : Nat) o, (gSv N ss O).g[i]? ≠ some (some (.own o)) := fun i o e => (k.at (gSv_at e)).1 o rfl
  refine ⟨s.ex, ?_, fun i y e => ?_, fun i j o o' p e1 => absurd e1 (no i o), fun i o p e1 => absurd e1 (no i o), s.ob⟩
  · show (ss.map some ++ List.replicate _ _).length = (vs.map some ++ List.replicate _ _).length
    rw [List.length_append, List.length_append, List.length_map, List.length_map, List.length_replicate, List.length_replicate, r.len, k.len]
  · obtain ⟨_, x, e1, hx⟩ := k.at (gSv_at e)
    obtain ⟨v, e2, r2⟩ := r.get e1
    refine ⟨v, ?_, hx r2⟩
    show (vs.map some ++ _)[i]? = _
    rw [List.getElem?_append_left (by rw [List.length_map]; exact (List.getElem?_eq_some_iff.mp e2).1), List.getElem?_map, e2]
    rfl
theorem gSv_ow {N : List Str} {xs : List DV} {ss : List SV} (k : SvOk ss xs) {σ : L2.St} {p : Addr} (h : ow σ (gSv N ss O) p) : O p ≠ none := by
  rcases h with ⟨i, o, e1, _⟩ | h
  · exact absurd rfl ((k.at (gSv_at e1)).1 o)
  · exact h
/-- slots forgotten, objects of the map forgotten -/
theorem Stp.drop (a : Stp K F H σ S F' H' σ' S') (h : ∀ p, ow σ S p → O p ≠ none) (s0 : ∀ p, O p ≠ none → ow σ S p) (hs : SubO O' S'.o) : Stp K F H [] ⟨[], O⟩ F' H' [] ⟨[], O'⟩ := by
  have e0 : ∀ {O : OM} {a : Addr}, ow [] ⟨[], O⟩ a ↔ O a ≠ none := fun {O a} => ⟨fun z => by
    rcases z with ⟨i, o, e1, _⟩ | z
    · have e1' : ([] : List (Option SV))[i]? = some (some (.own o)) := e1
      simp at e1'
    · exact z, fun z => .inr z⟩
  refine ⟨a.fx, fun b o e n => a.kp b o e fun z => n (.inr (h b z)), fun b e n q => a.nf b e (fun z => n (.inr (h b z))) q, fun b z => ?_, ⟨a.st.ex, rfl, fun i x e => by simp at e, fun i j o o' p e => by simp at e, fun i o p e => by simp at e, fun b so e => a.st.ob b so (hs b so e)⟩⟩
  have z' : O' b ≠ none := e0.mp z
  cases q : O' b with
  | none => exact absurd q z'
  | some so =>
    rcases a.no b (.inr (by rw [hs b so q]; exact fun z => by cases z)) with w | w
    · exact .inl (.inr (h b w))
    · exact .inr w
end
section
variable {P : Program} {w : World} {K : PySem.W.Frag} {mg : Str → Option Value} {base : Heap} {x qual : Str} {params : Arguments} {body : List Stmt} {scope : Scope} {f : Addr} {fd : FuncData}
/-- THE RULE for a def over the map -/
theorem fn_gen {N ps : List Str} {k : Nat} {sp : GSp} {d : DS} (Fd : FunD K x qual params body scope [] [] f fd) (Sc : FnScope N ps scope) (len : ∀ xs O Q E, sp xs O Q E → xs.length = ps.length)
    (hb : ∀ (cdv : Value) (A : Around) (outer : List Env) (s : Shared) (H : Hp) (E : XK), Room k (A.deeper (envOfC qual scope s.heap.objs.size f cdv)) →
      Ctx k (cxOf (L2.CX P w) P w K mg base N qual scope f cdv A outer s H E) (fun cls dd _ H' => E cls dd H') →
      ∃ t, SsJ (cxOf (L2.CX P w) P w K mg base N qual scope f cdv A outer s H E) (fun cls dd _ H' => E cls dd H') body t d)
    (hd : ∀ xs O Q E, sp xs O Q E → ∃ ss, SvOk ss xs ∧ d (gSv N ss O) (endsG Q E)) : FnOk P w K mg base (L2.CX P w) (k + 1) f fd ps (liftG K sp) := by
  refine Fd.ok Sc (fun vs H Q E h => ?_) (fun cdv A outer s H vs Q E hr h => ?_)
  · obtain ⟨F, O, xs, Qd, Ed, _, r, h, _⟩ := h
    rw [r.len]; exact len _ _ _ _ h
  · obtain ⟨F, O, xs, Qd, Ed, sm, r, h, kq, ke⟩ := h
    obtain ⟨t, j⟩ := hb cdv A outer s H E hr ⟨rfl, takes_of rfl rfl rfl rfl, passes_of rfl, hr⟩
    obtain ⟨ss, hk, hq⟩ := hd xs O _ _ h
    have h0 : ∀ p, ow (start N vs) (gSv N ss O) p → O p ≠ none := fun p z => gSv_ow hk z
    have h1 : ∀ p, O p ≠ none → ow (start N vs) (gSv N ss O) p := fun p z => .inr z
    have nback : ∀ {v : V} {o : SO}, Nw H (start N vs) (gSv N ss O) v (.own o) → Nw H [] ⟨[], O⟩ v (.own o) := fun n o p e1 e2 => by
      rcases n o p e1 e2 with z | z
      · exact .inl z
      · exact .inr (.inr (h0 p z))
    refine ⟨t, j.p, j.l F H _ (gSv N ss O) _ _ (gSv_ok sm r hk) hq ⟨fun F' H' σ' S' a q => ?_, fun v y F' H' σ' S' a tv n q => ?_, fun F' H' σ' S' a q => q.elim, fun F' H' σ' S' a q => q.elim, fun cls dd err F' H' σ' S' a er nd q => ?_⟩⟩
    · obtain ⟨O', so, q⟩ := q
      exact kq _ O' q .non F' H' (a.drop h0 h1 so) Rp.non Nw.val
    · cases y with
      | val x =>
        obtain ⟨O', so, q⟩ := q
        exact kq _ O' q v F' H' (a.drop h0 h1 so) tv Nw.val
      | rf b =>
        obtain ⟨O', so, q⟩ := q
        exact kq _ O' q v F' H' (a.drop h0 h1 so) tv Nw.rf
      | own o =>
        obtain ⟨O', so, q⟩ := q
        obtain ⟨p, rfl, z1, z2, z3⟩ := tv
        have s' := a.drop h0 h1 so
        refine kq _ O' q (.ref p) F' H' s' ⟨p, rfl, z1, z2, fun z => z3 (.inr ?_)⟩ (nback fun o' p' e1 e2 => n o' p' e1 e2)
        rcases z with ⟨i, o2, e1, _⟩ | z
        · have e1' : ([] : List (Option SV))[i]? = some (some (.own o2)) := e1
          simp at e1'
        · cases e : O' p with
          | none => exact absurd e z
          | some u => rw [so p u e]; exact fun z => by cases z
      | slt i =>
        have e2 : σ'[i]? = some (some v) := tv
        have q' : (match S'.g[i]? with
          | some (some (.own o)) => ∃ O', SubO O' S'.o ∧ Qd (.own o) O'
          | some (some (.val x)) => ∃ O', SubO O' S'.o ∧ Qd (.val x) O'
          | some (some (.rf b)) => onS (S'.o b) fun so => ∃ O', SubO O' S'.o ∧ O' b = none ∧ Qd (.own so) O'
          | _ => False) := q
        split at q'
        · rename_i o e
          obtain ⟨O', so, q⟩ := q'
          obtain ⟨w', e3, p, rfl, z1, z2⟩ := a.st.sl i _ e
          rw [e2] at e3; cases e3
          refine kq _ O' q (.ref p) F' H' (a.drop h0 h1 so) ⟨p, rfl, z1, z2, fun z => ?_⟩ (nback fun o' p' e4 e5 => by cases e5; exact (a.no p (.inl ⟨i, o, e, e2⟩)).symm)
          rcases z with ⟨i', o2, e1, _⟩ | z
          · have e1' : ([] : List (Option SV))[i']? = some (some (.own o2)) := e1
            simp at e1'
          · have z' : O' p ≠ none := z
            cases e6 : O' p with
            | none => exact z' e6
            | some u =>
              have := a.st.sep i o p e e2
              rw [so p u e6] at this; cases this
        · rename_i x e
          obtain ⟨O', so, q⟩ := q'
          obtain ⟨w', e3, r'⟩ := a.st.sl i _ e
          rw [e2] at e3; cases e3
          exact kq _ O' q v F' H' (a.drop h0 h1 so) r' Nw.val
        · rename_i b e
          obtain ⟨o, eo, O', so, ob, q⟩ := onS_ok q'
          obtain ⟨w', e3, r'⟩ := a.st.sl i _ e
          rw [e2] at e3; cases e3
          cases (show v = .ref b from r')
          obtain ⟨z1, z2⟩ := a.st.ob b o eo
          refine kq _ O' q (.ref b) F' H' (a.drop h0 h1 so) ⟨b, rfl, z1, z2, fun z => ?_⟩ (nback fun o' p' e4 e5 => by cases e5; exact (a.no b (.inr (by rw [eo]; exact fun z => by cases z))).symm)
          rcases z with ⟨i', o2, e1, _⟩ | z
          · have e1' : ([] : List (Option SV))[i']? = some (some (.own o2)) := e1
            simp at e1'
          · exact z ob
        · exact q'.elim
    · obtain ⟨O', so, q⟩ := q
      refine ke _ O' q cls dd F' H' (a.drop h0 h1 so) er fun d e => ?_
      rcases nd d e with z | z
      · exact .inl z
      · exact .inr (h0 d z)
end
/-- f(..), f over the map -/
def dCallG (gs : GSp) (da : DA) : DE := fun S Q Ed => da S (fun xs S1 => gs xs S1.o (fun y O' => Q y ⟨S1.g, O'⟩) (fun e O' => Ed e ⟨S1.g, O'⟩)) Ed
section
variable {K : PySem.W.Frag} {F F' H H' F0 H0 : Hp} {σ σ' σ1 σ2 σ0 : L2.St} {S S' S1 S2 S0 : DSt} {F1 F2 H1 H2 : Hp} {p : Addr} {v : V} {W : WX} {O O' O1 : OM}
theorem ow0 {a : Addr} : ow [] ⟨[], O⟩ a ↔ O a ≠ none := ⟨fun z => by
    rcases z with ⟨i, o, e1, _⟩ | z
    · have e1' : ([] : List (Option SV))[i]? = some (some (.own o)) := e1
      simp at e1'
    · exact z, fun z => .inr z⟩
theorem Stt.bare (s : Stt K F H σ S) : Stt K F H [] ⟨[], S.o⟩ := ⟨s.ex, rfl, fun i x e => by simp at e, fun i j o o' p e => by simp at e, fun i o p e => by simp at e, s.ob⟩
theorem Stp.frame (s : Stt K F H σ S) (a : Stp K F H [] ⟨[], S.o⟩ F' H' [] ⟨[], O'⟩) : Stp K F H σ S F' H' σ ⟨S.g, O'⟩ := by
  have hO : ∀ q, O' q ≠ none → S.o q ≠ none ∨ H q = none := fun q z => by
    rcases a.no q (ow0.mpr z) with w | w
    · exact .inl (ow0.mp w)
    · exact .inr w
  refine ⟨a.fx, fun b o e n => a.kp b o e fun z => n (.inr (ow0.mp z)), fun b e n q => a.nf b e (fun z => n (.inr (ow0.mp z))) q, fun b z => ?_, ⟨a.st.ex, s.len, fun i x e => ?_, s.inj, fun i o q e1 e2 => ?_, a.st.ob⟩⟩
  · rcases z with z | z
    · exact .inl (.inl z)
    · rcases hO b z with w | w
      · exact .inl (.inr w)
      · exact .inr w
  · obtain ⟨u, e1, r⟩ := s.sl i x e
    refine ⟨u, e1, ?_⟩
    cases x with
    | val y => exact Rp.mono a.fx r
    | rf b => exact r
    | err b c d er => exact ⟨r.1, r.2.mono a.fx⟩
    | own o =>
      obtain ⟨q, rfl, h1, h2⟩ := r
      have nq : ¬ ow [] ⟨[], S.o⟩ q := fun z => ow0.mp z (s.sep i o q e e1)
      refine ⟨q, rfl, ?_, h2.mono a.fx fun u z => a.kp q u z nq⟩
      cases z : F' q with
      | none => rfl
      | some u => exact absurd h1 (a.nf q h2.ne nq (by rw [z]; exact fun y => by cases y))
  · cases z : O' q with
    | none => exact z
    | some u =>
      obtain ⟨_, o', h'⟩ := s.ow_some (.inl ⟨i, o, e1, e2⟩)
      rcases hO q (by rw [z]; exact fun y => by cases y) with w | w
      · exact absurd (s.sep i o q e1 e2) w
      · exact absurd w h'.ne
theorem LE.callG {gs : GSp} {ta : TA} {da : DA} (ha : LA K W ta da) : LE K W (tCallS (liftG K gs) (WE W) ta) (dCallG gs da) := fun F H σ S Q Qd Ed s hd k e =>
  ha F H σ S _ _ Ed s hd (fun vs xs F1 H1 S1 a r1 q => by
    refine ⟨F1, S1.o, xs, _, _, a.st.bare, r1, q, fun y O' hy v F' H' b tv n => ?_, fun err O' he cls dd F' H' b er nd => ?_⟩
    · have b' := Stp.frame a.st b
      refine k v y F' H' _ (a.trans b') ?_ (Nw.back a fun o p e1 e2 => ?_) hy
      · cases y with
        | val x => exact tv
        | rf b => exact tv
        | slt i => exact absurd (show ([] : L2.St)[i]? = some (some v) from tv) (by simp)
        | own o =>
          obtain ⟨p, rfl, z1, z2, z3⟩ := tv
          refine ⟨p, rfl, z1, z2, fun z => ?_⟩
          rcases z with ⟨i, o', e1, e2⟩ | z
          · obtain ⟨_, o2, h2⟩ := a.st.ow_some (.inl ⟨i, o', e1, e2⟩)
            rcases n o p rfl rfl with w | w
            · exact h2.ne w
            · exact ow0.mp w (a.st.sep i o' p e1 e2)
          · exact z3 (ow0.mpr z)
      · rcases n o p e1 e2 with w | w
        · exact .inl w
        · exact .inr (.inr (ow0.mp w))
    · exact (e.step a) cls dd err F' H' σ _ (Stp.frame a.st b) er (fun d hd => (nd d hd).imp id fun z => .inr z) he) e

/-! ### changing an object and looking into it -/
def mutC (S : DSt) (y : TV) (k : SO → (SO → DSt) → Prop) : Prop := match y with
  | .slt j => match S.g[j]? with
    | some (some (.own o)) => k o fun o' => S.put j (.own o')
    | some (some (.rf a)) => onS (S.o a) fun o => k o fun o' => ⟨S.g, updO S.o a o'⟩
    | _ => False
  | .rf a => onS (S.o a) fun o => k o fun o' => ⟨S.g, updO S.o a o'⟩
  | .val (.ref a) => onS (S.o a) fun o => k o fun o' => ⟨S.g, updO S.o a o'⟩
  | _ => False
theorem mutC_ok {y : TV} {k : SO → (SO → DSt) → Prop} (a : Stp K F0 H0 σ0 S0 F H σ S) (t : TVr K F H σ S v y) (h : mutC S y k) :
    ∃ p o put, v = .ref p ∧ HOof K F H p o ∧ k o put ∧ ∀ H' o', (∀ b, b ≠ p → H' b = H b) → HOof K F H' p o' → Stp K F0 H0 σ0 S0 F H' σ (put o') := by
  have viaO : ∀ b, (onS (S.o b) fun o => k o fun o' => ⟨S.g, updO S.o b o'⟩) → ∃ p o put, V.ref b = .ref p ∧ HOof K F H p o ∧ k o put ∧ ∀ H' o', (∀ b, b ≠ p → H' b = H b) → HOof K F H' p o' → Stp K F0 H0 σ0 S0 F H' σ (put o') := fun b h => by
    obtain ⟨o, e1, h⟩ := onS_ok h
    exact ⟨b, o, _, rfl, (a.st.ob b o e1).2, h, fun H' o' hne ho => mut_map a e1 hne ho⟩
  cases y with
  | rf b => cases (show v = .ref b from t); exact viaO b h
  | val x =>
    cases x with
    | ref b => cases t; exact viaO b h
    | _ => exact (show False from h).elim
  | own o => exact (show False from h).elim
  | slt j =>
    have e2 : σ[j]? = some (some v) := t
    have h' : (match S.g[j]? with
      | some (some (.own o)) => k o fun o' => S.put j (.own o')
      | some (some (.rf a)) => onS (S.o a) fun o => k o fun o' => ⟨S.g, updO S.o a o'⟩
      | _ => False) := h
    split at h'
    · rename_i o q
      obtain ⟨w, e4, p, rfl, h1, h2⟩ := a.st.sl j _ q
      rw [e2] at e4; cases e4
      exact ⟨p, o, _, rfl, h2, h', fun H' o' hne ho => mut_slot a q e2 hne ho⟩
    · rename_i b q
      obtain ⟨w, e4, r⟩ := a.st.sl j _ q
      rw [e2] at e4; cases e4
      cases (show v = .ref b from r)
      exact viaO b h'
    · exact h'.elim
theorem upd_off {o : HO} : ∀ b, b ≠ p → upd H p o b = H b := fun b h => upd_ne h
/-- a method of a list that changes it: the new items, the answer -/
def ML (K : PySem.W.Frag) (r : V → List V → Hp → VK → Prop) (f : List DV → List DV → Option (List DV × DV)) : Prop := ∀ F H p us xs vs as ys z (Q : VK), Same F H → H p = some (.lst us) → Rps K F us xs → Rps K F vs as → f xs as = some (ys, z) →
  (∀ ws v, Rps K F ws ys → Rp K F v z → Q v (upd H p (.lst ws))) → r (.ref p) vs H Q
def dML (f : List DV → List DV → Option (List DV × DV)) (dy : DE) (da : DA) : DE := fun S Q Ed => dy S (fun y S1 => da S1 (fun as S2 => mutC S2 y fun o put => match o with
  | .lst xs => onS (f xs as) fun r => Q (.val r.2) (put (.lst r.1))
  | _ => False) Ed) Ed
theorem ml_fin {r : V → List V → Hp → VK → Prop} {f : List DV → List DV → Option (List DV × DV)} (g : ML K r f) {y : TV} {vs : List V} {as : List DV} {Q : VK} {Qd : TV → DSt → Prop} (a : Stp K F0 H0 σ0 S0 F H σ S) (t : TVr K F H σ S v y) (ra : Rps K F vs as)
    (h : mutC S y fun o put => match o with
      | .lst xs => onS (f xs as) fun r => Qd (.val r.2) (put (.lst r.1))
      | _ => False) (k : ∀ v y F' H' S', Stp K F0 H0 σ0 S0 F' H' σ S' → TVr K F' H' σ S' v y → Nw H0 σ0 S0 v y → Qd y S' → Q v H') : (∃ p us, v = .ref p ∧ H p = some (.lst us)) ∧ r v vs H Q := by
  obtain ⟨p, o, put, rfl, ho, h, hp⟩ := mutC_ok a t h
  cases o with
  | lst xs =>
    obtain ⟨us, h1, h2⟩ := ho
    obtain ⟨⟨ys, z⟩, e, q⟩ := onS_ok h
    refine ⟨⟨p, us, rfl, h1⟩, g F H p us xs vs as ys z Q a.st.ex h1 h2 ra e fun ws v' rw' rv => ?_⟩
    exact k v' (.val z) F _ _ (hp _ (.lst ys) upd_off ⟨ws, upd_same, rw'⟩) rv Nw.val q
  | dic xs => exact (show False from h).elim
  | dit xs => exact (show False from h).elim
  | ins c fs => exact (show False from h).elim
/-- o.m(a, ..) on a list: at the receiver's evaluation it is a list already -/
theorem LE.ml {r : V → List V → Hp → VK → Prop} {f : List DV → List DV → Option (List DV × DV)} {to : TE} {ta : TA} {dy : DE} {da : DA} (g : ML K r f) (hy : LE K W to dy) (ha : LA K W ta da) :
    LE K W (fun σ H Q => to σ H fun x H1 => ta σ H1 fun xs H2 => (∃ p us, x = .ref p ∧ H2 p = some (.lst us)) ∧ r x xs H2 Q) (dML f dy da) := fun F H σ S Q Qd Ed s hd k e =>
  hy F H σ S _ _ Ed s hd (fun v y F1 H1 S1 a r1 n q => ha F1 H1 σ S1 _ _ Ed a.st q (fun vs as F2 H2 S2 b r2 q => by
    have ab := a.trans b
    exact ml_fin g ab (r1.step b) r2 q k) (e.step a)) e
def appF (xs as : List DV) : Option (List DV × DV) := match as with
  | [y] => if xs.length < sizeLine then some (xs ++ [y], .non) else none
  | _ => none
theorem ML.append : ML K rAppend appF := fun F H p us xs vs as ys z Q s hp r ra e k => by
  unfold appF at e
  split at e
  · rename_i y
    by_cases c : xs.length < sizeLine
    · rw [if_pos c] at e
      cases e
      cases ra with
      | cons r1 r2 =>
        cases r2
        exact ⟨p, us, _, rfl, rfl, hp, by rw [r.len]; exact c, k _ .non (r.append (.cons r1 .nil)) .non⟩
    · rw [if_neg c] at e; cases e
  · cases e
def popAtF (xs as : List DV) : Option (List DV × DV) := match as with
  | [.int i] => if -(2 ^ 63) ≤ i ∧ i < 2 ^ 63 then (match seqIndex? i xs.length with
    | some k => match xs[k]? with
      | some y => some (xs.eraseIdx k, y)
      | none => none
    | none => none) else none
  | _ => none
theorem ML.popAt : ML K rPopAt popAtF := fun F H p us xs vs as ys z Q s hp r ra e k => by
  unfold popAtF at e
  split at e
  · rename_i i
    by_cases c : -(2 ^ 63) ≤ i ∧ i < 2 ^ 63
    · rw [if_pos c] at e
      cases q1 : seqIndex? i xs.length with
      | none => rw [q1] at e; cases e
      | some j =>
        rw [q1] at e
        cases q2 : xs[j]? with
        | none => simp only [q2] at e; cases e
        | some y =>
          simp only [q2] at e
          cases e
          obtain ⟨u, hu, ru⟩ := r.get q2
          cases ra with
          | cons r1 r2 =>
            cases r2
            cases r1
            exact ⟨p, us, i, j, u, rfl, rfl, hp, c.1, c.2, by rw [r.len]; exact q1, hu, k _ u (r.eraseIdx j) ru⟩
    · rw [if_neg c] at e; cases e
  · cases e
/-- xs[i] = x -/
def dSetItem (dv : DX) (dy di : DE) : DS := fun S D => dv S (fun x S1 => dy S1 (fun y S2 => di S2 (fun i S3 => intK i fun k => mutC S3 y fun o put => match o with
  | .lst xs => onS (ixN xs.length k) fun j => D.nx (put (.lst (xs.set j x)))
  | _ => False) D.ex) D.ex) D.ex
theorem LS.setItem {tv ty ti : TE} {dv : DX} {dy di : DE} (hv : LX K W tv dv) (hy : LE K W ty dy) (hi : LE K W ti di) : LS K W (tAsg tv (gSub ty ti rSetL)) (dSetItem dv dy di) := fun F H σ S D Dd s hd k =>
  hv F H σ S _ _ _ s hd (fun v x F1 H1 S1 a r1 q => hy F1 H1 σ S1 _ _ _ a.st q (fun w y F2 H2 S2 b r2 n2 q => hi F2 H2 σ S2 _ _ _ b.st q (fun u i F3 H3 S3 c r3 n3 q => by
    obtain ⟨ki, rfl, q4⟩ := intK_ok q
    cases (show Rp K F3 u (.int ki) from r3)
    have abc := (a.trans b).trans c
    obtain ⟨p, o, put, rfl, ho, h, hp⟩ := mutC_ok abc (r2.step c) q4
    cases o with
    | lst xs =>
      obtain ⟨us, h1, h2⟩ := ho
      obtain ⟨j, e, q5⟩ := onS_ok h
      refine ⟨p, us, ki, j, rfl, rfl, h1, by rw [h2.len]; exact e, ?_⟩
      exact k.nx F3 _ σ _ (hp _ (.lst (xs.set j x)) upd_off ⟨_, upd_same, h2.set ((r1.mono b.fx).mono c.fx) j⟩) q5
    | dic xs => exact (show False from h).elim
    | dit xs => exact (show False from h).elim
    | ins _ _ => exact (show False from h).elim) ((k.ex.step a).step b)) (k.ex.step a)) k.ex
/-! ### walks -/
def rngD (lo : Int) (n : Nat) : List DV := (List.range n).map fun (i : Nat) => DV.int (lo + (i : Int))
theorem rngD_len {lo : Int} {n : Nat} : (rngD lo n).length = n := by unfold rngD; rw [List.length_map, List.length_range]
theorem rngD_at {lo : Int} {n i : Nat} {x : DV} (h : (rngD lo n)[i]? = some x) : i < n ∧ x = .int (lo + (i : Int)) := by
  have hl := (List.getElem?_eq_some_iff.mp h).1
  rw [rngD_len] at hl
  refine ⟨hl, ?_⟩
  unfold rngD at h
  rw [List.getElem?_map, List.getElem?_range hl] at h
  cases h; rfl
theorem wk_range {lo : Int} {n : Nat} : Wk K F (Itr lo n) (rngD lo n) := fun F2 H2 σ2 S2 s2 f2 i => by
  refine ⟨fun hi => ?_, fun x hx => ?_⟩
  · rw [rngD_len] at hi; exact Nat.le_of_eq hi.symm
  · obtain ⟨h1, rfl⟩ := rngD_at hx
    refine ⟨h1, fun v H3 hy => ?_⟩
    obtain ⟨e1, e2⟩ := hy
    subst e1 e2
    exact ⟨F2, Stp.refl s2, .int _⟩
def small62 (i : Int) : Prop := -(2 ^ 62) ≤ i ∧ i < 2 ^ 62
instance : ∀ i, Decidable (small62 i) := fun i => inferInstanceAs (Decidable (_ ∧ _))
def iR1 (d : DE) : DI := fun S Q Ed => d S (fun y S1 => intK y fun j => small62 j ∧ Q (rngD 0 j.toNat) S1) Ed
def iR2 (d d' : DE) : DI := fun S Q Ed => d S (fun y S1 => d' S1 (fun y' S2 => intK y fun i => intK y' fun j => (small62 i ∧ small62 j) ∧ Q (rngD i (j - i).toNat) S2) Ed) Ed
theorem LI.range1 {t : TE} {d : DE} (h : LE K W t d) : LI K W (iRng1 (tCons t tNil)) (iR1 d) := fun F H σ S R Qd Ed s hd k e =>
  h F H σ S _ _ Ed s hd (fun v y F1 H1 S1 a r n q => by
    obtain ⟨j, rfl, h1, q⟩ := intK_ok q
    cases (show Rp K F1 v (.int j) from r)
    exact ⟨j, rfl, h1.1, h1.2, k _ _ F1 H1 S1 a wk_range q⟩) e
theorem LI.range2 {t t' : TE} {d d' : DE} (h : LE K W t d) (h' : LE K W t' d') : LI K W (iRng2 (tCons t (tCons t' tNil))) (iR2 d d') := fun F H σ S R Qd Ed s hd k e =>
  h F H σ S _ _ Ed s hd (fun v y F1 H1 S1 a r n q => h' F1 H1 σ S1 _ _ Ed a.st q (fun v' y' F2 H2 S2 b r' n' q => by
    obtain ⟨i, ei, q⟩ := intK_ok q
    obtain ⟨j, ej, ⟨h1, h2⟩, q3⟩ := intK_ok q
    subst ei
    subst ej
    cases (show Rp K F1 v (.int i) from r)
    cases (show Rp K F2 v' (.int j) from r')
    exact ⟨i, j, rfl, ⟨h1.1, h1.2, h2.1, h2.2⟩, k _ _ F2 H2 S2 (a.trans b) wk_range q3⟩) (e.step a)) e
def rngC (i c : Int) (n : Nat) : List DV := (List.range n).map fun (j : Nat) => DV.int (i + (j : Int) * c)
/-- range(a, b, -1) -/
def iR3 (d d' d2 : DE) : DI := fun S Q Ed => d S (fun y S1 => d' S1 (fun y' S2 => d2 S2 (fun y2 S3 => intK y fun i => intK y' fun j => intK y2 fun c => (c = -1 ∧ small62 i ∧ small62 j) ∧ Q (rngC i (-1) (i - j).toNat) S3) Ed) Ed) Ed
/-- enumerate -/
def enumD (xs : List DV) : List DV := xs.zipIdx.map fun p => .tup [.int (p.2 : Nat), p.1]
def iE (d : DX) : DI := fun S Q Ed => d S (fun x S1 => onS (seqL x) fun xs => Q (enumD xs) S1) Ed
theorem enumD_at {xs : List DV} {i : Nat} {x : DV} (h : (enumD xs)[i]? = some x) : ∃ y, xs[i]? = some y ∧ x = .tup [.int (i : Nat), y] := by
  unfold enumD at h
  rw [List.getElem?_map, List.getElem?_zipIdx] at h
  cases q : xs[i]? with
  | none => rw [q] at h; cases h
  | some y => rw [q] at h; simp at h; exact ⟨y, rfl, by rw [← h]⟩
theorem LI.enum {t : TE} {d : DX} (h : LX K W t d) : LI K W (iEnum K (tCons t tNil)) (iE d) := fun F H σ S R Qd Ed s hd k e =>
  h F H σ S _ _ _ s hd (fun v x F1 H1 S1 a r q => by
    obtain ⟨xs, e1, q⟩ := onS_ok q
    obtain ⟨b, vs, rfl, h1, h2⟩ := seq_of r e1
    refine ⟨b, vs, rfl, a.st.ex.seq h1, k _ _ F1 H1 S1 a (fun F2 H2 σ2 S2 s2 f2 i => ?_) q⟩
    have hb : SqL K H2 b vs := s2.ex.seq (f2.seq h1)
    refine ⟨fun hi => ⟨vs, hb, ?_⟩, fun x hx => ?_⟩
    · rw [h2.len, hi]; unfold enumD; rw [List.length_map, List.length_zipIdx]; exact Nat.le_refl _
    · obtain ⟨y, hy, rfl⟩ := enumD_at hx
      obtain ⟨u, hu, ru⟩ := h2.get hy
      refine ⟨⟨vs, u, hb, hu⟩, fun v H3 hy => ?_⟩
      obtain ⟨T, x', rfl, hT, rfl, hx'⟩ := hy
      have := hx' vs hb
      rw [hu] at this; cases this
      have hF : F2 T = none := s2.ex.free hT
      exact ⟨_, Stp.grw s2 (Grw.newF s2.ex hT), .tup (.inl (.inl upd_same)) (.cons (.int _) (.cons ((ru.mono f2).mono (same_upd hF)) .nil))⟩) e
/-- reversed(list) -/
def iV (d : DX) : DI := fun S Q Ed => d S (fun x S1 => onS (seqL x) fun xs => Q xs.reverse S1) Ed
theorem LI.rev {t : TE} {d : DX} (h : LX K W t d) : LI K W (iRev K (tCons t tNil)) (iV d) := fun F H σ S R Qd Ed s hd k e =>
  h F H σ S _ _ _ s hd (fun v x F1 H1 S1 a r q => by
    obtain ⟨xs, e1, q⟩ := onS_ok q
    obtain ⟨b, vs, rfl, h1, h2⟩ := seq_of r e1
    refine ⟨b, vs, rfl, a.st.ex.seq h1, k _ _ F1 H1 S1 a (fun F2 H2 σ2 S2 s2 f2 i => ?_) q⟩
    have hb : SqL K H2 b vs := s2.ex.seq (f2.seq h1)
    refine ⟨fun hi => ?_, fun x hx => ?_⟩
    · rw [List.length_reverse] at hi
      show vs.length ≤ i
      rw [h2.len, hi]; exact Nat.le_refl _
    · have hi := (List.getElem?_eq_some_iff.mp hx).1
      rw [List.length_reverse] at hi
      rw [List.getElem?_reverse hi] at hx
      obtain ⟨u, hu, ru⟩ := h2.get hx
      have hu' : vs[vs.length - 1 - i]? = some u := by rw [h2.len]; exact hu
      refine ⟨⟨by rw [h2.len]; exact hi, vs, u, hb, hu'⟩, fun v H3 hy => ?_⟩
      obtain ⟨rfl, hy⟩ := hy
      have := hy vs hb
      rw [hu'] at this; cases this
      exact ⟨F2, Stp.refl s2, ru.mono f2⟩) e
/-- zip of two lists -/
def zipD (xs ys : List DV) : List DV := (xs.zip ys).map fun p => .tup [p.1, p.2]
def iZ (d d' : DX) : DI := fun S Q Ed => d S (fun x S1 => d' S1 (fun y S2 => onS (seqL x) fun xs => onS (seqL y) fun ys => Q (zipD xs ys) S2) Ed) Ed
/-! ### comprehensions -/
/-- the turns: what is made so far, the rest -/
def lcP (g : DG) (c : DT) (d : DX) (ks : List Nat) : List DV → List DV → DSt → (List DV → DSt → Prop) → Prop
  | [], acc, S, Q => Q acc S
  | x :: xs, acc, S, Q => g x S fun S1 => c S1 (fun b S2 => if b = true then d S2 (fun z S3 => acc.length < sizeLine ∧ lcP g c d ks xs (acc ++ [z]) (S3.wipe ks) Q) (fun _ _ => False) else lcP g c d ks xs acc (S2.wipe ks) Q) (fun _ _ => False)
def dLc (di : DI) (g : DG) (c : DT) (d : DX) (ks : List Nat) : DE := fun S Q Ed => di S (fun xs S1 => lcP g c d ks xs [] (S1.wipe ks) fun acc S2 => Q (.own (.lst acc)) S2) Ed
def dYes : DT := fun S Q _ => Q true S
theorem LT.yes : LT K W tYes dYes := fun F H σ S Q Qd Ed s hd k e => k true F H S (Stp.refl s) hd
abbrev W0 : WX := fun _ _ _ _ => False
/-- the target stays within the comprehension's own slots -/
def GW (g : TG) (vs : List Nat) : Prop := ∀ v σ H (Q : L2.St → Hp → Prop), (g v (L2.wipe σ vs) H fun σ2 H2 => L2.wipe σ2 vs = L2.wipe σ vs → Q σ2 H2) → g v (L2.wipe σ vs) H fun σ2 H2 => L2.wipe σ2 vs = L2.wipe σ vs ∧ Q σ2 H2
theorem wipeV_at {σ : L2.St} {vs : List Nat} {j : Nat} : (L2.wipe σ vs)[j]? = if j ∈ vs ∧ j < σ.length then some none else σ[j]? := by
  induction vs with
  | nil => simp [L2.wipe]
  | cons k vs ih =>
    show ((L2.wipe σ vs).set k none)[j]? = _
    by_cases hj : j = k
    · subst hj
      by_cases hl : j < σ.length
      · rw [List.getElem?_set_self (by rw [L2.wipe_length]; exact hl), if_pos ⟨List.mem_cons_self, hl⟩]
      · rw [List.getElem?_eq_none (by rw [List.length_set, L2.wipe_length]; omega), if_neg (fun z => hl z.2), List.getElem?_eq_none (by omega)]
    · rw [List.getElem?_set_ne (Ne.symm hj), ih]
      by_cases hm : j ∈ vs
      · by_cases hl : j < σ.length
        · rw [if_pos ⟨hm, hl⟩, if_pos ⟨List.mem_cons_of_mem _ hm, hl⟩]
        · rw [if_neg (fun z => hl z.2), if_neg (fun z => hl z.2)]
      · rw [if_neg (fun z => hm z.1), if_neg (fun z => by
          rcases List.mem_cons.mp z.1 with y | y
          · exact hj y
          · exact hm y)]
theorem wipeV_set {σ : L2.St} {vs : List Nat} {i : Nat} {x : Option V} (h : i ∈ vs) : L2.wipe ((L2.wipe σ vs).set i x) vs = L2.wipe σ vs := by
  apply List.ext_getElem?
  intro j
  rw [wipeV_at, wipeV_at, List.length_set, L2.wipe_length]
  by_cases c : j ∈ vs ∧ j < σ.length
  · rw [if_pos c, if_pos c]
  · rw [if_neg c, if_neg c]
    by_cases hji : j = i
    · subst hji
      have hl : ¬ j < σ.length := fun z => c ⟨h, z⟩
      rw [List.getElem?_eq_none (by rw [List.length_set, L2.wipe_length]; omega), List.getElem?_eq_none (by omega)]
    · rw [List.getElem?_set_ne (Ne.symm hji), wipeV_at, if_neg c]
theorem GW.name {i : Nat} {vs : List Nat} (h : i ∈ vs) : GW (gName i) vs := fun v σ H Q q => ⟨wipeV_set h, q (wipeV_set h)⟩
theorem GW.two {K : PySem.W.Frag} {n i j : Nat} {vs : List Nat} (h : i ∈ vs) (h' : j ∈ vs) : GW (gTup K n (gCons (gName i) (gCons (gName j) gNil))) vs := fun v σ H Q q => by
  obtain ⟨a, xs, e1, e2, e3, x, r, e4, y, r', e5, e6, q⟩ := q
  have w1 : ∀ {τ : L2.St} {k : Nat} {z : Option V}, k ∈ vs → L2.wipe (τ.set k z) vs = L2.wipe τ vs := fun {τ k z} hk => by
    apply List.ext_getElem?
    intro m
    rw [wipeV_at, wipeV_at, List.length_set]
    by_cases c : m ∈ vs ∧ m < τ.length
    · rw [if_pos c, if_pos c]
    · rw [if_neg c, if_neg c]
      by_cases hm : m = k
      · subst hm
        have hl : ¬ m < τ.length := fun z => c ⟨hk, z⟩
        rw [List.getElem?_eq_none (by rw [List.length_set]; omega), List.getElem?_eq_none (by omega)]
      · rw [List.getElem?_set_ne (Ne.symm hm)]
  have w2 : L2.wipe (((L2.wipe σ vs).set i (some x)).set j (some y)) vs = L2.wipe σ vs := by
    rw [w1 h', w1 h]
    apply List.ext_getElem?
    intro m
    rw [wipeV_at, L2.wipe_length]
    by_cases c : m ∈ vs ∧ m < σ.length
    · rw [if_pos c, wipeV_at, if_pos c]
    · rw [if_neg c]
  exact ⟨a, xs, e1, e2, e3, x, r, e4, y, r', e5, e6, w2, q w2⟩
theorem wipeS_none {ks : List Nat} : ∀ {g : List (Option SV)} {j : Nat}, j ∈ ks → (ks.foldl (fun g i => g.set i none) g)[j]? ≠ none → (ks.foldl (fun g i => g.set i none) g)[j]? = some none := by
  induction ks with
  | nil => intro g j h; cases h
  | cons k ks ih =>
    intro g j h hn
    by_cases hm : j ∈ ks
    · exact ih (g := g.set k none) hm hn
    · have hj : j = k := (List.mem_cons.mp h).resolve_right hm
      subst hj
      have stay : ∀ (g : List (Option SV)), (ks.foldl (fun g i => g.set i none) g)[j]? = g[j]? := by
        clear ih hn h
        induction ks with
        | nil => intro g; rfl
        | cons l ls ih2 =>
          intro g
          show (ls.foldl _ (g.set l none))[j]? = _
          rw [ih2 (fun z => hm (List.mem_cons_of_mem _ z)), List.getElem?_set_ne (fun z => hm (by rw [z]; exact List.mem_cons_self))]
      have e : (List.foldl (fun g i => g.set i none) g (j :: ks))[j]? = (g.set j none)[j]? := stay (g.set j none)
      rw [e] at hn ⊢
      by_cases hl : j < g.length
      · rw [List.getElem?_set_self hl]
      · exact absurd (List.getElem?_eq_none (by rw [List.length_set]; omega)) hn
/-- the same state over slots that differ where nothing is known -/
def Agr (σ σ' : L2.St) (S : DSt) : Prop := σ.length = σ'.length ∧ ∀ (i : Nat) x, S.g[i]? = some (some x) → σ[i]? = σ'[i]?
theorem Agr.sym (h : Agr σ σ' S) : Agr σ' σ S := ⟨h.1.symm, fun i x e => (h.2 i x e).symm⟩
theorem Agr.ow (h : Agr σ σ' S) {p : Addr} (o : ow σ S p) : ow σ' S p := by
  rcases o with ⟨i, o, e1, e2⟩ | o
  · exact .inl ⟨i, o, e1, by rw [← h.2 i _ e1]; exact e2⟩
  · exact .inr o
theorem Agr.stt (h : Agr σ σ' S) (s : Stt K F H σ S) : Stt K F H σ' S :=
  ⟨s.ex, s.len.trans h.1, fun i x e => by rw [← h.2 i x e]; exact s.sl i x e, fun i j o o' p e1 e2 e3 e4 => s.inj i j o o' p e1 e2 (by rw [h.2 i _ e1]; exact e3) (by rw [h.2 j _ e2]; exact e4), fun i o p e1 e2 => s.sep i o p e1 (by rw [h.2 i _ e1]; exact e2), s.ob⟩
theorem Stp.agr (a : Stp K F H σ S F' H' σ1 S') (h : Agr σ σ' S) (h' : Agr σ1 σ2 S') : Stp K F H σ' S F' H' σ2 S' :=
  ⟨a.fx, fun b o e n => a.kp b o e fun z => n (h.ow z), fun b e n q => a.nf b e (fun z => n (h.ow z)) q, fun b z => (a.no b (h'.sym.ow z)).imp h.ow id, h'.stt a.st⟩
theorem agr_wipe {vs : List Nat} : Agr (L2.wipe σ vs) σ (S.wipe vs) := by
  refine ⟨L2.wipe_length σ vs, fun i x e => ?_⟩
  have e' : (vs.foldl (fun g i => g.set i none) S.g)[i]? = some (some x) := e
  rw [wipeV_at, if_neg]
  rintro ⟨h, _⟩
  have := wipeS_none (g := S.g) h (by rw [e']; exact fun z => by cases z)
  rw [e'] at this; cases this
/-- a hidden object of ours changes -/
theorem Stp.hid {u : HO} (a : Stp K F0 H0 σ0 S0 F H σ S) (h0 : H0 p = none) (hF : F p = none) (hn : ¬ ow σ S p) : Stp K F0 H0 σ0 S0 F (upd H p u) σ S := by
  have hop : S.o p = none := by
    cases e : S.o p with
    | none => rfl
    | some so => exact absurd (.inr (by rw [e]; exact fun z => by cases z)) hn
  refine ⟨a.fx, fun b o e n => ?_, a.nf, a.no, ⟨fun b o e => ?_, a.st.len, fun i x e => ?_, a.st.inj, a.st.sep, fun b so e => ?_⟩⟩
  · rw [upd_ne (fun z => by rw [z, h0] at e; cases e)]; exact a.kp b o e n
  · rw [upd_ne (fun z => by rw [z, hF] at e; cases e)]; exact a.st.ex b o e
  · obtain ⟨w, e1, r⟩ := a.st.sl i x e
    refine ⟨w, e1, ?_⟩
    cases x with
    | val y => exact r
    | rf b => exact r
    | err b c d er => exact r
    | own o =>
      obtain ⟨q, rfl, h1, h2⟩ := r
      have hq : q ≠ p := fun z => hn (.inl ⟨i, o, e, by rw [e1, z]⟩)
      exact ⟨q, rfl, h1, h2.mono (Same.refl F) fun w z => by rw [upd_ne hq]; exact z⟩
  · obtain ⟨h1, h2⟩ := a.st.ob b so e
    have hb : b ≠ p := fun z => by rw [z, hop] at e; cases e
    exact ⟨h1, h2.mono (Same.refl F) fun w z => by rw [upd_ne hb]; exact z⟩
theorem ExL.no {F H : Hp} {σ : L2.St} {S : DSt} : ExL K W0 F H σ S (fun _ _ => False) := fun _ _ _ _ _ _ _ _ _ _ h => h
theorem LE.lc {wi : TI} {di : DI} {g : TG} {dg : DG} {tt : TT} {dt : DT} {te : TE} {dx : DX} {vs : List Nat} (hi : LI K W wi di) (hg : LG K g dg) (gw : GW g vs) (ht : LT K W0 tt dt) (he : LX K W0 te dx) :
    LE K W (tLc wi g tt te vs) (dLc di dg dt dx vs) := fun F H σ S Q Qd Ed s hd k e => by
  refine hi F H σ S _ _ _ s hd (fun J xs F1 H1 S1 a w q => ?_) e
  intro D hD
  have s1 : Stp K F1 H1 σ S1 F1 H1 σ (S1.wipe vs) := Stp.wipe vs a.st
  have ag : ∀ {S : DSt}, Agr (L2.wipe σ vs) σ (S.wipe vs) := agr_wipe
  have b0 : Stp K F1 H1 (L2.wipe σ vs) (S1.wipe vs) F1 H1 (L2.wipe σ vs) (S1.wipe vs) := Stp.refl (ag.sym.stt s1.st)
  have hF1 : F1 D = none := a.st.ex.free hD
  have now : ∀ {F2 H2 : Hp} {σ2 : L2.St} {S2 : DSt}, Stp K F1 H1 (L2.wipe σ vs) (S1.wipe vs) F2 H2 σ2 S2 → True := fun _ => trivial
  have nD : ¬ ow (L2.wipe σ vs) (S1.wipe vs) D := fun z => by
    obtain ⟨_, o, h⟩ := (ag.sym.stt s1.st).ow_some z
    exact h.ne hD
  refine ⟨fun i m H2 => i ≤ xs.length ∧ m = xs.length - i ∧ ∃ F2 S2 acc, Stp K F1 H1 (L2.wipe σ vs) (S1.wipe vs) F2 H2 (L2.wipe σ vs) (DSt.wipe S2 vs) ∧ TVr K F2 H2 (L2.wipe σ vs) (DSt.wipe S2 vs) (.ref D) (.own (.lst acc)) ∧
    lcP dg dt dx vs (xs.drop i) acc (DSt.wipe S2 vs) fun acc S2 => Qd (.own (.lst acc)) S2, ⟨xs.length, Nat.zero_le _, by simp, F1, S1, [], b0.hid hD hF1 nD, ⟨D, rfl, hF1, ⟨[], upd_same, .nil⟩, nD⟩, by simpa using q⟩, ?_⟩
  rintro i m H2 ⟨hil, rfl, F2, S2, acc, b, tv, q⟩
  obtain ⟨w1, w2⟩ := w F2 H2 _ _ b.st b.fx i
  obtain ⟨D', eD, hFD, ⟨us, hDu, ru⟩, hnD⟩ := id tv
  cases eD
  by_cases hlt : i < xs.length
  · obtain ⟨w3, w4⟩ := w2 xs[i] (List.getElem?_eq_getElem hlt)
    refine .inr ⟨w3, fun H3 => ∃ F3 S3 acc, Stp K F1 H1 (L2.wipe σ vs) (S1.wipe vs) F3 H3 (L2.wipe σ vs) (DSt.wipe S3 vs) ∧ TVr K F3 H3 (L2.wipe σ vs) (DSt.wipe S3 vs) (.ref D) (.own (.lst acc)) ∧
      lcP dg dt dx vs (xs.drop (i + 1)) acc (DSt.wipe S3 vs) fun acc S2 => Qd (.own (.lst acc)) S2, fun H3 ⟨F3, S3, acc3, c, t3, q3⟩ => ⟨_, by omega, by omega, rfl, F3, S3, acc3, c, t3, q3⟩, fun v H3 hy => ?_⟩
    obtain ⟨F3, c, r⟩ := w4 v H3 hy
    rw [List.drop_eq_getElem_cons hlt] at q
    refine gw v σ H3 _ (hg F3 H3 _ _ v _ _ _ c.st r q fun F4 H4 σ4 S4 d q4 hw => ?_)
    have bcd := (b.trans c).trans d
    have cd := c.trans d
    have tv4 : TVr K F4 H4 σ4 S4 (.ref D) (.own (.lst acc)) := by
      refine ⟨D, rfl, ?_, ⟨us, cd.kp D _ hDu hnD, ru.mono cd.fx⟩, fun z => ?_⟩
      · cases e1 : F4 D with
        | none => rfl
        | some u => exact absurd hFD (cd.nf D (by rw [hDu]; exact fun y => by cases y) hnD (by rw [e1]; exact fun y => by cases y))
      · rcases cd.no D z with y | y
        · exact hnD y
        · rw [hDu] at y; cases y
    -- back to the wiped slots
    have back : ∀ {F6 H6 : Hp} {S6 : DSt}, Stp K F1 H1 (L2.wipe σ vs) (S1.wipe vs) F6 H6 σ4 S6 → Stp K F1 H1 (L2.wipe σ vs) (S1.wipe vs) F6 H6 (L2.wipe σ vs) (S6.wipe vs) := fun {F6 H6 S6} g6 => by
      have g7 := g6.trans (Stp.wipe vs g6.st)
      have g8 := g7.agr ⟨rfl, fun _ _ _ => rfl⟩ (agr_wipe (σ := σ4) (S := S6) (vs := vs)).sym
      rw [hw] at g8
      exact g8
    have tback : ∀ {F6 H6 : Hp} {S6 : DSt} {xs6 : List DV}, TVr K F6 H6 σ4 S6 (.ref D) (.own (.lst xs6)) → TVr K F6 H6 (L2.wipe σ vs) (S6.wipe vs) (.ref D) (.own (.lst xs6)) := fun {F6 H6 S6 xs6} t6 => by
      obtain ⟨D', eD, h1, h2, h3⟩ := t6
      cases eD
      refine ⟨D, rfl, h1, h2, fun z => h3 ?_⟩
      rw [← hw] at z
      have z2 := (agr_wipe (σ := σ4) (S := S6) (vs := vs)).ow z
      rcases z2 with ⟨j, o, e1, e2⟩ | z2
      · exact .inl ⟨j, o, wipe_get e1, e2⟩
      · exact .inr z2
    refine ht F4 H4 σ4 S4 _ _ _ d.st q4 (fun t F5 H5 S5 f q5 => ?_) ExL.no
    have tv5 := tv4.step f
    have bf := bcd.trans f
    cases t with
    | false =>
      exact ⟨F5, S5, acc, back bf, tback tv5, q5⟩
    | true =>
      refine he F5 H5 σ4 S5 _ _ _ f.st q5 (fun y z F6 H6 S6 g6 rz q6 => ?_) ExL.no
      obtain ⟨q6, q7⟩ := q6
      have tv6 := tv5.step g6
      obtain ⟨D', eD, hF6, ⟨us6, hD6, ru6⟩, hn6⟩ := tv6
      cases eD
      have bg := (bf.trans g6).hid (p := D) (u := .lst (us6 ++ [y])) hD hF6 hn6
      exact ⟨us6, hD6, by rw [ru6.len]; exact q6, F6, S6, acc ++ [z], back bg, tback ⟨D, rfl, hF6, ⟨_, upd_same, ru6.append (.cons rz .nil)⟩, hn6⟩, q7⟩
  · have hi' : i = xs.length := by omega
    refine .inl ⟨w1 hi', ?_⟩
    rw [List.drop_eq_nil_of_le (by omega)] at q
    have g1 := b.agr (agr_wipe (σ := σ) (S := S1) (vs := vs)) (agr_wipe (σ := σ) (S := S2) (vs := vs))
    have g2 := (a.trans s1).trans g1
    refine k (.ref D) (.own (.lst acc)) F2 H2 _ g2 ⟨D, rfl, hFD, ⟨us, hDu, ru⟩, fun z => hnD ((agr_wipe (σ := σ) (S := S2) (vs := vs)).sym.ow z)⟩ (fun o p e1 e2 => ?_) q
    cases e2
    exact a.newb (.inl hD)
end
end L3

/-! L3g: the rules' short names for the printed derivations. -/
namespace L3
open PySem PySem.Spec PyProof.Rows L2
def CMulA (i j : Int) : Prop := CMul i j ∨ CMulW i j
instance : ∀ i j, Decidable (CMul i j) := fun i j => inferInstanceAs (Decidable (_ ∨ _))
instance : ∀ i j, Decidable (CMulA i j) := fun i j => inferInstanceAs (Decidable (_ ∨ _))
section
variable {X : Cx}
theorem op_mulA : OpR X (binaryOp .Mult) (rI CMulA fun i j => .int (i * j)) := opI fun _ _ _ _ _ _ _ hc q => mul_int q (hc.elim CMul.ok CMulW.ok)
theorem iop_mulA : OpR X (inplaceOp .Mult) (rI CMulA fun i j => .int (i * j)) := opI fun _ _ _ _ _ _ _ hc q => imul_int q (hc.elim CMul.ok CMulW.ok)
theorem opA_add : OpR X (binaryOp .Add) rAddA := op_add.or (op_add_str.or op_cat)
abbrev rMulB : R2 := fun x y H Q => (rI CMulA fun i j => .int (i * j)) x y H Q ∨ rRep x y H Q
theorem opA_mul : OpR X (binaryOp .Mult) rMulB := op_mulA.or op_rep
theorem opA_eq {k : Nat} (hr : Room k X.A) : OpR X (compareOp .Eq) (rEqA X.K) := op_eq.or (op_eqD hr.units)
theorem opA_ne {k : Nat} (hr : Room k X.A) : OpR X (compareOp .NotEq) (rNeA X.K) := op_ne.or (op_neD hr.units)
theorem room65 {k : Nat} (hr : Room k X.A) : X.A.units + 65 < cLine := by have := hr.un; omega
theorem opA_in {k : Nat} (hr : Room k X.A) : OpR X (compareOp .In) (rInD X.K) := op_inD (room65 hr)
theorem opA_notin {k : Nat} (hr : Room k X.A) : OpR X (compareOp .NotIn) (rNotInD X.K) := op_notInD (room65 hr)
theorem ip_of {op : Operator} {r : R2} (h : OpR X (inplaceOp op) r) : PIp X op r := fun pins s σ H x y v u Q I r1 r2 q => h pins s σ H x y v u Q I r1 r2 q
end
section
variable {K : PySem.W.Frag} {F F' H H' F0 H0 : Hp} {σ σ' σ1 σ2 σ0 : L2.St} {S S' S1 S2 S0 : DSt} {F1 F2 H1 H2 : Hp} {p : Addr} {v : V} {W : WX}
def mulB : DV → DV → Option TV := fun x y => match x with
  | .int _ => iiI CMulA (fun i j => i * j) x y
  | _ => repF x y
theorem G2.mulB : G2 K rMulB mulB := fun F H v w x y z Q s rx ry e R => by
  cases x with
  | int i => exact .inl (G2.iiI F H v w _ y z Q s rx ry e R)
  | _ => exact .inr (G2.rep F H v w _ y z Q s rx ry e R)
def negF (x : DV) : Option TV := match x with
  | .int i => some (.val (.int (-i)))
  | _ => none
theorem G1.neg : G1 K (rU fun i => .int (-i)) negF := fun F H v x z Q s r e R => by
  cases x <;> first | (cases e; done) | skip
  cases e
  exact ⟨_, r.int, Res.here R s (.int _)⟩
/-- in-place: ints -/
def vI (g : Int → Int → Int) (x y : DV) : Option DV := match x, y with
  | .int i, .int j => some (.int (g i j))
  | _, _ => none
def vIC (C : Int → Int → Prop) [∀ i j, Decidable (C i j)] (g : Int → Int → Int) (x y : DV) : Option DV := match x, y with
  | .int i, .int j => if C i j then some (.int (g i j)) else none
  | _, _ => none
theorem GV.ii {g : Int → Int → Int} : GV K (rI0 fun i j => .int (g i j)) (vI g) := fun F H v w x y z Q s rx ry e R => by
  cases x <;> first | (cases e; done) | skip
  cases y <;> first | (cases e; done) | skip
  cases e
  exact ⟨_, _, rx.int, ry.int, R _ (.int _)⟩
theorem GV.iic {C : Int → Int → Prop} [∀ i j, Decidable (C i j)] {g : Int → Int → Int} : GV K (rI C fun i j => .int (g i j)) (vIC C g) := fun F H v w x y z Q s rx ry e R => by
  cases x <;> first | (cases e; done) | skip
  cases y <;> first | (cases e; done) | skip
  rename_i i j
  have e' : (if C i j then some (DV.int (g i j)) else none) = some z := e
  by_cases c : C i j
  · rw [if_pos c] at e'
    cases e'
    exact ⟨i, j, rx.int, ry.int, c, R _ (.int _)⟩
  · rw [if_neg c] at e'; cases e'
/-! ### methods of a list that change it -/
def isLst (S : DSt) (y : TV) : Prop := mutC S y fun o _ => match o with
  | .lst _ => True
  | _ => False
def dBM (f : List DV → List DV → Option (List DV × DV)) (dy : DE) (da : DA) : DE := fun S Q Ed => dy S (fun y S1 => isLst S1 y ∧ da S1 (fun as S2 => mutC S2 y fun o put => match o with
  | .lst xs => onS (f xs as) fun r => Q (.val r.2) (put (.lst r.1))
  | _ => False) Ed) Ed
theorem isLst_ok {y : TV} (s : Stt K F H σ S) (t : TVr K F H σ S v y) (h : isLst S y) : ∃ p us, v = .ref p ∧ H p = some (.lst us) := by
  obtain ⟨p, o, put, rfl, ho, h, _⟩ := mutC_ok (Stp.refl s) t h
  cases o with
  | lst xs => obtain ⟨us, h1, _⟩ := ho; exact ⟨p, us, rfl, h1⟩
  | dic xs => exact (show False from h).elim
  | dit xs => exact (show False from h).elim
  | ins c fs => exact (show False from h).elim
theorem LE.bm {r : V → List V → Hp → VK → Prop} {f : List DV → List DV → Option (List DV × DV)} {to : TE} {ta : TA} {dy : DE} {da : DA} (g : ML K r f) (hy : LE K W to dy) (ha : LA K W ta da) :
    LE K W (tBM K "list" r to ta) (dBM f dy da) := fun F H σ S Q Qd Ed s hd k e =>
  hy F H σ S _ _ Ed s hd (fun v y F1 H1 S1 a r1 n ⟨l, q⟩ => by
    obtain ⟨p, us, e1, e2⟩ := isLst_ok a.st r1 l
    refine ⟨by rw [e1]; exact .inl ⟨rfl, us, .inl (.inl e2)⟩, ha F1 H1 σ S1 _ _ Ed a.st q (fun vs as F2 H2 S2 b r2 q2 => ?_) (e.step a)⟩
    exact (ml_fin g (a.trans b) (r1.step b) r2 q2 k).2) e
end
section
variable {K : PySem.W.Frag} {F F' H H' F0 H0 : Hp} {σ σ' σ1 σ2 σ0 : L2.St} {S S' S1 S2 S0 : DSt} {F1 F2 H1 H2 : Hp} {p : Addr} {v : V} {W : WX}
/-! ### a fresh object enters the map -/
def mapK (S : DSt) (y : TV) (Q : DV → DSt → Prop) : Prop := match y with
  | .val x => Q x S
  | .rf a => Q (.ref a) S
  | .own o => ∀ p, S.o p = none → Q (.ref p) ⟨S.g, updO S.o p o⟩
  | .slt i => match S.g[i]? with
    | some (some (.own o)) => ∀ p, S.o p = none → Q (.ref p) ⟨S.g.set i (some (.rf p)), updO S.o p o⟩
    | some (some (.rf a)) => Q (.ref a) S
    | _ => False
/-- a slot's own object enters the map -/
theorem slot_map {o : SO} {i : Nat} (a : Stp K F0 H0 σ0 S0 F H σ S) (e : S.g[i]? = some (some (.own o))) (e2 : σ[i]? = some (some (.ref p))) : Stp K F0 H0 σ0 S0 F H σ ⟨S.g.set i (some (.rf p)), updO S.o p o⟩ := by
  have s := a.st
  obtain ⟨v, e3, q, rfl, h1, h2⟩ := s.sl i _ e
  rw [e2] at e3; cases e3
  have hi : i < S.g.length := (List.getElem?_eq_some_iff.mp e).1
  have back : ∀ (j : Nat) y, (S.g.set i (some (SV.rf p)))[j]? = some (some y) → (j = i ∧ y = .rf p) ∨ (j ≠ i ∧ S.g[j]? = some (some y)) := fun j y h => by
    by_cases hj : j = i
    · subst hj
      rw [List.getElem?_set_self hi] at h
      cases h
      exact .inl ⟨rfl, rfl⟩
    · rw [List.getElem?_set_ne (Ne.symm hj)] at h
      exact .inr ⟨hj, h⟩
  have own_p : ow σ S p := .inl ⟨i, o, e, e2⟩
  refine ⟨a.fx, a.kp, a.nf, fun b h => ?_, ⟨s.ex, ?_, fun j y h => ?_, fun j l o1 o2 q z1 z2 z3 z4 => ?_, fun j o1 q z1 z2 => ?_, fun b so h => ?_⟩⟩
  · rcases h with ⟨j, o1, z1, z2⟩ | h
    · rcases back j _ z1 with ⟨_, z⟩ | ⟨_, z⟩
      · cases z
      · exact a.no b (.inl ⟨j, o1, z, z2⟩)
    · by_cases hb : b = p
      · rw [hb]; exact a.no p own_p
      · have h' : updO S.o p o b ≠ none := h
        rw [updO_ne hb] at h'
        exact a.no b (.inr h')
  · show (S.g.set i _).length = _
    rw [List.length_set]; exact s.len
  · rcases back j y h with ⟨rfl, rfl⟩ | ⟨_, z⟩
    · exact ⟨.ref p, e2, rfl⟩
    · exact s.sl j y z
  · rcases back j _ z1 with ⟨_, z⟩ | ⟨_, y1⟩
    · cases z
    · rcases back l _ z2 with ⟨_, z⟩ | ⟨_, y2⟩
      · cases z
      · exact s.inj j l o1 o2 q y1 y2 z3 z4
  · rcases back j _ z1 with ⟨_, z⟩ | ⟨hne, y1⟩
    · cases z
    · have hq : q ≠ p := fun w => hne (s.inj j i o1 o q y1 e z2 (by rw [e2, w]))
      show updO S.o p o q = none
      rw [updO_ne hq]; exact s.sep j o1 q y1 z2
  · have h' : updO S.o p o b = some so := h
    by_cases hb : b = p
    · subst hb; rw [updO_same] at h'; cases h'; exact ⟨h1, h2⟩
    · rw [updO_ne hb] at h'; exact s.ob b so h'
def dMap (d : DE) : DX := fun S Q Ed => d S (fun y S1 => mapK S1 y Q) Ed
theorem LE.map {t : TE} {d : DE} (h : LE K W t d) : LX K W t (dMap d) := fun F H σ S Q Qd Ed s hd k e =>
  h F H σ S Q _ Ed s hd (fun v y F' H' S' a r n q => by
    cases y with
    | val x => exact k v x F' H' S' a r q
    | rf b => cases (show v = .ref b from r); exact k _ (.ref b) F' H' S' a (.ref b) q
    | own o =>
      obtain ⟨p, rfl, h1, h2, h3⟩ := r
      have hop : S'.o p = none := by
        cases e : S'.o p with
        | none => rfl
        | some so => exact absurd (.inr (by rw [e]; exact fun z => by cases z)) h3
      exact k _ (.ref p) F' H' _ (to_map a h1 h2 h3 (n o p rfl rfl)) (.ref p) (q p hop)
    | slt i =>
      have e2 : σ[i]? = some (some v) := r
      have q' : (match S'.g[i]? with
        | some (some (.own o)) => ∀ p, S'.o p = none → Qd (.ref p) ⟨S'.g.set i (some (.rf p)), updO S'.o p o⟩
        | some (some (.rf a)) => Qd (.ref a) S'
        | _ => False) := q
      split at q'
      · rename_i o e
        obtain ⟨w, e3, p, rfl, h1, h2⟩ := a.st.sl i _ e
        rw [e2] at e3; cases e3
        exact k _ (.ref p) F' H' _ (slot_map a e e2) (.ref p) (q' p (a.st.sep i o p e e2))
      · rename_i b e
        obtain ⟨w, e3, r2⟩ := a.st.sl i _ e
        rw [e2] at e3; cases e3
        cases (show v = .ref b from r2)
        exact k _ (.ref b) F' H' S' a (.ref b) q'
      · exact q'.elim) e
/-! ### a promise that nobody calls -/
theorem fn_noP {P : Program} {w : World} {mg : Str → Option Value} {base : Heap} {CX : CXT} {k : Nat} {f : Addr} {fd : FuncData} {ps : List Str} {sp : PSp} (h : ∀ xs Q E, ¬ sp xs Q E) : FnOk P w K mg base CX k f fd ps (liftP K sp) :=
  ⟨fun vs H Q E ⟨_, _, _, _, _, _, z, _⟩ => absurd z (h _ _ _), fun A outer s H args us vs Q E _ _ _ _ ⟨_, _, _, _, _, _, z, _⟩ => absurd z (h _ _ _)⟩
theorem fn_noG {P : Program} {w : World} {mg : Str → Option Value} {base : Heap} {CX : CXT} {k : Nat} {f : Addr} {fd : FuncData} {ps : List Str} {sp : GSp} (h : ∀ xs O Q E, ¬ sp xs O Q E) : FnOk P w K mg base CX k f fd ps (liftG K sp) :=
  ⟨fun vs H Q E ⟨_, _, _, _, _, _, _, z, _⟩ => absurd z (h _ _ _ _), fun A outer s H args us vs Q E _ _ _ _ ⟨_, _, _, _, _, _, _, z, _⟩ => absurd z (h _ _ _ _)⟩
end
/-! ### a def that is called -/
structure Cal (P : Program) (w : World) (K : PySem.W.Frag) (mg : Str → Option Value) (base : Heap) (k : Nat) (x : Str) (ps : List Str) (sp : Sp) : Prop where
  ex : ∃ fd, FnOk P w K mg base (L2.CX P w) k (He.ga K x) fd ps sp ∧ Binds K fd ps []
  g : mg x = some (.ref (He.ga K x))
  kp : PySem.W.keepIn K (.ref (He.ga K x)) = true
section
variable {X : Cx} {W : WX} {k j : Nat} {x : Str} {ps : List Str} {sp : Sp} {e : Expr} {es : List Expr} {t : TA} {p pos : Pos}
theorem pe_cal (c : Cal X.prog X.w X.K X.mg X.base k x ps sp) (hr : Room j X.A) (tk : Takes X W) (ha : PA X (e :: es) t) (hk : k ≤ j := by first | decide | omega) (hg : Gl X x := by rfl) (hdb : (x == ("__debug__" : Str)) = false := by decide)
    (he : starEach (e :: es) X.env = (false, eval e X.env) :: starEach es X.env := by rfl) (hpl : (backTo pos (starEach es X.env)).any (·.1) = false := by rfl) :
    PE X (.Call (.Name x p) (e :: es) [] pos) (tCallS sp (WE W) t) := by
  obtain ⟨fd, F, b⟩ := c.ex
  exact pe_callS F (hr.mono hk) hg c.g c.kp b (fun σ => passAt tk σ) ha hdb he hpl
theorem pe_cal0 (c : Cal X.prog X.w X.K X.mg X.base k x ps sp) (hr : Room j X.A) (tk : Takes X W) (hk : k ≤ j := by first | decide | omega) (hg : Gl X x := by rfl) (hdb : (x == ("__debug__" : Str)) = false := by decide) :
    PE X (.Call (.Name x p) [] [] pos) (tCallS sp (WE W) tNil) := by
  obtain ⟨fd, F, b⟩ := c.ex
  refine ⟨fun pins s σ H Q I h => ?_⟩
  refine wpAny_Call_Name_kw (ld_glob I hg c.g ?_ hdb)
  exact PySem.W.callWith_K0 I.kIn c.kp (run_fnS (us := []) F (hr.mono hk) b (passAt tk σ) I .nil h)
end
/-! ### a law's end -/
theorem walk_ofX {l : PySem.W.OpenLaw} {n k : Nat} {q : Program} {loose : List Str} {XP : (Str → Option Value) → Heap → Prop} {YP : World → Heap → Prop} {d : DefRec} {CX : World → CXT} {x : Str}
    (hn : l.most = some n) (hn2 : n ≤ sizeLine) (hdf : d.params.defaults = []) (hr : Room k callerA)
    (F : ∀ (w : World) (mg : Str → Option Value) (fa : Addr) (h : Heap), YP w h → h.Ns mainGlobals mg → mg d.name = some (.ref fa) →
      ∃ (K : PySem.W.Frag) (fd : FuncData) (sp : Sp), K.In h ∧ (∀ (s : Shared) (u : Value), BindsTo s fd ⟨[u], []⟩ [(x, u)]) ∧
        (∀ (H : Hp) (a : Addr) (ns : List Int), ns.length ≤ n → Only H → SqL K H a (ns.map V.int) → sp [.ref a] H (fun v _ => v = .bl true) fun _ _ _ => False) ∧
        ∀ base : Heap, K.In base → base.Ns mainGlobals mg → FnOk l.prog w K mg base (CX w) k fa fd [x] sp)
    (hCX : ∀ (w : World) (H : Hp) (s : Shared) (e : Value) (s' : Shared), CX w [] H s (fun _ _ _ => False) e s' → False) :
    PySem.W.WalkO q loose XP YP l.row.toRowW d [] (fun f vs => PySem.call f vs) := by
  refine Att.attach_call hn hdf fun w s₀ s₁ mg mb fa o pm cd doc a vs ns G Y ho hd hcd hmg hobj hints hlen hg => ?_
  obtain ⟨K, fd, sp, KX, hb, hsp, hF⟩ := F w mg fa _ Y G.T.g hmg
  exact law_call KX G.T.g G.T.b G.T.builtins G.T.nolimit hg hobj hints (Nat.le_trans hlen hn2) hr hF hb (fun H hO hS => hsp H a ns hlen hO hS) fun H e s' => hCX w H s₁ e s'
/-- the law's wish over data -/
theorem law_wish {K : PySem.W.Frag} {sp : PSp} {n : Nat} (h : ∀ ns : List Int, ns.length ≤ n → sp [.seq (zInts ns)] (fun y => y = .val (.bl true)) fun _ => False) (H : Hp) (a : Addr) (ns : List Int) (hl : ns.length ≤ n) (hS : SqL K H a (ns.map V.int)) :
    liftP K sp [.ref a] H (fun v _ => v = .bl true) fun _ _ _ => False := by
  refine ⟨H, _, _, _, Same.refl H, .cons (.seq hS ?_) .nil, h ns hl, fun y hy => ?_, fun _ he => he.elim⟩
  · clear hS hl
    induction ns with
    | nil => exact .nil
    | cons i ns ih => exact .cons (.int i) ih
  · subst hy
    intro v F' H' g r
    cases r
    rfl
theorem cx_no {P : Program} {w : World} (H : Hp) (s : Shared) (e : Value) (s' : Shared) (h : L2.CX P w [] H s (fun _ _ _ => False) e s') : False := by
  obtain ⟨_, _, _, _, _, _, _, _, _, _, _, _, z⟩ := h
  exact z
end L3

/-! L3h: a reading is run by equations, from the outside in. -/
namespace L3
open PySem PySem.Spec PyProof.Rows L2
/-- a slot's value -/
def gx : Nat → List (Option SV) → (SV → Prop) → Prop
  | 0, some v :: _, k => k v
  | n + 1, _ :: g, k => gx n g k
  | _, _, _ => False
/-- a slot is stored -/
def sx : Nat → List (Option SV) → Option SV → (List (Option SV) → Prop) → Prop
  | _, [], _, k => k []
  | 0, _ :: g, v, k => k (v :: g)
  | n + 1, a :: g, v, k => sx n g v fun g' => k (a :: g')
def wx : List Nat → List (Option SV) → (List (Option SV) → Prop) → Prop
  | [], g, k => k g
  | i :: ks, g, k => sx i g none fun g' => wx ks g' k
variable {v v' : SV} {g : List (Option SV)} {n i j : Nat} {a b : Option SV} {o : OM} {S : DSt} {x y : DV} {so : SO} {p : Addr} {z : TV}
theorem gx_0 {k : SV → Prop} : gx 0 (some v :: g) k = k v := rfl
theorem gx_s {k : SV → Prop} : gx (n + 1) (a :: g) k = gx n g k := rfl
theorem sx_0 {k : List (Option SV) → Prop} : sx 0 (a :: g) b k = k (b :: g) := rfl
theorem sx_s {k : List (Option SV) → Prop} : sx (n + 1) (a :: g) b k = sx n g b fun g' => k (a :: g') := rfl
theorem wx_0 {k : List (Option SV) → Prop} : wx [] g k = k g := rfl
theorem wx_s {ks : List Nat} {k : List (Option SV) → Prop} : wx (i :: ks) g k = sx i g none fun g' => wx ks g' k := rfl
theorem sx_eq : ∀ {n : Nat} {g : List (Option SV)} {b : Option SV} {k : List (Option SV) → Prop}, sx n g b k = k (g.set n b)
  | 0, [], b, k => rfl
  | n + 1, [], b, k => rfl
  | 0, a :: g, b, k => rfl
  | n + 1, a :: g, b, k => sx_eq (n := n) (g := g)
theorem wx_eq : ∀ {ks : List Nat} {g : List (Option SV)} {k : List (Option SV) → Prop}, wx ks g k = k (ks.foldl (fun g i => g.set i none) g)
  | [], g, k => rfl
  | i :: ks, g, k => by rw [wx_s, sx_eq, wx_eq]; rfl
theorem gx_eq : ∀ {n : Nat} {g : List (Option SV)} {k : SV → Prop}, gx n g k = match g[n]? with
    | some (some v) => k v
    | _ => False
  | 0, [], k => rfl
  | n + 1, [], k => rfl
  | 0, none :: g, k => rfl
  | 0, some v :: g, k => rfl
  | n + 1, a :: g, k => by rw [gx_s, gx_eq]; simp
def svQ (i : Nat) (v : SV) (S : DSt) (Q : TV → DSt → Prop) : Prop := match v with
  | .val x => Q (.val x) S
  | .own _ => Q (.slt i) S
  | .rf a => Q (.rf a) S
  | .err _ _ _ _ => False
theorem svQ_v {Q : TV → DSt → Prop} : svQ i (.val x) S Q = Q (.val x) S := rfl
theorem svQ_o {Q : TV → DSt → Prop} : svQ i (.own so) S Q = Q (.slt i) S := rfl
theorem svQ_r {Q : TV → DSt → Prop} : svQ i (.rf p) S Q = Q (.rf p) S := rfl
theorem r_var {Q : TV → DSt → Prop} {E : DErr → DSt → Prop} : dVar i ⟨g, o⟩ Q E = gx i g fun v => svQ i v ⟨g, o⟩ Q := by
  rw [gx_eq]
  unfold dVar
  show (match g[i]? with
    | some (some (.val x)) => Q (.val x) ⟨g, o⟩
    | some (some (.own _)) => Q (.slt i) ⟨g, o⟩
    | some (some (.rf a)) => Q (.rf a) ⟨g, o⟩
    | _ => False) = _
  cases g[i]? with
  | none => rfl
  | some u => cases u with
    | none => rfl
    | some v => cases v <;> rfl
theorem r_c {Q : TV → DSt → Prop} {E : DErr → DSt → Prop} : dC x S Q E = Q (.val x) S := rfl
theorem r_val {d : DX} {Q : TV → DSt → Prop} {E : DErr → DSt → Prop} : dVal d S Q E = d S (fun x S1 => Q (.val x) S1) E := rfl
/-! freezing -/
theorem r_frz {d : DE} {Q : DV → DSt → Prop} {E : DErr → DSt → Prop} : dFrz d S Q E = d S (fun y S1 => frzK S1 y Q) E := rfl
theorem frzK_v {Q : DV → DSt → Prop} : frzK S (.val x) Q = Q x S := rfl
theorem frzK_r {Q : DV → DSt → Prop} : frzK S (.rf p) Q = Q (.ref p) S := rfl
theorem frzK_l {Q : DV → DSt → Prop} {xs : List DV} : frzK S (.own (.lst xs)) Q = Q (.lst xs) S := rfl
theorem frzK_t {Q : DV → DSt → Prop} {xs : List (List Key × DV)} : frzK S (.own (.dit xs)) Q = Q (.dit xs) S := rfl
theorem frzK_d {Q : DV → DSt → Prop} {xs : List (Key × DV)} : frzK S (.own (.dic xs)) Q = Q (.dic xs) S := rfl
def frzS (i : Nat) (v : SV) (g : List (Option SV)) (o : OM) (Q : DV → DSt → Prop) : Prop := match v with
  | .val x => Q x ⟨g, o⟩
  | .rf a => Q (.ref a) ⟨g, o⟩
  | .err _ _ _ _ => False
  | .own (.lst xs) => sx i g (some (.val (.lst xs))) fun g' => Q (.lst xs) ⟨g', o⟩
  | .own (.dic xs) => sx i g (some (.val (.dic xs))) fun g' => Q (.dic xs) ⟨g', o⟩
  | .own (.dit xs) => sx i g (some (.val (.dit xs))) fun g' => Q (.dit xs) ⟨g', o⟩
  | .own (.ins _ _) => False
theorem frzS_v {Q : DV → DSt → Prop} : frzS i (.val x) g o Q = Q x ⟨g, o⟩ := rfl
theorem frzS_r {Q : DV → DSt → Prop} : frzS i (.rf p) g o Q = Q (.ref p) ⟨g, o⟩ := rfl
theorem frzS_l {Q : DV → DSt → Prop} {xs : List DV} : frzS i (.own (.lst xs)) g o Q = sx i g (some (.val (.lst xs))) fun g' => Q (.lst xs) ⟨g', o⟩ := rfl
theorem frzS_t {Q : DV → DSt → Prop} {xs : List (List Key × DV)} : frzS i (.own (.dit xs)) g o Q = sx i g (some (.val (.dit xs))) fun g' => Q (.dit xs) ⟨g', o⟩ := rfl
theorem frzS_d {Q : DV → DSt → Prop} {xs : List (Key × DV)} : frzS i (.own (.dic xs)) g o Q = sx i g (some (.val (.dic xs))) fun g' => Q (.dic xs) ⟨g', o⟩ := rfl
theorem frzK_s {Q : DV → DSt → Prop} : frzK ⟨g, o⟩ (.slt i) Q = gx i g fun v => frzS i v g o Q := by
  rw [gx_eq]
  show (match g[i]? with
    | some (some (.val x)) => Q x ⟨g, o⟩
    | some (some (.rf a)) => Q (.ref a) ⟨g, o⟩
    | some (some (.own (.lst xs))) => Q (.lst xs) ⟨g.set i (some (.val (.lst xs))), o⟩
    | some (some (.own (.dic xs))) => Q (.dic xs) ⟨g.set i (some (.val (.dic xs))), o⟩
    | some (some (.own (.dit xs))) => Q (.dit xs) ⟨g.set i (some (.val (.dit xs))), o⟩
    | _ => False) = _
  cases g[i]? with
  | none => rfl
  | some u => cases u with
    | none => rfl
    | some v => cases v with
      | val x => rfl
      | rf a => rfl
      | err a c d e => rfl
      | own s => cases s with
        | lst xs => exact (sx_eq (n := i) (g := g) (k := fun g' => Q (.lst xs) ⟨g', o⟩)).symm
        | dic xs => exact (sx_eq (n := i) (g := g) (k := fun g' => Q (.dic xs) ⟨g', o⟩)).symm
        | dit xs => exact (sx_eq (n := i) (g := g) (k := fun g' => Q (.dit xs) ⟨g', o⟩)).symm
        | ins c fs => rfl
theorem r_map {d : DE} {Q : DV → DSt → Prop} {E : DErr → DSt → Prop} : dMap d S Q E = d S (fun y S1 => mapK S1 y Q) E := rfl
theorem mapK_v {Q : DV → DSt → Prop} : mapK S (.val x) Q = Q x S := rfl
theorem mapK_r {Q : DV → DSt → Prop} : mapK S (.rf p) Q = Q (.ref p) S := rfl
theorem mapK_o {Q : DV → DSt → Prop} : mapK ⟨g, o⟩ (.own so) Q = ∀ p, o p = none → Q (.ref p) ⟨g, updO o p so⟩ := rfl
def mapS (i : Nat) (v : SV) (g : List (Option SV)) (o : OM) (Q : DV → DSt → Prop) : Prop := match v with
  | .own so => ∀ p, o p = none → sx i g (some (.rf p)) fun g' => Q (.ref p) ⟨g', updO o p so⟩
  | .rf a => Q (.ref a) ⟨g, o⟩
  | .err _ _ _ _ => False
  | .val _ => False
theorem mapS_o {Q : DV → DSt → Prop} : mapS i (.own so) g o Q = ∀ p, o p = none → sx i g (some (.rf p)) fun g' => Q (.ref p) ⟨g', updO o p so⟩ := rfl
theorem mapS_r {Q : DV → DSt → Prop} : mapS i (.rf p) g o Q = Q (.ref p) ⟨g, o⟩ := rfl
theorem mapK_s {Q : DV → DSt → Prop} : mapK ⟨g, o⟩ (.slt i) Q = gx i g fun v => mapS i v g o Q := by
  rw [gx_eq]
  show (match g[i]? with
    | some (some (.own so)) => ∀ p, o p = none → Q (.ref p) ⟨g.set i (some (.rf p)), updO o p so⟩
    | some (some (.rf a)) => Q (.ref a) ⟨g, o⟩
    | _ => False) = _
  cases g[i]? with
  | none => rfl
  | some u => cases u with
    | none => rfl
    | some v => cases v with
      | val x => rfl
      | rf a => rfl
      | err a c d e => rfl
      | own so => simp only [mapS, sx_eq]
/-! looking -/
theorem tree_vi {k : DV → Prop} {i : Int} : onS (tree S (.val (.int i))) k = k (.int i) := rfl
theorem tree_vb {k : DV → Prop} {b : Bool} : onS (tree S (.val (.bl b))) k = k (.bl b) := rfl
theorem tree_vn {k : DV → Prop} : onS (tree S (.val .non)) k = k .non := rfl
theorem tree_vs {k : DV → Prop} {s : Str} : onS (tree S (.val (.str s))) k = k (.str s) := rfl
theorem tree_vt {k : DV → Prop} {s : String} : onS (tree S (.val (.ty s))) k = k (.ty s) := rfl
theorem tree_vl {k : DV → Prop} {xs : List DV} : onS (tree S (.val (.lst xs))) k = k (.lst xs) := rfl
theorem tree_vu {k : DV → Prop} {xs : List DV} : onS (tree S (.val (.tup xs))) k = k (.tup xs) := rfl
theorem tree_vq {k : DV → Prop} {xs : List DV} : onS (tree S (.val (.seq xs))) k = k (.seq xs) := rfl
theorem tree_vdt {k : DV → Prop} {xs : List (List Key × DV)} : onS (tree S (.val (.dit xs))) k = k (.dit xs) := rfl
theorem tree_vd {k : DV → Prop} {xs : List (Key × DV)} : onS (tree S (.val (.dic xs))) k = k (.dic xs) := rfl
theorem tree_vo {k : DV → Prop} {s : Str} : onS (tree S (.val (.obj s))) k = k (.obj s) := rfl
theorem tree_vr {k : DV → Prop} : onS (tree ⟨g, o⟩ (.val (.ref p))) k = onS ((o p).bind soT) k := rfl
theorem tree_l {k : DV → Prop} {xs : List DV} : onS (tree S (.own (.lst xs))) k = k (.lst xs) := rfl
theorem tree_dt {k : DV → Prop} {xs : List (List Key × DV)} : onS (tree S (.own (.dit xs))) k = k (.dit xs) := rfl
theorem tree_d {k : DV → Prop} {xs : List (Key × DV)} : onS (tree S (.own (.dic xs))) k = k (.dic xs) := rfl
def svT (v : SV) (o : OM) (k : DV → Prop) : Prop := match v with
  | .val x => k x
  | .own s => onS (soT s) k
  | .rf a => onS ((o a).bind soT) k
  | .err _ _ _ _ => False
theorem svT_v {k : DV → Prop} : svT (.val x) o k = k x := rfl
theorem svT_l {k : DV → Prop} {xs : List DV} : svT (.own (.lst xs)) o k = k (.lst xs) := rfl
theorem svT_dt {k : DV → Prop} {xs : List (List Key × DV)} : svT (.own (.dit xs)) o k = k (.dit xs) := rfl
theorem svT_d {k : DV → Prop} {xs : List (Key × DV)} : svT (.own (.dic xs)) o k = k (.dic xs) := rfl
theorem svT_r {k : DV → Prop} : svT (.rf p) o k = onS ((o p).bind soT) k := rfl
theorem tree_s {k : DV → Prop} : onS (tree ⟨g, o⟩ (.slt i)) k = gx i g fun v => svT v o k := by
  rw [gx_eq]
  show onS (match g[i]? with
    | some (some (.val x)) => some x
    | some (some (.own s)) => soT s
    | some (some (.rf a)) => (o a).bind soT
    | _ => none) k = _
  cases g[i]? with
  | none => rfl
  | some u => cases u with
    | none => rfl
    | some v => cases v <;> rfl
theorem tree_r {k : DV → Prop} : onS (tree ⟨g, o⟩ (.rf p)) k = onS ((o p).bind soT) k := rfl
theorem soB_l {k : DV → Prop} {xs : List DV} : onS ((some (SO.lst xs)).bind soT) k = k (.lst xs) := rfl
theorem soB_dt {k : DV → Prop} {xs : List (List Key × DV)} : onS ((some (SO.dit xs)).bind soT) k = k (.dit xs) := rfl
theorem soB_d {k : DV → Prop} {xs : List (Key × DV)} : onS ((some (SO.dic xs)).bind soT) k = k (.dic xs) := rfl
theorem ta_nil {k : List DV → Prop} : onS (treeAll S []) k = k [] := rfl
theorem ta_cons {k : List DV → Prop} {ys : List TV} : onS (treeAll S (z :: ys)) k = onS (tree S z) fun x => onS (treeAll S ys) fun xs => k (x :: xs) := by
  show onS (match tree S z with
    | some x => match treeAll S ys with
      | some xs => some (x :: xs)
      | none => none
    | none => none) k = _
  cases tree S z with
  | none => rfl
  | some x => cases treeAll S ys <;> rfl
theorem on_some {α : Type} {x : α} {k : α → Prop} : onS (some x) k = k x := rfl
theorem on_if {α : Type} {c : Prop} [Decidable c] {x : α} {k : α → Prop} : onS (if c then some x else none) k = (c ∧ k x) := by
  by_cases h : c
  · rw [if_pos h]; exact propext ⟨fun q => ⟨h, q⟩, fun q => q.2⟩
  · rw [if_neg h]; exact propext ⟨fun q => q.elim, fun q => (h q.1).elim⟩
theorem on_map {α β : Type} {u : Option α} {f : α → β} {k : β → Prop} : onS (u.map f) k = onS u fun x => k (f x) := by cases u <;> rfl
theorem on_bind {α β : Type} {u : Option α} {f : α → Option β} {k : β → Prop} : onS (u.bind f) k = onS u fun x => onS (f x) k := by cases u <;> rfl
/-! operators -/
variable {f : DV → Option TV} {f2 : DV → DV → Option TV} {fN : List DV → Option TV} {da db dc : DE} {dB : DB} {dA : DA} {dX : DX} {Q : TV → DSt → Prop} {E : DErr → DSt → Prop}
theorem r_1 : d1 f da S Q E = da S (fun y S1 => onS (tree S1 y) fun x => onS (f x) fun z => Q z S1) E := rfl
theorem r_2 : d2 f2 da db S Q E = da S (fun y S1 => db S1 (fun y' S2 => onS (tree S2 y) fun x => onS (tree S2 y') fun x' => onS (f2 x x') fun z => Q z S2) E) E := rfl
theorem r_N : dN fN dB S Q E = dB S (fun ys S1 => onS (treeAll S1 ys) fun xs => onS (fN xs) fun z => Q z S1) E := rfl
theorem r_Bn {Q : List TV → DSt → Prop} : dBnil S Q E = Q [] S := rfl
theorem r_Bc {Q : List TV → DSt → Prop} : dBcons da dB S Q E = da S (fun y S1 => dB S1 (fun ys S2 => Q (y :: ys) S2) E) E := rfl
theorem r_An {Q : List DV → DSt → Prop} : dAnil S Q E = Q [] S := rfl
theorem r_Ac {Q : List DV → DSt → Prop} : dAcons dX dA S Q E = dX S (fun y S1 => dA S1 (fun ys S2 => Q (y :: ys) S2) E) E := rfl
theorem r_andV : dAndV da db S Q E = da S (fun y S1 => blK y fun b => if b = true then db S1 Q E else Q (.val (.bl false)) S1) E := rfl
theorem r_orV : dOrV da db S Q E = da S (fun y S1 => blK y fun b => if b = true then Q (.val (.bl true)) S1 else db S1 Q E) E := rfl
theorem r_notV : dNotV da S Q E = da S (fun y S1 => blK y fun b => Q (.val (.bl (!b))) S1) E := rfl
theorem r_ifV {c : DT} : dIfV c da db S Q E = c S (fun b S1 => if b = true then da S1 Q E else db S1 Q E) E := rfl
theorem r_tup : dTup dA S Q E = dA S (fun xs S1 => xs.length ≤ sizeLine ∧ Q (.val (.tup xs)) S1) E := rfl
theorem r_lst : dLst dA S Q E = dA S (fun xs S1 => xs.length ≤ sizeLine ∧ Q (.own (.lst xs)) S1) E := rfl
theorem r_sl {dl dh : DO} : dSl da dl dh S Q E = da S (fun y S1 => dl S1 (fun l S2 => dh S2 (fun h S3 => onS (tree S3 y) fun x => onS (seqL x) fun xs => Q (.own (.lst (cutD xs l h))) S3) E) E) E := by
  unfold dSl
  simp only [on_bind]
theorem r_part {Q : Option Int → DSt → Prop} : dPart da S Q E = da S (fun y S1 => intK y fun i => Q (some i) S1) E := rfl
theorem r_nopart {Q : Option Int → DSt → Prop} : dNoPart S Q E = Q none S := rfl
theorem blK_v {b : Bool} {k : Bool → Prop} : blK (.val (.bl b)) k = k b := rfl
theorem intK_v {i : Int} {k : Int → Prop} : intK (.val (.int i)) k = k i := rfl
theorem seq_l {xs : List DV} {k : List DV → Prop} : onS (seqL (.lst xs)) k = k xs := rfl
theorem seq_s {xs : List DV} {k : List DV → Prop} : onS (seqL (.seq xs)) k = k xs := rfl
/-! tests -/
variable {dt du : DT} {Qt : Bool → DSt → Prop}
theorem r_test : dTest da S Qt E = da S (fun y S1 => blK y fun b => Qt b S1) E := rfl
theorem r_and : dAnd dt du S Qt E = dt S (fun b S1 => if b = true then du S1 Qt E else Qt false S1) E := rfl
theorem r_or : dOr dt du S Qt E = dt S (fun b S1 => if b = true then Qt true S1 else du S1 Qt E) E := rfl
theorem r_not : dNot dt S Qt E = dt S (fun b S1 => Qt (!b) S1) E := rfl
theorem r_yes : dYes S Qt E = Qt true S := rfl
/-! statements -/
variable {d u : DS} {D : DEnds} {ks : List Nat}
theorem r_next : dNext S D = D.nx S := rfl
theorem r_seq : dSeq d u S D = d S { D with nx := fun S1 => u S1 D } := rfl
theorem r_drop : dDrop da S D = da S (fun _ S1 => D.nx S1) D.ex := rfl
theorem r_ret : dRet da S D = da S D.rt D.ex := rfl
theorem r_retN : dRetN S D = D.rt (.val .non) S := rfl
theorem r_if {c : DT} : dIf c d u S D = c S (fun b S1 => if b = true then d S1 D else u S1 D) D.ex := rfl
theorem r_brk : dBrk S D = D.bk S := rfl
theorem r_cnt : dCnt S D = D.ct S := rfl
def putS (i : Nat) (v : SV) (S : DSt) (k : DSt → Prop) : Prop := k (S.put i v)
theorem putS_ {k : DSt → Prop} : putS i v ⟨g, o⟩ k = sx i g (some v) fun g' => k ⟨g', o⟩ := by rw [sx_eq]; rfl
def wipeS (ks : List Nat) (S : DSt) (k : DSt → Prop) : Prop := k (S.wipe ks)
theorem wipeS_ {k : DSt → Prop} : wipeS ks ⟨g, o⟩ k = wx ks g fun g' => k ⟨g', o⟩ := by rw [wx_eq]; rfl
theorem r_set : dSet i da S D = da S (fun y S1 => setK i y S1 D.nx) D.ex := rfl
theorem setK_v {k : DSt → Prop} : setK i (.val x) S k = putS i (.val x) S k := rfl
theorem setK_o {k : DSt → Prop} : setK i (.own so) S k = putS i (.own so) S k := rfl
theorem setK_r {k : DSt → Prop} : setK i (.rf p) S k = putS i (.rf p) S k := rfl
theorem r_setR : dSetR i da S D = da S (fun y S1 => setR i y S1 D.nx) D.ex := rfl
theorem setR_vr {k : DSt → Prop} : setR i (.val (.ref p)) S k = putS i (.rf p) S k := rfl
theorem setR_r {k : DSt → Prop} : setR i (.rf p) S k = putS i (.rf p) S k := rfl
theorem setR_o {k : DSt → Prop} : setR i (.own so) ⟨g, o⟩ k = ∀ p, o p = none → sx i g (some (.rf p)) fun g' => k ⟨g', updO o p so⟩ := by
  simp only [sx_eq]; rfl
theorem r_setX : dSetX i dX S D = dX S (fun x S1 => putS i (.val x) S1 D.nx) D.ex := rfl
theorem r_wipe : dWipe ks d S D = d S { D with nx := fun S1 => wipeS ks S1 D.nx } := rfl
def augS (i : Nat) (v : SV) (f : DV → DV → Option DV) (da : DE) (S : DSt) (D : DEnds) : Prop := match v with
  | .val x => da S (fun y S1 => onS (tree S1 y) fun y => onS (f x y) fun z => putS i (.val z) S1 D.nx) D.ex
  | _ => False
theorem augS_v {f : DV → DV → Option DV} : augS i (.val x) f da S D = da S (fun y S1 => onS (tree S1 y) fun y => onS (f x y) fun z => putS i (.val z) S1 D.nx) D.ex := rfl
theorem r_aug {f : DV → DV → Option DV} : dAug i f da ⟨g, o⟩ D = gx i g fun v => augS i v f da ⟨g, o⟩ D := by
  rw [gx_eq]
  show (match g[i]? with
    | some (some (.val x)) => da ⟨g, o⟩ (fun y S1 => onS (tree S1 y) fun y => onS (f x y) fun z => D.nx (S1.put i (.val z))) D.ex
    | _ => False) = _
  cases g[i]? with
  | none => rfl
  | some u => cases u with
    | none => rfl
    | some v => cases v <;> rfl
theorem r_unp {dg : DG} : dUnp dX dg S D = dX S (fun x S1 => dg x S1 D.nx) D.ex := rfl
theorem r_gN {k : DSt → Prop} : gN i x S k = putS i (.val x) S k := rfl
theorem r_gT {m : Nat} {dg : DGs} {xs : List DV} {k : DSt → Prop} : gT m dg (.tup xs) S k = (xs.length = m ∧ dg xs S k) := rfl
theorem r_gNs {dg : DG} {dgs : DGs} {xs : List DV} {k : DSt → Prop} : gNs dg dgs (x :: xs) S k = dg x S fun S1 => dgs xs S1 k := rfl
theorem r_gN0 {xs : List DV} {k : DSt → Prop} : gN0 xs S k = (xs = [] ∧ k S) := rfl
theorem r_for {di : DI} {dg : DG} : dFor di dg d ks S D = di S (fun xs S1 => forP dg d ks xs S1 D) D.ex := rfl
theorem for_nil {dg : DG} : forP dg d ks [] S D = D.nx S := rfl
theorem for_cons {dg : DG} {xs : List DV} : forP dg d ks (x :: xs) S D = dg x S fun S1 => d S1 { nx := fun S2 => wipeS ks S2 fun S3 => forP dg d ks xs S3 D, rt := D.rt, bk := D.nx, ct := fun S2 => wipeS ks S2 fun S3 => forP dg d ks xs S3 D, ex := D.ex } := rfl
theorem r_while : dWhile dt d ks S D = ∃ n, whileP dt d ks n S D := rfl
theorem while_s : whileP dt d ks (n + 1) S D = dt S (fun t S1 => if t = true then d S1 { nx := fun S2 => wipeS ks S2 fun S3 => whileP dt d ks n S3 D, rt := D.rt, bk := D.nx, ct := fun S2 => wipeS ks S2 fun S3 => whileP dt d ks n S3 D, ex := D.ex } else D.nx S1) D.ex := rfl
variable {Qi : List DV → DSt → Prop}
theorem r_iL : iL dX S Qi E = dX S (fun x S1 => onS (seqL x) fun xs => Qi xs S1) E := rfl
theorem r_iE : iE dX S Qi E = dX S (fun x S1 => onS (seqL x) fun xs => Qi (enumD xs) S1) E := rfl
theorem r_iV : iV dX S Qi E = dX S (fun x S1 => onS (seqL x) fun xs => Qi xs.reverse S1) E := rfl
theorem r_iR1 : iR1 da S Qi E = da S (fun y S1 => intK y fun j => small62 j ∧ Qi (rngD 0 j.toNat) S1) E := rfl
theorem r_iR2 : iR2 da db S Qi E = da S (fun y S1 => db S1 (fun y' S2 => intK y fun i => intK y' fun j => (small62 i ∧ small62 j) ∧ Qi (rngD i (j - i).toNat) S2) E) E := rfl
theorem r_lc {di : DI} {dg : DG} {dt : DT} : dLc di dg dt dX ks S Q E = di S (fun xs S1 => wipeS ks S1 fun S2 => lcP dg dt dX ks xs [] S2 fun acc S2 => Q (.own (.lst acc)) S2) E := rfl
theorem lc_nil {dg : DG} {acc : List DV} : lcP dg dt dX ks [] acc S Qi = Qi acc S := rfl
theorem lc_cons {dg : DG} {acc xs : List DV} : lcP dg dt dX ks (x :: xs) acc S Qi = dg x S fun S1 => dt S1 (fun b S2 => if b = true then dX S2 (fun z S3 => acc.length < sizeLine ∧ wipeS ks S3 fun S4 => lcP dg dt dX ks xs (acc ++ [z]) S4 Qi) (fun _ _ => False) else wipeS ks S2 fun S4 => lcP dg dt dX ks xs acc S4 Qi) (fun _ _ => False) := rfl
/-! calls -/
theorem r_call {ps : PSp} : dCall ps dB S Q E = dB S (fun ys S1 => onS (treeAll S1 ys) fun xs => ps xs (fun z => (allVal ys = true ∨ flatT z = true) ∧ Q z S1) (fun e => (allVal ys = true ∨ flatE e = true) ∧ E e S1)) E := rfl
def callS (gs : GSp) (xs : List DV) (S : DSt) (Q : TV → DSt → Prop) (E : DErr → DSt → Prop) : Prop := gs xs S.o (fun y O' => Q y ⟨S.g, O'⟩) (fun e O' => E e ⟨S.g, O'⟩)
theorem r_callG {gs : GSp} : dCallG gs dA S Q E = dA S (fun xs S1 => callS gs xs S1 Q E) E := rfl
theorem r_callS {gs : GSp} {xs : List DV} : callS gs xs ⟨g, o⟩ Q E = gs xs o (fun y O' => Q y ⟨g, O'⟩) (fun e O' => E e ⟨g, O'⟩) := rfl
/-! changes -/
def mutS (j : Nat) (v : SV) (g : List (Option SV)) (o : OM) (k : SO → (SO → DSt) → Prop) : Prop := match v with
  | .own s => k s fun s' => ⟨g.set j (some (.own s')), o⟩
  | .rf a => onS (o a) fun s => k s fun s' => ⟨g, updO o a s'⟩
  | _ => False
theorem mut_s {k : SO → (SO → DSt) → Prop} : mutC ⟨g, o⟩ (.slt j) k = gx j g fun v => mutS j v g o k := by
  rw [gx_eq]
  show (match g[j]? with
    | some (some (.own s)) => k s fun s' => DSt.put ⟨g, o⟩ j (.own s')
    | some (some (.rf a)) => onS (o a) fun s => k s fun s' => ⟨g, updO o a s'⟩
    | _ => False) = _
  cases g[j]? with
  | none => rfl
  | some u => cases u with
    | none => rfl
    | some v => cases v <;> rfl
theorem mutS_o {k : SO → (SO → DSt) → Prop} : mutS j (.own so) g o k = k so fun s' => ⟨g.set j (some (.own s')), o⟩ := rfl
theorem mutS_r {k : SO → (SO → DSt) → Prop} : mutS j (.rf p) g o k = onS (o p) fun s => k s fun s' => ⟨g, updO o p s'⟩ := rfl
theorem mut_r {k : SO → (SO → DSt) → Prop} : mutC ⟨g, o⟩ (.rf p) k = onS (o p) fun s => k s fun s' => ⟨g, updO o p s'⟩ := rfl
theorem mut_v {k : SO → (SO → DSt) → Prop} : mutC ⟨g, o⟩ (.val (.ref p)) k = onS (o p) fun s => k s fun s' => ⟨g, updO o p s'⟩ := rfl
/-- a state handed on, its slots first set in order -/
def inS (S : DSt) (k : DSt → Prop) : Prop := k S
theorem inS_set {k : DSt → Prop} : inS ⟨g.set j a, o⟩ k = sx j g a fun g' => k ⟨g', o⟩ := by rw [sx_eq]; rfl
theorem inS_upd {so : SO} {k : DSt → Prop} : inS ⟨g, updO o p so⟩ k = k ⟨g, updO o p so⟩ := rfl
def lstK (s : SO) (k : List DV → Prop) : Prop := match s with
  | .lst xs => k xs
  | _ => False
theorem lstK_l {xs : List DV} {k : List DV → Prop} : lstK (.lst xs) k = k xs := rfl
def isL (S : DSt) (y : TV) (R : Prop) : Prop := isLst S y ∧ R
def isLo (u : Option SO) (R : Prop) : Prop := (onS u fun s => lstK s fun _ => True) ∧ R
def isLv (v : SV) (o : OM) (R : Prop) : Prop := (mutS 0 v [] o fun s _ => lstK s fun _ => True) ∧ R
theorem isL_s {R : Prop} : isL ⟨g, o⟩ (.slt j) R = gx j g fun v => isLv v o R := by
  unfold isL isLst
  rw [mut_s, gx_eq, gx_eq]
  cases g[j]? with
  | none => exact propext ⟨fun h => h.1.elim, fun h => h.elim⟩
  | some u => cases u with
    | none => exact propext ⟨fun h => h.1.elim, fun h => h.elim⟩
    | some v => cases v with
      | val x => rfl
      | err a c d e => rfl
      | own s => cases s <;> rfl
      | rf a =>
        show (onS (o a) _ ∧ R) = (onS (o a) _ ∧ R)
        congr 1
theorem isLv_o {R : Prop} {xs : List DV} : isLv (.own (.lst xs)) o R = R := propext ⟨fun h => h.2, fun h => ⟨trivial, h⟩⟩
theorem isLv_r {R : Prop} : isLv (.rf p) o R = isLo (o p) R := rfl
theorem isLo_l {R : Prop} {xs : List DV} : isLo (some (.lst xs)) R = R := propext ⟨fun h => h.2, fun h => ⟨trivial, h⟩⟩
theorem isL_r {R : Prop} : isL ⟨g, o⟩ (.rf p) R = isLo (o p) R := by
  show (onS (o p) _ ∧ R) = (onS (o p) _ ∧ R)
  congr 1
theorem isL_v {R : Prop} : isL ⟨g, o⟩ (.val (.ref p)) R = isLo (o p) R := by
  show (onS (o p) _ ∧ R) = (onS (o p) _ ∧ R)
  congr 1
theorem r_bm {fm : List DV → List DV → Option (List DV × DV)} : dBM fm da dA S Q E = da S (fun y S1 => isL S1 y (dA S1 (fun as S2 => mutC S2 y fun o put => lstK o fun xs => onS (fm xs as) fun r => inS (put (.lst r.1)) fun S3 => Q (.val r.2) S3) E)) E := rfl
/-- an item of a list is put -/
def lsx (j : Nat) (xs : List DV) (x : DV) (k : List DV → Prop) : Prop := k (xs.set j x)
theorem lsx_0 {xs : List DV} {k : List DV → Prop} : lsx 0 (y :: xs) x k = k (x :: xs) := rfl
theorem lsx_s {xs : List DV} {k : List DV → Prop} : lsx (n + 1) (y :: xs) x k = lsx n xs x fun r => k (y :: r) := rfl
theorem lsx_go {xs : List DV} {k : List DV → Prop} (h : k (xs.set j x)) : lsx j xs x k := h
theorem r_setItem {dv : DX} : dSetItem dv da db S D = dv S (fun x S1 => da S1 (fun y S2 => db S2 (fun i S3 => intK i fun k => mutC S3 y fun o put => lstK o fun xs => onS (ixN xs.length k) fun j => lsx j xs x fun xs' => inS (put (.lst xs')) D.nx) D.ex) D.ex) D.ex := rfl
theorem app_one {xs : List DV} {k : List DV × DV → Prop} : onS (appF xs [y]) k = (xs.length < sizeLine ∧ k (xs ++ [y], .non)) := by
  show onS (if xs.length < sizeLine then some (xs ++ [y], DV.non) else none) k = _
  rw [on_if]
/-! operators on known kinds -/
variable {i' j' : Int} {k : TV → Prop} {xs ys : List DV} {s t : Str}
theorem add_ii : onS (addF (.int i') (.int j')) k = k (.val (.int (i' + j'))) := rfl
theorem add_ss : onS (addF (.str s) (.str t)) k = (s.length + t.length ≤ sizeLine ∧ k (.val (.str (s ++ t)))) := by
  show onS (orF strAdd lstAdd (.str s) (.str t)) k = _
  unfold orF
  show onS (match (if s.length + t.length ≤ sizeLine then some (TV.val (.str (s ++ t))) else none) with
    | some z => some z
    | none => none) k = _
  by_cases h : s.length + t.length ≤ sizeLine
  · rw [if_pos h]; exact propext ⟨fun q => ⟨h, q⟩, fun q => q.2⟩
  · rw [if_neg h]; exact propext ⟨fun q => q.elim, fun q => (h q.1).elim⟩
theorem add_ll : onS (addF (.lst xs) (.lst ys)) k = (xs.length + ys.length ≤ sizeLine ∧ k (.own (.lst (xs ++ ys)))) := by
  show onS (if xs.length + ys.length ≤ sizeLine then some (TV.own (.lst (xs ++ ys))) else none) k = _
  rw [on_if]
theorem sub_ii : onS (subF (.int i') (.int j')) k = k (.val (.int (i' - j'))) := rfl
theorem mul_ii : onS (mulB (.int i') (.int j')) k = (CMulA i' j' ∧ k (.val (.int (i' * j')))) := by
  show onS (if CMulA i' j' then some (TV.val (.int (i' * j'))) else none) k = _
  rw [on_if]
theorem mul_li : onS (mulB (.lst xs) (.int j')) k = ((-(2 ^ 63) ≤ j' ∧ j' < 2 ^ 63 ∧ xs.length * j'.toNat ≤ sizeLine) ∧ k (.own (.lst (List.replicate j'.toNat xs).flatten))) := by
  show onS (if -(2 ^ 63) ≤ j' ∧ j' < 2 ^ 63 ∧ xs.length * j'.toNat ≤ sizeLine then some (TV.own (.lst (List.replicate j'.toNat xs).flatten)) else none) k = _
  rw [on_if]
theorem mod_ii : onS (modF (.int i') (.int j')) k = (0 < j' ∧ k (.val (.int (i' % j')))) := by
  show onS (if 0 < j' then some (TV.val (.int (i' % j'))) else none) k = _
  rw [on_if]
theorem div_ii : onS (divF (.int i') (.int j')) k = (CDivW i' j' ∧ k (.val (.int (i' / j')))) := by
  show onS (if CDivW i' j' then some (TV.val (.int (i' / j'))) else none) k = _
  rw [on_if]
theorem pow_ii : onS (powF (.int i') (.int j')) k = (CPow i' j' ∧ k (.val (.int (i' ^ j'.toNat)))) := by
  show onS (if CPow i' j' then some (TV.val (.int (i' ^ j'.toNat))) else none) k = _
  rw [on_if]
theorem neg_i : onS (negF (.int i')) k = k (.val (.int (-i'))) := rfl
theorem lt_ii : onS (ltF (.int i') (.int j')) k = k (.val (.bl (decide (i' < j')))) := rfl
theorem le_ii : onS (leF (.int i') (.int j')) k = k (.val (.bl (decide (i' ≤ j')))) := rfl
theorem gt_ii : onS (gtF (.int i') (.int j')) k = k (.val (.bl (decide (j' < i')))) := rfl
theorem ge_ii : onS (geF (.int i') (.int j')) k = k (.val (.bl (decide (j' ≤ i')))) := rfl
theorem eq_ii : onS (eqF (.int i') (.int j')) k = k (.val (.bl (decide (i' = j')))) := rfl
theorem ne_ii : onS (neF (.int i') (.int j')) k = k (.val (.bl (!decide (i' = j')))) := rfl
theorem eq_ss : onS (eqF (.str s) (.str t)) k = k (.val (.bl (decide (s = t)))) := rfl
theorem ne_ss : onS (neF (.str s) (.str t)) k = k (.val (.bl (!decide (s = t)))) := rfl
theorem is_n : onS (isF x .non) k = k (.val (.bl (isNon x))) := rfl
theorem isnt_n : onS (isntF x .non) k = k (.val (.bl (!isNon x))) := rfl
theorem idx_l : onS (idxF (.lst xs) (.int i')) k = onS (atI xs i') fun x => k (.val x) := on_map
theorem idx_q : onS (idxF (.seq xs) (.int i')) k = onS (atI xs i') fun x => k (.val x) := on_map
theorem idx_t : onS (idxF (.tup xs) (.int i')) k = onS (atI xs i') fun x => k (.val x) := on_map
theorem len_l : onS (lenF [.lst xs]) k = k (.val (.int xs.length)) := rfl
theorem len_q : onS (lenF [.seq xs]) k = k (.val (.int xs.length)) := rfl
theorem len_t : onS (lenF [.tup xs]) k = k (.val (.int xs.length)) := rfl
theorem len_s : onS (lenF [.str s]) k = (s.length ≤ sizeLine ∧ k (.val (.int s.length))) := by
  show onS (if s.length ≤ sizeLine then some (TV.val (.int s.length)) else none) k = _
  rw [on_if]
theorem max_ii : onS (max2F [.int i', .int j']) k = k (.val (.int (if j' > i' then j' else i'))) := rfl
theorem min_ii : onS (min2F [.int i', .int j']) k = k (.val (.int (if j' < i' then j' else i'))) := rfl
theorem int_i : onS (intF [.int i']) k = k (.val (.int i')) := rfl
theorem int_b {b : Bool} : onS (intF [.bl b]) k = k (.val (.int (if b then 1 else 0))) := rfl
theorem list_l : onS (listF [.lst xs]) k = k (.own (.lst xs)) := rfl
theorem list_q : onS (listF [.seq xs]) k = k (.own (.lst xs)) := rfl
theorem list_t : onS (listF [.tup xs]) k = k (.own (.lst xs)) := rfl
theorem vI_ii {h : Int → Int → Int} {k : DV → Prop} : onS (vI h (.int i') (.int j')) k = k (.int (h i' j')) := rfl
theorem vIC_ii {C : Int → Int → Prop} [∀ i j, Decidable (C i j)] {h : Int → Int → Int} {k : DV → Prop} : onS (vIC C h (.int i') (.int j')) k = (C i' j' ∧ k (.int (h i' j'))) := by
  show onS (if C i' j' then some (DV.int (h i' j')) else none) k = _
  rw [on_if]
theorem all_l {l : List Bool} : onS (allF [.lst (bls l)]) k = k (.val (.bl (l.all id))) := by
  show onS (Option.map _ (blsOf (.lst (bls l)))) k = _
  rw [show blsOf (.lst (bls l)) = some l from unB_bls l]; rfl
theorem any_l {l : List Bool} : onS (anyF [.lst (bls l)]) k = k (.val (.bl (l.any id))) := by
  show onS (Option.map _ (blsOf (.lst (bls l)))) k = _
  rw [show blsOf (.lst (bls l)) = some l from unB_bls l]; rfl
theorem sum_l {l : List Int} : onS (sumF [.lst (zInts l)]) k = k (.val (.int l.sum)) := by
  show onS (Option.map _ (intsOf (.lst (zInts l)))) k = _
  rw [show intsOf (.lst (zInts l)) = some l from unI_z l]; rfl
theorem max_l {l : List Int} : onS (maxF [.lst (zInts l)]) k = onS (maxL l) fun m => k (.val (.int m)) := by
  show onS (Option.map _ ((intsOf (.lst (zInts l))).bind maxL)) k = _
  rw [show intsOf (.lst (zInts l)) = some l from unI_z l]; exact on_map
theorem min_l {l : List Int} : onS (minF [.lst (zInts l)]) k = onS (minL l) fun m => k (.val (.int m)) := by
  show onS (Option.map _ ((intsOf (.lst (zInts l))).bind minL)) k = _
  rw [show intsOf (.lst (zInts l)) = some l from unI_z l]; exact on_map
theorem kb_ii : kitB "int" "int" = some true := by decide +kernel
theorem kb_bi : kitB "bool" "int" = some true := by decide +kernel
theorem kb_ib : kitB "int" "bool" = some false := by decide +kernel
theorem kb_bb : kitB "bool" "bool" = some true := by decide +kernel
theorem kb_ll : kitB "list" "list" = some true := by decide +kernel
theorem kb_li : kitB "list" "int" = some false := by decide +kernel
theorem kb_il : kitB "int" "list" = some false := by decide +kernel
theorem isi_i : onS (isiF [.int i', .ty "int"]) k = k (.val (.bl true)) := by
  show onS ((kitB "int" "int").map fun b => TV.val (.bl b)) k = _
  rw [kb_ii]; rfl
theorem isi_ib : onS (isiF [.int i', .ty "bool"]) k = k (.val (.bl false)) := by
  show onS ((kitB "int" "bool").map fun b => TV.val (.bl b)) k = _
  rw [kb_ib]; rfl
theorem isi_bi {b : Bool} : onS (isiF [.bl b, .ty "int"]) k = k (.val (.bl true)) := by
  show onS ((kitB "bool" "int").map fun b => TV.val (.bl b)) k = _
  rw [kb_bi]; rfl
theorem isi_bb {b : Bool} : onS (isiF [.bl b, .ty "bool"]) k = k (.val (.bl true)) := by
  show onS ((kitB "bool" "bool").map fun b => TV.val (.bl b)) k = _
  rw [kb_bb]; rfl
theorem isi_l : onS (isiF [.lst xs, .ty "list"]) k = k (.val (.bl true)) := by
  show onS ((kitB "list" "list").map fun b => TV.val (.bl b)) k = _
  rw [kb_ll]; rfl
/-! the entry, the end -/
theorem ends_nx {Q : TV → Prop} {E : DErr → Prop} : (ends Q E).nx S = Q (.val .non) := rfl
theorem ends_rt {Q : TV → Prop} {E : DErr → Prop} : (ends Q E).rt z S = retK S z Q := rfl
theorem ends_ex {Q : TV → Prop} {E : DErr → Prop} {e : DErr} : (ends Q E).ex e S = E e := rfl
theorem retK_v {Q : TV → Prop} : retK S (.val x) Q = Q (.val x) := rfl
theorem retK_o {Q : TV → Prop} : retK S (.own so) Q = Q (.own so) := rfl
def retS (v : SV) (Q : TV → Prop) : Prop := match v with
  | .own s => Q (.own s)
  | .val x => Q (.val x)
  | _ => False
theorem retS_o {Q : TV → Prop} : retS (.own so) Q = Q (.own so) := rfl
theorem retS_v {Q : TV → Prop} : retS (.val x) Q = Q (.val x) := rfl
theorem retK_s {Q : TV → Prop} : retK ⟨g, o⟩ (.slt i) Q = gx i g fun v => retS v Q := by
  rw [gx_eq]
  show (match g[i]? with
    | some (some (.own s)) => Q (.own s)
    | some (some (.val x)) => Q (.val x)
    | _ => False) = _
  cases g[i]? with
  | none => rfl
  | some u => cases u with
    | none => rfl
    | some v => cases v <;> rfl
theorem endsG_nx {Q : TV → OM → Prop} {E : DErr → OM → Prop} : (endsG Q E).nx ⟨g, o⟩ = ∃ O', SubO O' o ∧ Q (.val .non) O' := rfl
theorem endsG_rt {Q : TV → OM → Prop} {E : DErr → OM → Prop} : (endsG Q E).rt z S = retG S z Q := rfl
theorem endsG_ex {Q : TV → OM → Prop} {E : DErr → OM → Prop} {e : DErr} : (endsG Q E).ex e ⟨g, o⟩ = ∃ O', SubO O' o ∧ E e O' := rfl
theorem retG_v {Q : TV → OM → Prop} : retG ⟨g, o⟩ (.val x) Q = ∃ O', SubO O' o ∧ Q (.val x) O' := rfl
theorem retG_o {Q : TV → OM → Prop} : retG ⟨g, o⟩ (.own so) Q = ∃ O', SubO O' o ∧ Q (.own so) O' := rfl
theorem retG_r {Q : TV → OM → Prop} : retG ⟨g, o⟩ (.rf p) Q = ∃ O', SubO O' o ∧ Q (.rf p) O' := rfl
def retGS (v : SV) (o : OM) (Q : TV → OM → Prop) : Prop := match v with
  | .own s => ∃ O', SubO O' o ∧ Q (.own s) O'
  | .val x => ∃ O', SubO O' o ∧ Q (.val x) O'
  | .rf a => onS (o a) fun so => ∃ O', SubO O' o ∧ O' a = none ∧ Q (.own so) O'
  | .err _ _ _ _ => False
theorem retGS_r {Q : TV → OM → Prop} : retGS (.rf p) o Q = onS (o p) fun so => ∃ O', SubO O' o ∧ O' p = none ∧ Q (.own so) O' := rfl
theorem retGS_o {Q : TV → OM → Prop} : retGS (.own so) o Q = ∃ O', SubO O' o ∧ Q (.own so) O' := rfl
theorem retGS_v {Q : TV → OM → Prop} : retGS (.val x) o Q = ∃ O', SubO O' o ∧ Q (.val x) O' := rfl
theorem retG_s {Q : TV → OM → Prop} : retG ⟨g, o⟩ (.slt i) Q = gx i g fun v => retGS v o Q := by
  rw [gx_eq]
  show (match g[i]? with
    | some (some (.own s)) => ∃ O', SubO O' o ∧ Q (.own s) O'
    | some (some (.val x)) => ∃ O', SubO O' o ∧ Q (.val x) O'
    | some (some (.rf a)) => onS (o a) fun so => ∃ O', SubO O' o ∧ O' a = none ∧ Q (.own so) O'
    | _ => False) = _
  cases g[i]? with
  | none => rfl
  | some u => cases u with
    | none => rfl
    | some v => cases v <;> rfl
theorem al_nil : allVal [] = true := rfl
theorem al_s {r : List TV} : allVal (.slt i :: r) = false := rfl
theorem al_r {r : List TV} : allVal (.rf p :: r) = false := rfl
theorem al_o {r : List TV} : allVal (.own so :: r) = false := rfl
end L3

/-! L3i: the engine; printed by mkstep.py from L3h's equations. -/
namespace L3
open PySem PySem.Spec PyProof.Rows L2
/-- one step of a reading, from the goal P to the goal R -/
class Step (P : Prop) (R : outParam Prop) : Prop where
  mp : R → P
/-- as many as there are -/
class Go (P : Prop) (R : outParam Prop) : Prop where
  mp : R → P
instance (priority := 10) go_stop {P : Prop} : Go P P := ⟨id⟩
instance go_step {P R T : Prop} [a : Step P R] [b : Go R T] : Go P T := ⟨fun h => a.mp (b.mp h)⟩
theorem go {P R : Prop} [a : Go P R] (h : R) : P := a.mp h

variable {v v' : SV} {g : List (Option SV)} {n i j : Nat} {a b : Option SV} {o : OM} {S : DSt} {x y : DV} {so : SO} {p : Addr} {z : TV}
instance p_gx_0 {k : SV → Prop} : Step (gx 0 (some v :: g) k) (k v) := ⟨Eq.mpr gx_0⟩
instance p_gx_s {k : SV → Prop} : Step (gx (n + 1) (a :: g) k) (gx n g k) := ⟨Eq.mpr gx_s⟩
instance p_sx_0 {k : List (Option SV) → Prop} : Step (sx 0 (a :: g) b k) (k (b :: g)) := ⟨Eq.mpr sx_0⟩
instance p_sx_s {k : List (Option SV) → Prop} : Step (sx (n + 1) (a :: g) b k) (sx n g b fun g' => k (a :: g')) := ⟨Eq.mpr sx_s⟩
instance p_wx_0 {k : List (Option SV) → Prop} : Step (wx [] g k) (k g) := ⟨Eq.mpr wx_0⟩
instance p_wx_s {ks : List Nat} {k : List (Option SV) → Prop} : Step (wx (i :: ks) g k) (sx i g none fun g' => wx ks g' k) := ⟨Eq.mpr wx_s⟩
instance p_svQ_v {Q : TV → DSt → Prop} : Step (svQ i (.val x) S Q) (Q (.val x) S) := ⟨Eq.mpr svQ_v⟩
instance p_svQ_o {Q : TV → DSt → Prop} : Step (svQ i (.own so) S Q) (Q (.slt i) S) := ⟨Eq.mpr svQ_o⟩
instance p_svQ_r {Q : TV → DSt → Prop} : Step (svQ i (.rf p) S Q) (Q (.rf p) S) := ⟨Eq.mpr svQ_r⟩
instance p_r_var {Q : TV → DSt → Prop} {E : DErr → DSt → Prop} : Step (dVar i ⟨g, o⟩ Q E) (gx i g fun v => svQ i v ⟨g, o⟩ Q) := ⟨Eq.mpr r_var⟩
instance p_r_c {Q : TV → DSt → Prop} {E : DErr → DSt → Prop} : Step (dC x S Q E) (Q (.val x) S) := ⟨Eq.mpr r_c⟩
instance p_r_val {d : DX} {Q : TV → DSt → Prop} {E : DErr → DSt → Prop} : Step (dVal d S Q E) (d S (fun x S1 => Q (.val x) S1) E) := ⟨Eq.mpr r_val⟩
instance p_r_frz {d : DE} {Q : DV → DSt → Prop} {E : DErr → DSt → Prop} : Step (dFrz d S Q E) (d S (fun y S1 => frzK S1 y Q) E) := ⟨Eq.mpr r_frz⟩
instance p_frzK_v {Q : DV → DSt → Prop} : Step (frzK S (.val x) Q) (Q x S) := ⟨Eq.mpr frzK_v⟩
instance p_frzK_r {Q : DV → DSt → Prop} : Step (frzK S (.rf p) Q) (Q (.ref p) S) := ⟨Eq.mpr frzK_r⟩
instance p_frzK_l {Q : DV → DSt → Prop} {xs : List DV} : Step (frzK S (.own (.lst xs)) Q) (Q (.lst xs) S) := ⟨Eq.mpr frzK_l⟩
instance p_frzK_t {Q : DV → DSt → Prop} {xs : List (List Key × DV)} : Step (frzK S (.own (.dit xs)) Q) (Q (.dit xs) S) := ⟨Eq.mpr frzK_t⟩
instance p_frzK_d {Q : DV → DSt → Prop} {xs : List (Key × DV)} : Step (frzK S (.own (.dic xs)) Q) (Q (.dic xs) S) := ⟨Eq.mpr frzK_d⟩
instance p_frzS_v {Q : DV → DSt → Prop} : Step (frzS i (.val x) g o Q) (Q x ⟨g, o⟩) := ⟨Eq.mpr frzS_v⟩
instance p_frzS_r {Q : DV → DSt → Prop} : Step (frzS i (.rf p) g o Q) (Q (.ref p) ⟨g, o⟩) := ⟨Eq.mpr frzS_r⟩
instance p_frzS_l {Q : DV → DSt → Prop} {xs : List DV} : Step (frzS i (.own (.lst xs)) g o Q) (sx i g (some (.val (.lst xs))) fun g' => Q (.lst xs) ⟨g', o⟩) := ⟨Eq.mpr frzS_l⟩
instance p_frzS_t {Q : DV → DSt → Prop} {xs : List (List Key × DV)} : Step (frzS i (.own (.dit xs)) g o Q) (sx i g (some (.val (.dit xs))) fun g' => Q (.dit xs) ⟨g', o⟩) := ⟨Eq.mpr frzS_t⟩
instance p_frzS_d {Q : DV → DSt → Prop} {xs : List (Key × DV)} : Step (frzS i (.own (.dic xs)) g o Q) (sx i g (some (.val (.dic xs))) fun g' => Q (.dic xs) ⟨g', o⟩) := ⟨Eq.mpr frzS_d⟩
instance p_frzK_s {Q : DV → DSt → Prop} : Step (frzK ⟨g, o⟩ (.slt i) Q) (gx i g fun v => frzS i v g o Q) := ⟨Eq.mpr frzK_s⟩
instance p_r_map {d : DE} {Q : DV → DSt → Prop} {E : DErr → DSt → Prop} : Step (dMap d S Q E) (d S (fun y S1 => mapK S1 y Q) E) := ⟨Eq.mpr r_map⟩
instance p_mapK_v {Q : DV → DSt → Prop} : Step (mapK S (.val x) Q) (Q x S) := ⟨Eq.mpr mapK_v⟩
instance p_mapK_r {Q : DV → DSt → Prop} : Step (mapK S (.rf p) Q) (Q (.ref p) S) := ⟨Eq.mpr mapK_r⟩
instance p_mapK_o {Q : DV → DSt → Prop} : Step (mapK ⟨g, o⟩ (.own so) Q) (∀ p, o p = none → Q (.ref p) ⟨g, updO o p so⟩) := ⟨Eq.mpr mapK_o⟩
instance p_mapS_o {Q : DV → DSt → Prop} : Step (mapS i (.own so) g o Q) (∀ p, o p = none → sx i g (some (.rf p)) fun g' => Q (.ref p) ⟨g', updO o p so⟩) := ⟨Eq.mpr mapS_o⟩
instance p_mapS_r {Q : DV → DSt → Prop} : Step (mapS i (.rf p) g o Q) (Q (.ref p) ⟨g, o⟩) := ⟨Eq.mpr mapS_r⟩
instance p_mapK_s {Q : DV → DSt → Prop} : Step (mapK ⟨g, o⟩ (.slt i) Q) (gx i g fun v => mapS i v g o Q) := ⟨Eq.mpr mapK_s⟩
instance p_tree_vi {k : DV → Prop} {i : Int} : Step (onS (tree S (.val (.int i))) k) (k (.int i)) := ⟨Eq.mpr tree_vi⟩
instance p_tree_vb {k : DV → Prop} {b : Bool} : Step (onS (tree S (.val (.bl b))) k) (k (.bl b)) := ⟨Eq.mpr tree_vb⟩
instance p_tree_vn {k : DV → Prop} : Step (onS (tree S (.val .non)) k) (k .non) := ⟨Eq.mpr tree_vn⟩
instance p_tree_vs {k : DV → Prop} {s : Str} : Step (onS (tree S (.val (.str s))) k) (k (.str s)) := ⟨Eq.mpr tree_vs⟩
instance p_tree_vt {k : DV → Prop} {s : String} : Step (onS (tree S (.val (.ty s))) k) (k (.ty s)) := ⟨Eq.mpr tree_vt⟩
instance p_tree_vl {k : DV → Prop} {xs : List DV} : Step (onS (tree S (.val (.lst xs))) k) (k (.lst xs)) := ⟨Eq.mpr tree_vl⟩
instance p_tree_vu {k : DV → Prop} {xs : List DV} : Step (onS (tree S (.val (.tup xs))) k) (k (.tup xs)) := ⟨Eq.mpr tree_vu⟩
instance p_tree_vq {k : DV → Prop} {xs : List DV} : Step (onS (tree S (.val (.seq xs))) k) (k (.seq xs)) := ⟨Eq.mpr tree_vq⟩
instance p_tree_vdt {k : DV → Prop} {xs : List (List Key × DV)} : Step (onS (tree S (.val (.dit xs))) k) (k (.dit xs)) := ⟨Eq.mpr tree_vdt⟩
instance p_tree_vd {k : DV → Prop} {xs : List (Key × DV)} : Step (onS (tree S (.val (.dic xs))) k) (k (.dic xs)) := ⟨Eq.mpr tree_vd⟩
instance p_tree_vo {k : DV → Prop} {s : Str} : Step (onS (tree S (.val (.obj s))) k) (k (.obj s)) := ⟨Eq.mpr tree_vo⟩
instance p_tree_vr {k : DV → Prop} : Step (onS (tree ⟨g, o⟩ (.val (.ref p))) k) (onS ((o p).bind soT) k) := ⟨Eq.mpr tree_vr⟩
instance p_tree_l {k : DV → Prop} {xs : List DV} : Step (onS (tree S (.own (.lst xs))) k) (k (.lst xs)) := ⟨Eq.mpr tree_l⟩
instance p_tree_dt {k : DV → Prop} {xs : List (List Key × DV)} : Step (onS (tree S (.own (.dit xs))) k) (k (.dit xs)) := ⟨Eq.mpr tree_dt⟩
instance p_tree_d {k : DV → Prop} {xs : List (Key × DV)} : Step (onS (tree S (.own (.dic xs))) k) (k (.dic xs)) := ⟨Eq.mpr tree_d⟩
instance p_svT_v {k : DV → Prop} : Step (svT (.val x) o k) (k x) := ⟨Eq.mpr svT_v⟩
instance p_svT_l {k : DV → Prop} {xs : List DV} : Step (svT (.own (.lst xs)) o k) (k (.lst xs)) := ⟨Eq.mpr svT_l⟩
instance p_svT_dt {k : DV → Prop} {xs : List (List Key × DV)} : Step (svT (.own (.dit xs)) o k) (k (.dit xs)) := ⟨Eq.mpr svT_dt⟩
instance p_svT_d {k : DV → Prop} {xs : List (Key × DV)} : Step (svT (.own (.dic xs)) o k) (k (.dic xs)) := ⟨Eq.mpr svT_d⟩
instance p_svT_r {k : DV → Prop} : Step (svT (.rf p) o k) (onS ((o p).bind soT) k) := ⟨Eq.mpr svT_r⟩
instance p_tree_s {k : DV → Prop} : Step (onS (tree ⟨g, o⟩ (.slt i)) k) (gx i g fun v => svT v o k) := ⟨Eq.mpr tree_s⟩
instance p_tree_r {k : DV → Prop} : Step (onS (tree ⟨g, o⟩ (.rf p)) k) (onS ((o p).bind soT) k) := ⟨Eq.mpr tree_r⟩
instance p_soB_l {k : DV → Prop} {xs : List DV} : Step (onS ((some (SO.lst xs)).bind soT) k) (k (.lst xs)) := ⟨Eq.mpr soB_l⟩
instance p_soB_dt {k : DV → Prop} {xs : List (List Key × DV)} : Step (onS ((some (SO.dit xs)).bind soT) k) (k (.dit xs)) := ⟨Eq.mpr soB_dt⟩
instance p_soB_d {k : DV → Prop} {xs : List (Key × DV)} : Step (onS ((some (SO.dic xs)).bind soT) k) (k (.dic xs)) := ⟨Eq.mpr soB_d⟩
instance p_ta_nil {k : List DV → Prop} : Step (onS (treeAll S []) k) (k []) := ⟨Eq.mpr ta_nil⟩
instance p_ta_cons {k : List DV → Prop} {ys : List TV} : Step (onS (treeAll S (z :: ys)) k) (onS (tree S z) fun x => onS (treeAll S ys) fun xs => k (x :: xs)) := ⟨Eq.mpr ta_cons⟩
instance p_on_some {α : Type} {x : α} {k : α → Prop} : Step (onS (some x) k) (k x) := ⟨Eq.mpr on_some⟩
variable {f : DV → Option TV} {f2 : DV → DV → Option TV} {fN : List DV → Option TV} {da db dc : DE} {dB : DB} {dA : DA} {dX : DX} {Q : TV → DSt → Prop} {E : DErr → DSt → Prop}
instance p_r_1 : Step (d1 f da S Q E) (da S (fun y S1 => onS (tree S1 y) fun x => onS (f x) fun z => Q z S1) E) := ⟨Eq.mpr r_1⟩
instance p_r_2 : Step (d2 f2 da db S Q E) (da S (fun y S1 => db S1 (fun y' S2 => onS (tree S2 y) fun x => onS (tree S2 y') fun x' => onS (f2 x x') fun z => Q z S2) E) E) := ⟨Eq.mpr r_2⟩
instance p_r_N : Step (dN fN dB S Q E) (dB S (fun ys S1 => onS (treeAll S1 ys) fun xs => onS (fN xs) fun z => Q z S1) E) := ⟨Eq.mpr r_N⟩
instance p_r_Bn {Q : List TV → DSt → Prop} : Step (dBnil S Q E) (Q [] S) := ⟨Eq.mpr r_Bn⟩
instance p_r_Bc {Q : List TV → DSt → Prop} : Step (dBcons da dB S Q E) (da S (fun y S1 => dB S1 (fun ys S2 => Q (y :: ys) S2) E) E) := ⟨Eq.mpr r_Bc⟩
instance p_r_An {Q : List DV → DSt → Prop} : Step (dAnil S Q E) (Q [] S) := ⟨Eq.mpr r_An⟩
instance p_r_Ac {Q : List DV → DSt → Prop} : Step (dAcons dX dA S Q E) (dX S (fun y S1 => dA S1 (fun ys S2 => Q (y :: ys) S2) E) E) := ⟨Eq.mpr r_Ac⟩
instance p_r_andV : Step (dAndV da db S Q E) (da S (fun y S1 => blK y fun b => if b = true then db S1 Q E else Q (.val (.bl false)) S1) E) := ⟨Eq.mpr r_andV⟩
instance p_r_orV : Step (dOrV da db S Q E) (da S (fun y S1 => blK y fun b => if b = true then Q (.val (.bl true)) S1 else db S1 Q E) E) := ⟨Eq.mpr r_orV⟩
instance p_r_notV : Step (dNotV da S Q E) (da S (fun y S1 => blK y fun b => Q (.val (.bl (!b))) S1) E) := ⟨Eq.mpr r_notV⟩
instance p_r_ifV {c : DT} : Step (dIfV c da db S Q E) (c S (fun b S1 => if b = true then da S1 Q E else db S1 Q E) E) := ⟨Eq.mpr r_ifV⟩
instance p_r_tup : Step (dTup dA S Q E) (dA S (fun xs S1 => xs.length ≤ sizeLine ∧ Q (.val (.tup xs)) S1) E) := ⟨Eq.mpr r_tup⟩
instance p_r_lst : Step (dLst dA S Q E) (dA S (fun xs S1 => xs.length ≤ sizeLine ∧ Q (.own (.lst xs)) S1) E) := ⟨Eq.mpr r_lst⟩
instance p_r_sl {dl dh : DO} : Step (dSl da dl dh S Q E) (da S (fun y S1 => dl S1 (fun l S2 => dh S2 (fun h S3 => onS (tree S3 y) fun x => onS (seqL x) fun xs => Q (.own (.lst (cutD xs l h))) S3) E) E) E) := ⟨Eq.mpr r_sl⟩
instance p_r_part {Q : Option Int → DSt → Prop} : Step (dPart da S Q E) (da S (fun y S1 => intK y fun i => Q (some i) S1) E) := ⟨Eq.mpr r_part⟩
instance p_r_nopart {Q : Option Int → DSt → Prop} : Step (dNoPart S Q E) (Q none S) := ⟨Eq.mpr r_nopart⟩
instance p_blK_v {b : Bool} {k : Bool → Prop} : Step (blK (.val (.bl b)) k) (k b) := ⟨Eq.mpr blK_v⟩
instance p_intK_v {i : Int} {k : Int → Prop} : Step (intK (.val (.int i)) k) (k i) := ⟨Eq.mpr intK_v⟩
instance p_seq_l {xs : List DV} {k : List DV → Prop} : Step (onS (seqL (.lst xs)) k) (k xs) := ⟨Eq.mpr seq_l⟩
instance p_seq_s {xs : List DV} {k : List DV → Prop} : Step (onS (seqL (.seq xs)) k) (k xs) := ⟨Eq.mpr seq_s⟩
variable {dt du : DT} {Qt : Bool → DSt → Prop}
instance p_r_test : Step (dTest da S Qt E) (da S (fun y S1 => blK y fun b => Qt b S1) E) := ⟨Eq.mpr r_test⟩
instance p_r_and : Step (dAnd dt du S Qt E) (dt S (fun b S1 => if b = true then du S1 Qt E else Qt false S1) E) := ⟨Eq.mpr r_and⟩
instance p_r_or : Step (dOr dt du S Qt E) (dt S (fun b S1 => if b = true then Qt true S1 else du S1 Qt E) E) := ⟨Eq.mpr r_or⟩
instance p_r_not : Step (dNot dt S Qt E) (dt S (fun b S1 => Qt (!b) S1) E) := ⟨Eq.mpr r_not⟩
instance p_r_yes : Step (dYes S Qt E) (Qt true S) := ⟨Eq.mpr r_yes⟩
variable {d u : DS} {D : DEnds} {ks : List Nat}
instance p_r_next : Step (dNext S D) (D.nx S) := ⟨Eq.mpr r_next⟩
instance p_r_seq : Step (dSeq d u S D) (d S { D with nx := fun S1 => u S1 D }) := ⟨Eq.mpr r_seq⟩
instance p_r_drop : Step (dDrop da S D) (da S (fun _ S1 => D.nx S1) D.ex) := ⟨Eq.mpr r_drop⟩
instance p_r_ret : Step (dRet da S D) (da S D.rt D.ex) := ⟨Eq.mpr r_ret⟩
instance p_r_retN : Step (dRetN S D) (D.rt (.val .non) S) := ⟨Eq.mpr r_retN⟩
instance p_r_if {c : DT} : Step (dIf c d u S D) (c S (fun b S1 => if b = true then d S1 D else u S1 D) D.ex) := ⟨Eq.mpr r_if⟩
instance p_r_brk : Step (dBrk S D) (D.bk S) := ⟨Eq.mpr r_brk⟩
instance p_r_cnt : Step (dCnt S D) (D.ct S) := ⟨Eq.mpr r_cnt⟩
instance p_putS_ {k : DSt → Prop} : Step (putS i v ⟨g, o⟩ k) (sx i g (some v) fun g' => k ⟨g', o⟩) := ⟨Eq.mpr putS_⟩
instance p_wipeS_ {k : DSt → Prop} : Step (wipeS ks ⟨g, o⟩ k) (wx ks g fun g' => k ⟨g', o⟩) := ⟨Eq.mpr wipeS_⟩
instance p_r_set : Step (dSet i da S D) (da S (fun y S1 => setK i y S1 D.nx) D.ex) := ⟨Eq.mpr r_set⟩
instance p_setK_v {k : DSt → Prop} : Step (setK i (.val x) S k) (putS i (.val x) S k) := ⟨Eq.mpr setK_v⟩
instance p_setK_o {k : DSt → Prop} : Step (setK i (.own so) S k) (putS i (.own so) S k) := ⟨Eq.mpr setK_o⟩
instance p_setK_r {k : DSt → Prop} : Step (setK i (.rf p) S k) (putS i (.rf p) S k) := ⟨Eq.mpr setK_r⟩
instance p_r_setR : Step (dSetR i da S D) (da S (fun y S1 => setR i y S1 D.nx) D.ex) := ⟨Eq.mpr r_setR⟩
instance p_setR_vr {k : DSt → Prop} : Step (setR i (.val (.ref p)) S k) (putS i (.rf p) S k) := ⟨Eq.mpr setR_vr⟩
instance p_setR_r {k : DSt → Prop} : Step (setR i (.rf p) S k) (putS i (.rf p) S k) := ⟨Eq.mpr setR_r⟩
instance p_setR_o {k : DSt → Prop} : Step (setR i (.own so) ⟨g, o⟩ k) (∀ p, o p = none → sx i g (some (.rf p)) fun g' => k ⟨g', updO o p so⟩) := ⟨Eq.mpr setR_o⟩
instance p_r_setX : Step (dSetX i dX S D) (dX S (fun x S1 => putS i (.val x) S1 D.nx) D.ex) := ⟨Eq.mpr r_setX⟩
instance p_r_wipe : Step (dWipe ks d S D) (d S { D with nx := fun S1 => wipeS ks S1 D.nx }) := ⟨Eq.mpr r_wipe⟩
instance p_augS_v {f : DV → DV → Option DV} : Step (augS i (.val x) f da S D) (da S (fun y S1 => onS (tree S1 y) fun y => onS (f x y) fun z => putS i (.val z) S1 D.nx) D.ex) := ⟨Eq.mpr augS_v⟩
instance p_r_aug {f : DV → DV → Option DV} : Step (dAug i f da ⟨g, o⟩ D) (gx i g fun v => augS i v f da ⟨g, o⟩ D) := ⟨Eq.mpr r_aug⟩
instance p_r_unp {dg : DG} : Step (dUnp dX dg S D) (dX S (fun x S1 => dg x S1 D.nx) D.ex) := ⟨Eq.mpr r_unp⟩
instance p_r_gN {k : DSt → Prop} : Step (gN i x S k) (putS i (.val x) S k) := ⟨Eq.mpr r_gN⟩
instance p_r_gT {m : Nat} {dg : DGs} {xs : List DV} {k : DSt → Prop} : Step (gT m dg (.tup xs) S k) ((xs.length = m ∧ dg xs S k)) := ⟨Eq.mpr r_gT⟩
instance p_r_gNs {dg : DG} {dgs : DGs} {xs : List DV} {k : DSt → Prop} : Step (gNs dg dgs (x :: xs) S k) (dg x S fun S1 => dgs xs S1 k) := ⟨Eq.mpr r_gNs⟩
instance p_r_gN0 {xs : List DV} {k : DSt → Prop} : Step (gN0 xs S k) ((xs = [] ∧ k S)) := ⟨Eq.mpr r_gN0⟩
instance p_r_for {di : DI} {dg : DG} : Step (dFor di dg d ks S D) (di S (fun xs S1 => forP dg d ks xs S1 D) D.ex) := ⟨Eq.mpr r_for⟩
instance p_for_nil {dg : DG} : Step (forP dg d ks [] S D) (D.nx S) := ⟨Eq.mpr for_nil⟩
instance p_for_cons {dg : DG} {xs : List DV} : Step (forP dg d ks (x :: xs) S D) (dg x S fun S1 => d S1 { nx := fun S2 => wipeS ks S2 fun S3 => forP dg d ks xs S3 D, rt := D.rt, bk := D.nx, ct := fun S2 => wipeS ks S2 fun S3 => forP dg d ks xs S3 D, ex := D.ex }) := ⟨Eq.mpr for_cons⟩
instance p_while_s : Step (whileP dt d ks (n + 1) S D) (dt S (fun t S1 => if t = true then d S1 { nx := fun S2 => wipeS ks S2 fun S3 => whileP dt d ks n S3 D, rt := D.rt, bk := D.nx, ct := fun S2 => wipeS ks S2 fun S3 => whileP dt d ks n S3 D, ex := D.ex } else D.nx S1) D.ex) := ⟨Eq.mpr while_s⟩
variable {Qi : List DV → DSt → Prop}
instance p_r_iL : Step (iL dX S Qi E) (dX S (fun x S1 => onS (seqL x) fun xs => Qi xs S1) E) := ⟨Eq.mpr r_iL⟩
instance p_r_iE : Step (iE dX S Qi E) (dX S (fun x S1 => onS (seqL x) fun xs => Qi (enumD xs) S1) E) := ⟨Eq.mpr r_iE⟩
instance p_r_iV : Step (iV dX S Qi E) (dX S (fun x S1 => onS (seqL x) fun xs => Qi xs.reverse S1) E) := ⟨Eq.mpr r_iV⟩
instance p_r_iR1 : Step (iR1 da S Qi E) (da S (fun y S1 => intK y fun j => small62 j ∧ Qi (rngD 0 j.toNat) S1) E) := ⟨Eq.mpr r_iR1⟩
instance p_r_iR2 : Step (iR2 da db S Qi E) (da S (fun y S1 => db S1 (fun y' S2 => intK y fun i => intK y' fun j => (small62 i ∧ small62 j) ∧ Qi (rngD i (j - i).toNat) S2) E) E) := ⟨Eq.mpr r_iR2⟩
instance p_r_lc {di : DI} {dg : DG} {dt : DT} : Step (dLc di dg dt dX ks S Q E) (di S (fun xs S1 => wipeS ks S1 fun S2 => lcP dg dt dX ks xs [] S2 fun acc S2 => Q (.own (.lst acc)) S2) E) := ⟨Eq.mpr r_lc⟩
instance p_lc_nil {dg : DG} {acc : List DV} : Step (lcP dg dt dX ks [] acc S Qi) (Qi acc S) := ⟨Eq.mpr lc_nil⟩
instance p_lc_cons {dg : DG} {acc xs : List DV} : Step (lcP dg dt dX ks (x :: xs) acc S Qi) (dg x S fun S1 => dt S1 (fun b S2 => if b = true then dX S2 (fun z S3 => acc.length < sizeLine ∧ wipeS ks S3 fun S4 => lcP dg dt dX ks xs (acc ++ [z]) S4 Qi) (fun _ _ => False) else wipeS ks S2 fun S4 => lcP dg dt dX ks xs acc S4 Qi) (fun _ _ => False)) := ⟨Eq.mpr lc_cons⟩
instance p_r_call {ps : PSp} : Step (dCall ps dB S Q E) (dB S (fun ys S1 => onS (treeAll S1 ys) fun xs => ps xs (fun z => (allVal ys = true ∨ flatT z = true) ∧ Q z S1) (fun e => (allVal ys = true ∨ flatE e = true) ∧ E e S1)) E) := ⟨Eq.mpr r_call⟩
instance p_r_callG {gs : GSp} : Step (dCallG gs dA S Q E) (dA S (fun xs S1 => callS gs xs S1 Q E) E) := ⟨Eq.mpr r_callG⟩
instance p_r_callS {gs : GSp} {xs : List DV} : Step (callS gs xs ⟨g, o⟩ Q E) (gs xs o (fun y O' => Q y ⟨g, O'⟩) (fun e O' => E e ⟨g, O'⟩)) := ⟨Eq.mpr r_callS⟩
instance p_mut_s {k : SO → (SO → DSt) → Prop} : Step (mutC ⟨g, o⟩ (.slt j) k) (gx j g fun v => mutS j v g o k) := ⟨Eq.mpr mut_s⟩
instance p_mutS_o {k : SO → (SO → DSt) → Prop} : Step (mutS j (.own so) g o k) (k so fun s' => ⟨g.set j (some (.own s')), o⟩) := ⟨Eq.mpr mutS_o⟩
instance p_mutS_r {k : SO → (SO → DSt) → Prop} : Step (mutS j (.rf p) g o k) (onS (o p) fun s => k s fun s' => ⟨g, updO o p s'⟩) := ⟨Eq.mpr mutS_r⟩
instance p_mut_r {k : SO → (SO → DSt) → Prop} : Step (mutC ⟨g, o⟩ (.rf p) k) (onS (o p) fun s => k s fun s' => ⟨g, updO o p s'⟩) := ⟨Eq.mpr mut_r⟩
instance p_mut_v {k : SO → (SO → DSt) → Prop} : Step (mutC ⟨g, o⟩ (.val (.ref p)) k) (onS (o p) fun s => k s fun s' => ⟨g, updO o p s'⟩) := ⟨Eq.mpr mut_v⟩
instance p_inS_set {k : DSt → Prop} : Step (inS ⟨g.set j a, o⟩ k) (sx j g a fun g' => k ⟨g', o⟩) := ⟨Eq.mpr inS_set⟩
instance p_inS_upd {so : SO} {k : DSt → Prop} : Step (inS ⟨g, updO o p so⟩ k) (k ⟨g, updO o p so⟩) := ⟨Eq.mpr inS_upd⟩
instance p_lstK_l {xs : List DV} {k : List DV → Prop} : Step (lstK (.lst xs) k) (k xs) := ⟨Eq.mpr lstK_l⟩
instance p_isL_s {R : Prop} : Step (isL ⟨g, o⟩ (.slt j) R) (gx j g fun v => isLv v o R) := ⟨Eq.mpr isL_s⟩
instance p_isLv_o {R : Prop} {xs : List DV} : Step (isLv (.own (.lst xs)) o R) (R) := ⟨Eq.mpr isLv_o⟩
instance p_isLv_r {R : Prop} : Step (isLv (.rf p) o R) (isLo (o p) R) := ⟨Eq.mpr isLv_r⟩
instance p_isLo_l {R : Prop} {xs : List DV} : Step (isLo (some (.lst xs)) R) (R) := ⟨Eq.mpr isLo_l⟩
instance p_isL_r {R : Prop} : Step (isL ⟨g, o⟩ (.rf p) R) (isLo (o p) R) := ⟨Eq.mpr isL_r⟩
instance p_isL_v {R : Prop} : Step (isL ⟨g, o⟩ (.val (.ref p)) R) (isLo (o p) R) := ⟨Eq.mpr isL_v⟩
instance p_r_bm {fm : List DV → List DV → Option (List DV × DV)} : Step (dBM fm da dA S Q E) (da S (fun y S1 => isL S1 y (dA S1 (fun as S2 => mutC S2 y fun o put => lstK o fun xs => onS (fm xs as) fun r => inS (put (.lst r.1)) fun S3 => Q (.val r.2) S3) E)) E) := ⟨Eq.mpr r_bm⟩
instance p_lsx_0 {xs : List DV} {k : List DV → Prop} : Step (lsx 0 (y :: xs) x k) (k (x :: xs)) := ⟨Eq.mpr lsx_0⟩
instance p_lsx_s {xs : List DV} {k : List DV → Prop} : Step (lsx (n + 1) (y :: xs) x k) (lsx n xs x fun r => k (y :: r)) := ⟨Eq.mpr lsx_s⟩
instance p_r_setItem {dv : DX} : Step (dSetItem dv da db S D) (dv S (fun x S1 => da S1 (fun y S2 => db S2 (fun i S3 => intK i fun k => mutC S3 y fun o put => lstK o fun xs => onS (ixN xs.length k) fun j => lsx j xs x fun xs' => inS (put (.lst xs')) D.nx) D.ex) D.ex) D.ex) := ⟨Eq.mpr r_setItem⟩
instance p_app_one {xs : List DV} {k : List DV × DV → Prop} : Step (onS (appF xs [y]) k) ((xs.length < sizeLine ∧ k (xs ++ [y], .non))) := ⟨Eq.mpr app_one⟩
variable {i' j' : Int} {k : TV → Prop} {xs ys : List DV} {s t : Str}
instance p_add_ii : Step (onS (addF (.int i') (.int j')) k) (k (.val (.int (i' + j')))) := ⟨Eq.mpr add_ii⟩
instance p_add_ss : Step (onS (addF (.str s) (.str t)) k) ((s.length + t.length ≤ sizeLine ∧ k (.val (.str (s ++ t))))) := ⟨Eq.mpr add_ss⟩
instance p_add_ll : Step (onS (addF (.lst xs) (.lst ys)) k) ((xs.length + ys.length ≤ sizeLine ∧ k (.own (.lst (xs ++ ys))))) := ⟨Eq.mpr add_ll⟩
instance p_sub_ii : Step (onS (subF (.int i') (.int j')) k) (k (.val (.int (i' - j')))) := ⟨Eq.mpr sub_ii⟩
instance p_mul_ii : Step (onS (mulB (.int i') (.int j')) k) ((CMulA i' j' ∧ k (.val (.int (i' * j'))))) := ⟨Eq.mpr mul_ii⟩
instance p_mul_li : Step (onS (mulB (.lst xs) (.int j')) k) (((-(2 ^ 63) ≤ j' ∧ j' < 2 ^ 63 ∧ xs.length * j'.toNat ≤ sizeLine) ∧ k (.own (.lst (List.replicate j'.toNat xs).flatten)))) := ⟨Eq.mpr mul_li⟩
instance p_mod_ii : Step (onS (modF (.int i') (.int j')) k) ((0 < j' ∧ k (.val (.int (i' % j'))))) := ⟨Eq.mpr mod_ii⟩
instance p_div_ii : Step (onS (divF (.int i') (.int j')) k) ((CDivW i' j' ∧ k (.val (.int (i' / j'))))) := ⟨Eq.mpr div_ii⟩
instance p_pow_ii : Step (onS (powF (.int i') (.int j')) k) ((CPow i' j' ∧ k (.val (.int (i' ^ j'.toNat))))) := ⟨Eq.mpr pow_ii⟩
instance p_neg_i : Step (onS (negF (.int i')) k) (k (.val (.int (-i')))) := ⟨Eq.mpr neg_i⟩
instance p_lt_ii : Step (onS (ltF (.int i') (.int j')) k) (k (.val (.bl (decide (i' < j'))))) := ⟨Eq.mpr lt_ii⟩
instance p_le_ii : Step (onS (leF (.int i') (.int j')) k) (k (.val (.bl (decide (i' ≤ j'))))) := ⟨Eq.mpr le_ii⟩
instance p_gt_ii : Step (onS (gtF (.int i') (.int j')) k) (k (.val (.bl (decide (j' < i'))))) := ⟨Eq.mpr gt_ii⟩
instance p_ge_ii : Step (onS (geF (.int i') (.int j')) k) (k (.val (.bl (decide (j' ≤ i'))))) := ⟨Eq.mpr ge_ii⟩
instance p_eq_ii : Step (onS (eqF (.int i') (.int j')) k) (k (.val (.bl (decide (i' = j'))))) := ⟨Eq.mpr eq_ii⟩
instance p_ne_ii : Step (onS (neF (.int i') (.int j')) k) (k (.val (.bl (!decide (i' = j'))))) := ⟨Eq.mpr ne_ii⟩
instance p_eq_ss : Step (onS (eqF (.str s) (.str t)) k) (k (.val (.bl (decide (s = t))))) := ⟨Eq.mpr eq_ss⟩
instance p_ne_ss : Step (onS (neF (.str s) (.str t)) k) (k (.val (.bl (!decide (s = t))))) := ⟨Eq.mpr ne_ss⟩
instance p_is_n : Step (onS (isF x .non) k) (k (.val (.bl (isNon x)))) := ⟨Eq.mpr is_n⟩
instance p_isnt_n : Step (onS (isntF x .non) k) (k (.val (.bl (!isNon x)))) := ⟨Eq.mpr isnt_n⟩
instance p_idx_l : Step (onS (idxF (.lst xs) (.int i')) k) (onS (atI xs i') fun x => k (.val x)) := ⟨Eq.mpr idx_l⟩
instance p_idx_q : Step (onS (idxF (.seq xs) (.int i')) k) (onS (atI xs i') fun x => k (.val x)) := ⟨Eq.mpr idx_q⟩
instance p_idx_t : Step (onS (idxF (.tup xs) (.int i')) k) (onS (atI xs i') fun x => k (.val x)) := ⟨Eq.mpr idx_t⟩
instance p_len_l : Step (onS (lenF [.lst xs]) k) (k (.val (.int xs.length))) := ⟨Eq.mpr len_l⟩
instance p_len_q : Step (onS (lenF [.seq xs]) k) (k (.val (.int xs.length))) := ⟨Eq.mpr len_q⟩
instance p_len_t : Step (onS (lenF [.tup xs]) k) (k (.val (.int xs.length))) := ⟨Eq.mpr len_t⟩
instance p_len_s : Step (onS (lenF [.str s]) k) ((s.length ≤ sizeLine ∧ k (.val (.int s.length)))) := ⟨Eq.mpr len_s⟩
instance p_max_ii : Step (onS (max2F [.int i', .int j']) k) (k (.val (.int (if j' > i' then j' else i')))) := ⟨Eq.mpr max_ii⟩
instance p_min_ii : Step (onS (min2F [.int i', .int j']) k) (k (.val (.int (if j' < i' then j' else i')))) := ⟨Eq.mpr min_ii⟩
instance p_int_i : Step (onS (intF [.int i']) k) (k (.val (.int i'))) := ⟨Eq.mpr int_i⟩
instance p_int_b {b : Bool} : Step (onS (intF [.bl b]) k) (k (.val (.int (if b then 1 else 0)))) := ⟨Eq.mpr int_b⟩
instance p_list_l : Step (onS (listF [.lst xs]) k) (k (.own (.lst xs))) := ⟨Eq.mpr list_l⟩
instance p_list_q : Step (onS (listF [.seq xs]) k) (k (.own (.lst xs))) := ⟨Eq.mpr list_q⟩
instance p_list_t : Step (onS (listF [.tup xs]) k) (k (.own (.lst xs))) := ⟨Eq.mpr list_t⟩
instance p_vI_ii {h : Int → Int → Int} {k : DV → Prop} : Step (onS (vI h (.int i') (.int j')) k) (k (.int (h i' j'))) := ⟨Eq.mpr vI_ii⟩
instance p_vIC_ii {C : Int → Int → Prop} [∀ i j, Decidable (C i j)] {h : Int → Int → Int} {k : DV → Prop} : Step (onS (vIC C h (.int i') (.int j')) k) ((C i' j' ∧ k (.int (h i' j')))) := ⟨Eq.mpr vIC_ii⟩
instance p_all_l {l : List Bool} : Step (onS (allF [.lst (bls l)]) k) (k (.val (.bl (l.all id)))) := ⟨Eq.mpr all_l⟩
instance p_any_l {l : List Bool} : Step (onS (anyF [.lst (bls l)]) k) (k (.val (.bl (l.any id)))) := ⟨Eq.mpr any_l⟩
instance p_sum_l {l : List Int} : Step (onS (sumF [.lst (zInts l)]) k) (k (.val (.int l.sum))) := ⟨Eq.mpr sum_l⟩
instance p_max_l {l : List Int} : Step (onS (maxF [.lst (zInts l)]) k) (onS (maxL l) fun m => k (.val (.int m))) := ⟨Eq.mpr max_l⟩
instance p_min_l {l : List Int} : Step (onS (minF [.lst (zInts l)]) k) (onS (minL l) fun m => k (.val (.int m))) := ⟨Eq.mpr min_l⟩
instance p_isi_i : Step (onS (isiF [.int i', .ty "int"]) k) (k (.val (.bl true))) := ⟨Eq.mpr isi_i⟩
instance p_isi_ib : Step (onS (isiF [.int i', .ty "bool"]) k) (k (.val (.bl false))) := ⟨Eq.mpr isi_ib⟩
instance p_isi_bi {b : Bool} : Step (onS (isiF [.bl b, .ty "int"]) k) (k (.val (.bl true))) := ⟨Eq.mpr isi_bi⟩
instance p_isi_bb {b : Bool} : Step (onS (isiF [.bl b, .ty "bool"]) k) (k (.val (.bl true))) := ⟨Eq.mpr isi_bb⟩
instance p_isi_l : Step (onS (isiF [.lst xs, .ty "list"]) k) (k (.val (.bl true))) := ⟨Eq.mpr isi_l⟩
instance p_ends_nx {Q : TV → Prop} {E : DErr → Prop} : Step ((ends Q E).nx S) (Q (.val .non)) := ⟨Eq.mpr ends_nx⟩
instance p_ends_rt {Q : TV → Prop} {E : DErr → Prop} : Step ((ends Q E).rt z S) (retK S z Q) := ⟨Eq.mpr ends_rt⟩
instance p_ends_ex {Q : TV → Prop} {E : DErr → Prop} {e : DErr} : Step ((ends Q E).ex e S) (E e) := ⟨Eq.mpr ends_ex⟩
instance p_retK_v {Q : TV → Prop} : Step (retK S (.val x) Q) (Q (.val x)) := ⟨Eq.mpr retK_v⟩
instance p_retK_o {Q : TV → Prop} : Step (retK S (.own so) Q) (Q (.own so)) := ⟨Eq.mpr retK_o⟩
instance p_retS_o {Q : TV → Prop} : Step (retS (.own so) Q) (Q (.own so)) := ⟨Eq.mpr retS_o⟩
instance p_retS_v {Q : TV → Prop} : Step (retS (.val x) Q) (Q (.val x)) := ⟨Eq.mpr retS_v⟩
instance p_retK_s {Q : TV → Prop} : Step (retK ⟨g, o⟩ (.slt i) Q) (gx i g fun v => retS v Q) := ⟨Eq.mpr retK_s⟩
instance p_endsG_nx {Q : TV → OM → Prop} {E : DErr → OM → Prop} : Step ((endsG Q E).nx ⟨g, o⟩) (∃ O', SubO O' o ∧ Q (.val .non) O') := ⟨Eq.mpr endsG_nx⟩
instance p_endsG_rt {Q : TV → OM → Prop} {E : DErr → OM → Prop} : Step ((endsG Q E).rt z S) (retG S z Q) := ⟨Eq.mpr endsG_rt⟩
instance p_endsG_ex {Q : TV → OM → Prop} {E : DErr → OM → Prop} {e : DErr} : Step ((endsG Q E).ex e ⟨g, o⟩) (∃ O', SubO O' o ∧ E e O') := ⟨Eq.mpr endsG_ex⟩
instance p_retG_v {Q : TV → OM → Prop} : Step (retG ⟨g, o⟩ (.val x) Q) (∃ O', SubO O' o ∧ Q (.val x) O') := ⟨Eq.mpr retG_v⟩
instance p_retG_o {Q : TV → OM → Prop} : Step (retG ⟨g, o⟩ (.own so) Q) (∃ O', SubO O' o ∧ Q (.own so) O') := ⟨Eq.mpr retG_o⟩
instance p_retG_r {Q : TV → OM → Prop} : Step (retG ⟨g, o⟩ (.rf p) Q) (∃ O', SubO O' o ∧ Q (.rf p) O') := ⟨Eq.mpr retG_r⟩
instance p_retGS_r {Q : TV → OM → Prop} : Step (retGS (.rf p) o Q) (onS (o p) fun so => ∃ O', SubO O' o ∧ O' p = none ∧ Q (.own so) O') := ⟨Eq.mpr retGS_r⟩
instance p_retGS_o {Q : TV → OM → Prop} : Step (retGS (.own so) o Q) (∃ O', SubO O' o ∧ Q (.own so) O') := ⟨Eq.mpr retGS_o⟩
instance p_retGS_v {Q : TV → OM → Prop} : Step (retGS (.val x) o Q) (∃ O', SubO O' o ∧ Q (.val x) O') := ⟨Eq.mpr retGS_v⟩
instance p_retG_s {Q : TV → OM → Prop} : Step (retG ⟨g, o⟩ (.slt i) Q) (gx i g fun v => retGS v o Q) := ⟨Eq.mpr retG_s⟩
instance p_if_t {A B : Prop} : Step (if true = true then A else B) A := ⟨fun h => h⟩
instance p_if_f {A B : Prop} : Step (if false = true then A else B) B := ⟨fun h => h⟩
instance p_if_nt {A B : Prop} : Step (if (!true) = true then A else B) B := ⟨fun h => h⟩
instance p_if_nf {A B : Prop} : Step (if (!false) = true then A else B) A := ⟨fun h => h⟩
instance p_if_d {c A B : Prop} [Decidable c] : Step (if decide c = true then A else B) (if c then A else B) := ⟨fun h => by
  by_cases q : c
  · rw [if_pos q] at h; rw [if_pos (decide_eq_true q)]; exact h
  · rw [if_neg q] at h; rw [if_neg (by simpa using q)]; exact h⟩
instance p_if_nd {c A B : Prop} [Decidable c] : Step (if (!decide c) = true then A else B) (if c then B else A) := ⟨fun h => by
  by_cases q : c
  · rw [if_pos q] at h; rw [if_neg (by simpa using q)]; exact h
  · rw [if_neg q] at h; rw [if_pos (by simpa using q)]; exact h⟩
theorem ite_go {c A B : Prop} [Decidable c] (h : c → A) (h' : ¬ c → B) : if c then A else B := by
  by_cases q : c
  · rw [if_pos q]; exact h q
  · rw [if_neg q]; exact h' q
instance p_upd {o : OM} {p : Addr} {s : SO} {k : SO → Prop} : Step (onS (updO o p s p) k) (k s) := ⟨fun h => by rw [updO_same]; exact h⟩
end L3

/-! L3j: loops by invariants, small helpers. -/
namespace L3
open PySem PySem.Spec PyProof.Rows L2
section
variable {dg : DG} {b : DS} {dt : DT} {ks : List Nat} {S : DSt} {D : DEnds}
theorem forP_inv {xs : List DV} (I : Nat → DSt → Prop) (h0 : I 0 S)
    (hs : ∀ (i : Nat) (x : DV) (S1 : DSt) (k : DSt → Prop), xs[i]? = some x → I i S1 → (∀ S2, I (i + 1) S2 → k S2) → dg x S1 fun S2 => b S2 ⟨fun S3 => wipeS ks S3 k, D.rt, D.nx, fun S3 => wipeS ks S3 k, D.ex⟩)
    (he : ∀ S1, I xs.length S1 → D.nx S1) : forP dg b ks xs S D := by
  have main : ∀ (ys : List DV) (i : Nat) (S1 : DSt), ys = xs.drop i → i ≤ xs.length → I i S1 → forP dg b ks ys S1 D := by
    intro ys
    induction ys with
    | nil =>
      intro i S1 e hi h
      have hl : xs.length - i = 0 := by rw [← List.length_drop, ← e]; rfl
      have : i = xs.length := by omega
      subst this
      exact he S1 h
    | cons y ys ih =>
      intro i S1 e hi h
      have hlt : i < xs.length := by
        have hl : (y :: ys).length = xs.length - i := by rw [← List.length_drop, ← e]
        rw [List.length_cons] at hl
        omega
      rw [List.drop_eq_getElem_cons hlt] at e
      injection e with e1 e2
      refine hs i y S1 (fun S3 => forP dg b ks ys S3 D) ?_ h fun S2 h2 => ih (i + 1) S2 e2 hlt h2
      rw [e1]; exact List.getElem?_eq_getElem hlt
  exact main xs 0 S rfl (Nat.zero_le _) h0
theorem forR_inv {lo : Int} {n : Nat} (I : Nat → DSt → Prop) (h0 : I 0 S)
    (hs : ∀ (i : Nat) (S1 : DSt) (k : DSt → Prop), i < n → I i S1 → (∀ S2, I (i + 1) S2 → k S2) → dg (.int (lo + (i : Int))) S1 fun S2 => b S2 ⟨fun S3 => wipeS ks S3 k, D.rt, D.nx, fun S3 => wipeS ks S3 k, D.ex⟩)
    (he : ∀ S1, I n S1 → D.nx S1) : forP dg b ks (rngD lo n) S D :=
  forP_inv I h0 (fun i x S1 k e h hk => by
    obtain ⟨hi, rfl⟩ := rngD_at e
    exact hs i S1 k hi h hk) fun S1 h => he S1 (by rw [rngD_len] at h; exact h)
theorem while_inv (I : Nat → DSt → Prop) (n : Nat) (h0 : I n S)
    (hs : ∀ (m : Nat) (S1 : DSt) (k : DSt → Prop), I m S1 → (∀ j S2, j < m → I j S2 → k S2) → dt S1 (fun t S2 => if t = true then b S2 ⟨fun S3 => wipeS ks S3 k, D.rt, D.nx, fun S3 => wipeS ks S3 k, D.ex⟩ else D.nx S2) D.ex) :
    dWhile dt b ks S D := by
  have main : ∀ (f m : Nat) (S1 : DSt), m < f → I m S1 → whileP dt b ks f S1 D := by
    intro f
    induction f with
    | zero => intro m S1 hm; omega
    | succ f ih =>
      intro m S1 hm h
      exact hs m S1 (fun S3 => whileP dt b ks f S3 D) h fun j S2 hj h2 => ih j S2 (by omega) h2
  exact ⟨n + 1, main (n + 1) n S (Nat.lt_succ_self n) h0⟩
end
section
variable {x y z u : DV} {xs : List DV} {k : DV → Prop} {kn : Nat → Prop}
instance p_at0 : Step (onS (atI (x :: xs) 0) k) (k x) := ⟨fun h => by
  have e : atI (x :: xs) 0 = some x := by
    unfold atI ixN
    rw [if_pos (by decide), if_pos (by rw [List.length_cons]; omega)]; rfl
  rw [e]; exact h⟩
instance p_at1 : Step (onS (atI (x :: y :: xs) 1) k) (k y) := ⟨fun h => by
  have e : atI (x :: y :: xs) 1 = some y := by
    unfold atI ixN
    rw [if_pos (by decide), if_pos (by rw [List.length_cons, List.length_cons]; omega)]; rfl
  rw [e]; exact h⟩
instance p_at2 : Step (onS (atI (x :: y :: z :: xs) 2) k) (k z) := ⟨fun h => by
  have e : atI (x :: y :: z :: xs) 2 = some z := by
    unfold atI ixN
    rw [if_pos (by decide), if_pos (by rw [List.length_cons, List.length_cons, List.length_cons]; omega)]; rfl
  rw [e]; exact h⟩
instance p_at3 : Step (onS (atI (x :: y :: z :: u :: xs) 3) k) (k u) := ⟨fun h => by
  have e : atI (x :: y :: z :: u :: xs) 3 = some u := by
    unfold atI ixN
    rw [if_pos (by decide), if_pos (by rw [List.length_cons, List.length_cons, List.length_cons, List.length_cons]; omega)]; rfl
  rw [e]; exact h⟩
instance p_ix0 : Step (onS (ixN (x :: xs).length 0) kn) (kn 0) := ⟨fun h => by
  have e : ixN (x :: xs).length 0 = some 0 := by
    unfold ixN
    rw [if_pos (by decide), if_pos (by rw [List.length_cons]; omega)]; rfl
  rw [e]; exact h⟩
instance p_ix1 : Step (onS (ixN (x :: y :: xs).length 1) kn) (kn 1) := ⟨fun h => by
  have e : ixN (x :: y :: xs).length 1 = some 1 := by
    unfold ixN
    rw [if_pos (by decide), if_pos (by rw [List.length_cons, List.length_cons]; omega)]; rfl
  rw [e]; exact h⟩
instance p_ix2 : Step (onS (ixN (x :: y :: z :: xs).length 2) kn) (kn 2) := ⟨fun h => by
  have e : ixN (x :: y :: z :: xs).length 2 = some 2 := by
    unfold ixN
    rw [if_pos (by decide), if_pos (by rw [List.length_cons, List.length_cons, List.length_cons]; omega)]; rfl
  rw [e]; exact h⟩
instance p_len0 {α : Type} {R : Prop} : Step (([] : List α).length ≤ sizeLine ∧ R) R := ⟨fun h => ⟨Nat.le_of_ble_eq_true rfl, h⟩⟩
instance p_len1 {α : Type} {a : α} {R : Prop} : Step ([a].length ≤ sizeLine ∧ R) R := ⟨fun h => ⟨Nat.le_of_ble_eq_true rfl, h⟩⟩
instance p_len2 {α : Type} {a b : α} {R : Prop} : Step ([a, b].length ≤ sizeLine ∧ R) R := ⟨fun h => ⟨Nat.le_of_ble_eq_true rfl, h⟩⟩
instance p_len3 {α : Type} {a b c : α} {R : Prop} : Step ([a, b, c].length ≤ sizeLine ∧ R) R := ⟨fun h => ⟨Nat.le_of_ble_eq_true rfl, h⟩⟩
instance p_len4 {α : Type} {a b c d : α} {R : Prop} : Step ([a, b, c, d].length ≤ sizeLine ∧ R) R := ⟨fun h => ⟨Nat.le_of_ble_eq_true rfl, h⟩⟩
theorem at_nat {α : Type} {xs : List α} {i : Nat} (h : i < xs.length) : atI xs (i : Int) = some xs[i] := by
  unfold atI ixN
  rw [if_pos (by omega), if_pos (by omega)]
  show xs[(i : Int).toNat]? = _
  rw [Int.toNat_natCast, List.getElem?_eq_getElem h]
theorem mulR {i j : Int} (h1 : -(2 ^ 64) < j) (h2 : j < 2 ^ 64) : CMulA i j := .inl (.inr ⟨h1, h2⟩)
theorem mulL {i j : Int} (h1 : -(2 ^ 64) < i) (h2 : i < 2 ^ 64) : CMulA i j := .inl (.inl ⟨h1, h2⟩)
theorem divW {i j : Int} (h1 : 0 < j) (h2 : j < 2 ^ 9000) : CDivW i j := by
  refine ⟨h1, ?_⟩
  have h3 : j.natAbs < 2 ^ 9000 := by
    have e : ((2 ^ 9000 : Nat) : Int) = (2 : Int) ^ 9000 := by exact Int.natCast_pow 2 9000
    have : (j.natAbs : Int) = j := Int.natAbs_of_nonneg (by omega)
    rw [← Int.ofNat_lt, this, e]
    exact h2
  exact (Nat.log2_lt (by omega)).mpr h3
theorem divT {i j : Int} (h1 : 0 < j) (h2 : j ≤ 10 ^ 60) : CDivW i j := by
  refine ⟨h1, ?_⟩
  have h3 : j.natAbs < 2 ^ 9000 := by
    have e : (10 : Int) ^ 60 = ((10 ^ 60 : Nat) : Int) := by decide +kernel
    rw [e] at h2
    have a : j.natAbs ≤ 10 ^ 60 := by omega
    have b : (10 ^ 60 : Nat) < 2 ^ 9000 := by decide +kernel
    exact Nat.lt_of_le_of_lt a b
  exact (Nat.log2_lt (by omega)).mpr h3
theorem powC {i j : Int} (h1 : 0 ≤ j) (h2 : j ≤ 1000000) (h3 : i.natAbs < 2 ^ 64) : CPow i j := ⟨h1, h2, h3⟩
theorem z_len {l : List Int} : (zInts l).length = l.length := List.length_map ..
theorem z_at {l : List Int} {i : Nat} (h : i < l.length) : atI (zInts l) (i : Int) = some (.int l[i]) := by
  rw [at_nat (by rw [z_len]; exact h)]
  simp [zInts]
/-- whether a value is a whole number, no truth value -/
def isI : DV → Option Bool
  | .int _ => some true
  | .bl _ => some false
  | .non => some false
  | .str _ => some false
  | .lst _ => some false
  | .tup _ => some false
  | .dic _ => some false
  | _ => none
theorem kb_ni : kitB "NoneType" "int" = some false := by decide +kernel
theorem kb_si : kitB "str" "int" = some false := by decide +kernel
theorem kb_ti : kitB "tuple" "int" = some false := by decide +kernel
variable {kt : TV → Prop} {s : Str}
instance p_isi_n : Step (onS (isiF [.non, .ty "int"]) kt) (kt (.val (.bl false))) := ⟨fun h => by
  show onS ((kitB "NoneType" "int").map fun b => TV.val (.bl b)) kt
  rw [kb_ni]; exact h⟩
instance p_isi_s : Step (onS (isiF [.str s, .ty "int"]) kt) (kt (.val (.bl false))) := ⟨fun h => by
  show onS ((kitB "str" "int").map fun b => TV.val (.bl b)) kt
  rw [kb_si]; exact h⟩
instance p_isi_t : Step (onS (isiF [.tup xs, .ty "int"]) kt) (kt (.val (.bl false))) := ⟨fun h => by
  show onS ((kitB "tuple" "int").map fun b => TV.val (.bl b)) kt
  rw [kb_ti]; exact h⟩
instance p_isi_ll : Step (onS (isiF [.lst xs, .ty "int"]) kt) (kt (.val (.bl false))) := ⟨fun h => by
  show onS ((kitB "list" "int").map fun b => TV.val (.bl b)) kt
  rw [kb_li]; exact h⟩
instance p_updL {o : OM} {p : Addr} : Step (onS ((updO o p (.lst xs) p).bind soT) k) (k (.lst xs)) := ⟨fun h => by rw [updO_same]; exact h⟩
instance p_updLo {o : OM} {p : Addr} {R : Prop} : Step (isLo (updO o p (.lst xs) p) R) R := ⟨fun h => by rw [updO_same, isLo_l]; exact h⟩
end
/-! ### decks: a list of three whole numbers -/
def Deck (O : OM) (p : Addr) : Prop := ∃ a b c : Int, O p = some (.lst [.int a, .int b, .int c])
theorem Deck.upd {O : OM} {p : Addr} {a b c : Int} : Deck (updO O p (.lst [.int a, .int b, .int c])) p := ⟨a, b, c, updO_same⟩
/-- but for one object the map is the same -/
def But (p : Addr) (O O' : OM) : Prop := ∀ a, a ≠ p → O' a = O a
theorem But.refl {p : Addr} {O : OM} : But p O O := fun _ _ => rfl
theorem But.upd {p : Addr} {O O' : OM} {s : SO} (h : But p O O') : But p O (updO O' p s) := fun a e => by rw [updO_ne e]; exact h a e
theorem But.trans {p : Addr} {O O1 O2 : OM} (h : But p O O1) (k : But p O1 O2) : But p O O2 := fun a e => (k a e).trans (h a e)
end L3

/-! L3k: sets of whole numbers made from lists; own rules. -/
namespace L3
open PySem PySem.Spec PyProof.Rows L2
/-! ### set(xs), xs a list of whole numbers -/
abbrev sTab (w : World) : SetTable := .fresh 0 0 (!w.params.followText "set-order")
abbrev sOb (w : World) : Obj := { cls := .type "set", dict := none, data := .set #[] 0 (sTab w) }
section
variable {P : Program} {w : World} {A : Around} {E : Value → Shared → Prop} {s : Shared}
theorem set_made {q : Addr} {vs : Array Value} (ks : List Int) {R : Value → Shared → Prop} (free : A.handled = none) (at_ : s.heap.IsList q vs) (nums : IntsAre vs.toList ks) (few : ks.length + 1 < scanBound)
    (then_ : ∀ (g : Heap) (tk c : Nat), SetR w g s.heap.objs.size (fun j => decide (j ∈ ks)) c → c ≤ ks.length → (∀ b o, s.heap.get? b = some o → g.get? b = some o) → R (.ref s.heap.objs.size) { s with heap := g, toks := tk }) :
    wpAny (model P w) A (call (.type "set") [.ref q]) R E s := by
  have len : vs.size = ks.length := by
    have z := IntsAre.length nums
    rwa [Array.length_toList] at z
  obtain ⟨m1, m2, mro⟩ := F.called_set.mro
  have f1 := F.called_set.made
  have f2 := F.called_set.sub
  have f3 := F.called_set.notType
  have f4 := F.called_set.canCreate
  have f5 := F.typeCall_set_1 (.ref q)
  refine wpAny_call (codeAny_of_tree (?_ : wpAny _ _ (callAny (.type "set") _) _ _ _))
  refine wpAny_pure ⟨Code.quiet_builtin _ (by decide +kernel), codeAny_builtin F.entry_type_call ?_⟩
  rw [Around.under_plain (weight_type_call_type "set" [.ref q] []) rfl]
  repeat (any_goals (first | assumption | wp_step))
  refine codeAny_mono (code_set_led1 (.ref q) (E := E) (Q₁ := fun u s₁ => u = .ref s.heap.objs.size ∧ s₁ = { s with heap := s.heap.push (sOb w) }) ⟨rfl, rfl⟩) fun r s₁ hr => ?_
  match r, hr with
  | .error e, hr => exact hr
  | .ok (.ret u), hr =>
    obtain ⟨rfl, rfl⟩ := hr
    have new : (s.heap.push (sOb w)).get? s.heap.objs.size = some (sOb w) := Heap.get?_push_size _ rfl
    have ty : Shared.TypeIs { s with heap := s.heap.push (sOb w) } (.ref s.heap.objs.size) "set" := ⟨_, new, rfl⟩
    have g1 := F.called_set.init.lookup
    have g2 := F.called_set.init.bind (.ref s.heap.objs.size)
    repeat (any_goals (first | assumption | wp_step))
    refine codeAny_mono (codeAny_call_builtin (R := wants (fun r s₂ => r = .none ∧ ∃ g tk c, s₂ = { s with heap := g, toks := tk } ∧ SetR w g s.heap.objs.size (fun j => decide (j ∈ ks)) c ∧ c ≤ ks.length ∧ ∀ b o, s.heap.get? b = some o → g.get? b = some o) E)
      F.called_set.init.plain F.entry_set_init (check_set_init_1 ty ?_)) fun r₂ s₂ k₂ => ?_
    · obtain ⟨⟨c1, c2, c3, c4⟩, at1, at2, at3, at4⟩ := at_
      simp only at at2 at4
      subst at2; subst at4
      have at5 : (s.heap.push (sOb w)).get? q = some ⟨.type "list", c2, .seq vs at3, c4⟩ := Heap.get?_push_of_some _ at1
      have h1 := F.sub_list_set
      have h2 := F.sub_list_frozenset
      have h3 : (Value.type "list" == Value.type "dict") = false := by decide
      have lst1 : (s.heap.push (sOb w)).IsList q vs := ⟨_, at5, rfl, at3, rfl⟩
      unfold Builtin.«set.__init__» noKeywords Builtin.Frozenset.updateFrom
      generalize it : pyIter = It
      wp_walk
      subst it
      refine wpAny_pyIter_list lst1 (wpAny_bind (wpAny_runValue ?_))
      have qlt : q < s.heap.objs.size := Heap.lt_size at1
      have free3 : A.in1.in1.in1.handled = none := by simp [free]
      have sz : (s.heap.push (sOb w)).objs.size = s.heap.objs.size + 1 := Heap.size_push ..
      have qne : q ≠ (s.heap.push (sOb w)).objs.size := by rw [sz]; exact Nat.ne_of_lt (Nat.lt_succ_of_lt qlt)
      have off : s.heap.objs.size ∉ [(s.heap.push (sOb w)).objs.size, q] := by
        rw [sz]; intro z
        rcases List.mem_cons.mp z with z | z
        · exact Nat.ne_of_lt (Nat.lt_succ_self _) z
        · exact Nat.ne_of_gt qlt (List.mem_singleton.mp z)
      have val : ∀ (i : Nat) (v : Value), vs[i]? = some v → ∃ k t, ks[i]? = some k ∧ v = .int k t := fun i v hv => by
        have hi : i < ks.length := len ▸ (Array.getElem?_eq_some_iff.mp hv).1
        obtain ⟨t, e⟩ := PyProof.Rows.IntsAre.int_at nums i v (by rwa [Array.getElem?_toList])
        refine ⟨ks[i], t, List.getElem?_eq_getElem hi, e.trans ?_⟩
        rw [List.getD_eq_getElem?_getD, List.getElem?_eq_getElem hi]; rfl
      refine set_update_ints ((Walks.list free3 _ q qne vs).toS) s.heap.objs.size off ks len few val (vs.size - 0) 0 _ (by omega) (Nat.zero_le _) ⟨⟨_, Heap.get?_push_size _ rfl, rfl, rfl⟩, (lst1.push _)⟩ ⟨0, Nat.le_refl 0, setR_new_at (Heap.get?_push_of_some _ new)⟩ ?_
      rintro ⟨g, gg, dd, tk, os⟩ c mv hc sr
      have e1 : gg = s.gens := mv.gens
      have e2 : dd = s.drawn := mv.drawn
      have e3 : os = s.os := mv.os
      subst e1; subst e2; subst e3
      show wpAny _ _ _ _ _ _; refine wpAny_pure ?_; show wpAny _ _ (ret Value.none) _ _ _
      rw [len] at hc
      refine wpAny_pure ⟨rfl, g, tk, c, rfl, sr, hc, fun b o e => ?_⟩
      have b0 : b < s.heap.objs.size := Heap.lt_size e
      refine mv.heap b o (fun z => ?_) (Heap.get?_push_of_some _ (Heap.get?_push_of_some _ e))
      rcases List.mem_cons.mp z with z | z
      · exact Nat.ne_of_lt b0 z
      · have z' := List.mem_singleton.mp z
        rw [sz] at z'
        exact Nat.ne_of_lt (Nat.lt_succ_of_lt b0) z'
    · match r₂, k₂ with
      | .error e, k₂ => exact k₂
      | .ok (.ret r), k₂ =>
        obtain ⟨rfl, g, tk, c, rfl, sr, hc, old⟩ := k₂
        repeat (any_goals (first | assumption | wp_step))
        exact then_ g tk c sr hc old
end
end L3

/-! L3l: len(set(xs)), sorted(set(xs)): own rules. -/
namespace L3
open PySem PySem.Spec PyProof.Rows L2
section
variable {P : Program} {w : World} {A : Around} {E : Value → Shared → Prop} {s : Shared}
theorem set_sorted {a : Addr} {S : Int → Bool} {n : Nat} {R : Value → Shared → Prop} (sr : SetR w s.heap a S n) (free : A.handled = none)
    (then_ : ∀ (s' : Shared) (p : Addr) (out : Array Value) (c : Nat) (ks : List Int), (∀ b o, s.heap.get? b = some o → s'.heap.get? b = some o) → s'.gens = s.gens → s'.os = s.os → s.heap.objs.size ≤ p →
      s'.heap.get? p = some (seqObj "list" out c) → IntsAre out.toList ks → ks.Pairwise (· < ·) → (∀ k, k ∈ ks ↔ S k = true) → ks.length = n → R (.ref p) s') :
    wpAny (model P w) A (call (.builtin "sorted") [.ref a]) R E s := by
  obtain ⟨o, es, ep, t, z1, z2, z3, z4, z5, z6, z7, z8, z9, z10, z11⟩ := sr
  refine Calls.call_function_entry kind_sorted plain_sorted entry_sorted (args_sorted1 _) ?_
  unfold Builtin.«sorted»
  refine wpAny_bind (m := checkCount "sorted" 1 1 _) (wpAny_pure (wpAny_bind (collect_set (A := A.in1) free ⟨o, z1, z2.1, z3⟩ z8 z7 z10 z11 fun s1 vs k1 hz g1 o1 pm => ?_)))
  have vl : vs.length = es.size := by rw [pm.length_eq, List.length_map, Array.length_toList]
  have vz : vs.length ≤ sizeLine := by rw [vl, sizeLine_eq]; unfold scanBound at z7; omega
  have vi : IntsAre vs (vs.map Builtin.Re.reRawOf) := ints_of vs fun v hv => by
    obtain ⟨e, he, q⟩ := List.mem_map.mp (pm.mem_iff.mp hv)
    obtain ⟨k, tk, h1, _⟩ := z4 e he
    exact ⟨k, tk, by rw [← q]; exact h1⟩
  have vp : (vs.map Builtin.Re.reRawOf).Perm (es.toList.map keyOf) := by
    have q := pm.map Builtin.Re.reRawOf
    rwa [List.map_map] at q
  refine wpAny_bind (wpAny_newList ?_ vz)
  have new : (s1.heap.push (seqObj "list" vs.toArray 0)).get? s1.heap.objs.size = some (seqObj "list" vs.toArray 0) := Heap.get?_push_size _ rfl
  refine wpAny_bind (wpAny_holding (wpAny_call_entry slot_list_sort ⟨_, new, rfl⟩ entry_list_sort (SrtO.list_sort_ord SrtO.swo_int new vz (fun h2 => SrtO.ints_sortable vi h2) fun out h1 h2 => ⟨_, rfl, ?_⟩) (args_list_sort _)))
  obtain ⟨y1, y2, y3⟩ := SrtO.ints_out vi h1 h2
  have pn : (out.map SrtO.iv).Perm (es.toList.map keyOf) := y2.trans vp
  obtain ⟨c, hc⟩ := sortedHeap_at (vs := vs) (out := out.toArray) new
  refine wpAny_pure ⟨_, rfl, then_ _ s1.heap.objs.size out.toArray c (out.map SrtO.iv) (fun b u e => ?_) g1 o1 hz hc (by simpa using y1) (lt_of_le_nodup _ y3 (pn.nodup_iff.mpr z5)) (fun k => by rw [pn.mem_iff, ← z6 k]) ?_⟩
  · have q := k1 b u e
    have q2 := Heap.lt_size q
    refine (sortedHeap_old (Nat.ne_of_lt q2) (by rw [size_push']; exact Nat.lt_succ_of_lt q2) : (sortedHeap (s1.heap.push (seqObj "list" vs.toArray 0)) s1.heap.objs.size vs out.toArray).get? b = _).trans ?_
    exact Heap.get?_push_of_some _ q
  · rw [pn.length_eq, List.length_map, Array.length_toList]; exact z9
end
section
variable {X : Cx}
def rSortSet (K : PySem.W.Frag) : V → Hp → VK → Prop := fun x H Q => ∃ (l : Addr) (ns : List Int), x = V.ref l ∧ SqL K H l (ns.map V.int) ∧ ns.length + 1 < 4096 ∧
  ∀ (ks : List Int) (p : Addr), ks.Pairwise (· < ·) → (∀ k, k ∈ ks ↔ k ∈ ns) → H p = none → Q (.ref p) (upd H p (.lst (ks.map V.int)))
theorem pe_sortedSetL {a : Expr} {ta : TE} {p p2 q pos : Pos} (hc : X.calm = true) (hg : Gl X "sorted") (hm : X.mg "sorted" = none) (hg2 : Gl X "set") (hm2 : X.mg "set" = none) (ha : PE X a ta)
    (na : starEach [a] X.env = (false, eval a X.env) :: starEach [] X.env := by rfl) : PE X (.Call (.Name "sorted" p) [.Call (.Name "set" p2) [a] [] q] [] pos) (tUn (rSortSet X.K) ta) := by
  refine ⟨fun pins s σ H Q I h => Call_ (ld_blt I hg hm boot_sorted ?_)⟩
  refine PyProof.Rows.callWith_builtin1 (PyProof.Rows.args_cons (Call_ (ld_blt I hg2 hm2 PyProof.Rows.boot_set ?_)) rfl) rfl rfl
  refine PyProof.Rows.callWith_type1 (PyProof.Rows.args_cons (thn (ha.run pins s σ H _ I h) fun v s1 ⟨x, H1, I1, r1, q1⟩ => PyProof.Rows.args_nil ?_) na) na rfl
  obtain ⟨l, ns, rfl, hq, few, q1⟩ := q1
  cases r1
  obtain ⟨its, r, pl, hz⟩ := I1.list hq
  refine set_made ns (I1.ok.hd hc) pl.isList (by simpa using r.ints) (by unfold scanBound; omega) fun g tk c sr hcl hk => ?_
  refine PyProof.Rows.args_nil ?_
  have I2 : Inv X pins σ H1 { s1 with heap := g, toks := tk } := I1.kept hk
  refine set_sorted sr (I2.ok.hd hc) fun s' p out ct ks h1 h2 h3 h4 h5 h6 h7 h8 h9 => ?_
  have few' : (ks.map V.int).length ≤ sizeLine := by rw [List.length_map, h9, sizeLine_eq]; omega
  have fresh : H1 p = none := I2.hok.fresh h4
  have J : Inv X pins σ (upd H1 p (.lst (ks.map V.int))) s' := I2.call' (ch := []) h3 (Un.laid h1 h4 fresh) (I2.hok.laid h1 h4 ⟨few', out.toList, ct, vals_of_ints h6, h5⟩) (by rw [h2]; exact I2.bare) (fun _ z => nomatch z)
  exact ⟨.ref p, _, J, rfl, q1 ks p h7 (fun k => (h8 k).trans decide_eq_true_iff) fresh⟩
end
end L3

/-! L3m: more readings: sets, sorting, ranges as lists, chains, read-only methods. -/
namespace L3
open PySem PySem.Spec PyProof.Rows L2
/-! ### plain lists of whole numbers -/
def ins (x : Int) : List Int → List Int
  | [] => [x]
  | y :: ys => if x ≤ y then x :: y :: ys else y :: ins x ys
def isort : List Int → List Int
  | [] => []
  | x :: xs => ins x (isort xs)
/-- without repetitions -/
def dd : List Int → List Int
  | [] => []
  | x :: xs => if x ∈ xs then dd xs else x :: dd xs
def sset (l : List Int) : List Int := isort (dd l)
theorem ins_perm (x : Int) : ∀ l : List Int, (ins x l).Perm (x :: l)
  | [] => .refl _
  | y :: ys => by
    unfold ins
    split
    · exact .refl _
    · exact ((ins_perm x ys).cons y).trans (.swap x y ys)
theorem isort_perm : ∀ l : List Int, (isort l).Perm l
  | [] => .refl _
  | x :: xs => (ins_perm x _).trans ((isort_perm xs).cons x)
theorem ins_asc (x : Int) : ∀ l : List Int, l.Pairwise (· ≤ ·) → (ins x l).Pairwise (· ≤ ·)
  | [], _ => by simp [ins]
  | y :: ys, h => by
    unfold ins
    rw [List.pairwise_cons] at h
    split
    · rename_i c
      refine List.pairwise_cons.mpr ⟨fun z hz => ?_, List.pairwise_cons.mpr h⟩
      rcases List.mem_cons.mp hz with e | e
      · rw [e]; exact c
      · exact Int.le_trans c (h.1 z e)
    · rename_i c
      refine List.pairwise_cons.mpr ⟨fun z hz => ?_, ins_asc x ys h.2⟩
      rcases List.mem_cons.mp ((ins_perm x ys).mem_iff.mp hz) with e | e
      · rw [e]; omega
      · exact h.1 z e
theorem isort_asc : ∀ l : List Int, (isort l).Pairwise (· ≤ ·)
  | [] => .nil
  | x :: xs => ins_asc x _ (isort_asc xs)
theorem isort_mem {l : List Int} {k : Int} : k ∈ isort l ↔ k ∈ l := (isort_perm l).mem_iff
theorem isort_len (l : List Int) : (isort l).length = l.length := (isort_perm l).length_eq
theorem dd_mem {k : Int} : ∀ {l : List Int}, k ∈ dd l ↔ k ∈ l
  | [] => .rfl
  | x :: xs => by
    unfold dd
    split
    · rename_i c
      rw [dd_mem, List.mem_cons]
      exact ⟨.inr, fun h => h.elim (fun e => by rw [e]; exact c) id⟩
    · rw [List.mem_cons, List.mem_cons, dd_mem]
theorem dd_nodup : ∀ l : List Int, (dd l).Nodup
  | [] => .nil
  | x :: xs => by
    unfold dd
    split
    · exact dd_nodup xs
    · rename_i c
      exact List.nodup_cons.mpr ⟨fun h => c (dd_mem.mp h), dd_nodup xs⟩
theorem sset_mem {l : List Int} {k : Int} : k ∈ sset l ↔ k ∈ l := isort_mem.trans dd_mem
theorem sset_asc (l : List Int) : (sset l).Pairwise (· < ·) := lt_of_le_nodup _ (isort_asc _) ((isort_perm _).nodup_iff.mpr (dd_nodup l))
theorem lt_nodup {l : List Int} (h : l.Pairwise (· < ·)) : l.Nodup := h.imp fun h e => by omega
theorem asc_uniq {l k : List Int} (h1 : l.Pairwise (· < ·)) (h2 : k.Pairwise (· < ·)) (e : ∀ x, x ∈ l ↔ x ∈ k) : l = k :=
  List.Perm.eq_of_pairwise (le := (· ≤ ·)) (fun a b _ _ x y => Int.le_antisymm x y) (h1.imp fun h => by omega) (h2.imp fun h => by omega) ((List.perm_ext_iff_of_nodup (lt_nodup h1) (lt_nodup h2)).mpr e)
theorem isort_uniq {l k : List Int} (h1 : k.Perm l) (h2 : k.Pairwise (· ≤ ·)) : k = isort l :=
  List.Perm.eq_of_pairwise (le := (· ≤ ·)) (fun a b _ _ x y => Int.le_antisymm x y) h2 (isort_asc l) (h1.trans (isort_perm l).symm)
theorem sset_uniq {l k : List Int} (h : k.Pairwise (· < ·)) (e : ∀ x, x ∈ k ↔ x ∈ l) : k = sset l := asc_uniq h (sset_asc l) fun x => (e x).trans sset_mem.symm
theorem dd_len {l k : List Int} (h : k.Nodup) (e : ∀ x, x ∈ k ↔ x ∈ l) : k.length = (dd l).length := ((List.perm_ext_iff_of_nodup h (dd_nodup l)).mpr fun x => (e x).trans dd_mem.symm).length_eq
/-! ### own rule: len(set(xs)) -/
section
variable {X : Cx}
def rLenSetL (K : PySem.W.Frag) : V → Hp → VK → Prop := fun x H Q => ∃ (l : Addr) (ns : List Int), x = V.ref l ∧ SqL K H l (ns.map V.int) ∧ ns.length + 1 < 4096 ∧ Q (.int ((dd ns).length : Nat)) H
theorem pe_lenSetL {a : Expr} {ta : TE} {p p2 q pos : Pos} (hc : X.calm = true) (hg : Gl X "len") (hm : X.mg "len" = none) (hg2 : Gl X "set") (hm2 : X.mg "set" = none) (ha : PE X a ta)
    (na : starEach [a] X.env = (false, eval a X.env) :: starEach [] X.env := by rfl) : PE X (.Call (.Name "len" p) [.Call (.Name "set" p2) [a] [] q] [] pos) (tUn (rLenSetL X.K) ta) := by
  refine ⟨fun pins s σ H Q I h => Call_ (ld_blt I hg hm PySem.boot_len ?_)⟩
  refine PyProof.Rows.callWith_builtin1 (PyProof.Rows.args_cons (Call_ (ld_blt I hg2 hm2 PyProof.Rows.boot_set ?_)) rfl) rfl rfl
  refine PyProof.Rows.callWith_type1 (PyProof.Rows.args_cons (thn (ha.run pins s σ H _ I h) fun v s1 ⟨x, H1, I1, r1, q1⟩ => PyProof.Rows.args_nil ?_) na) na rfl
  obtain ⟨l, ns, rfl, hq, few, q1⟩ := q1
  cases r1
  obtain ⟨its, r, pl, hz⟩ := I1.list hq
  refine set_made ns (I1.ok.hd hc) pl.isList (by simpa using r.ints) (by unfold scanBound; omega) fun g tk c ⟨o, es, ep, t, z1, z2, z3, z4, z5, z6, z7, z8, z9, _⟩ hcl hk => ?_
  refine PyProof.Rows.args_nil ?_
  have I2 : Inv X pins σ H1 { s1 with heap := g, toks := tk } := I1.kept hk
  have e : es.size = (dd ns).length := by
    have e1 : (es.toList.map keyOf).length = es.size := by rw [List.length_map, Array.length_toList]
    rw [← e1]
    exact dd_len z5 fun k => (z6 k).symm.trans decide_eq_true_iff
  refine call_len_set z1 z2 z3 z8 (by unfold scanBound at z7; omega) ⟨.int ((dd ns).length : Nat), H1, I2.tok _, ⟨_, by rw [e]⟩, q1⟩
end
section
variable {K : PySem.W.Frag} {F F' H H' F0 H0 : Hp} {σ σ' σ1 σ2 σ0 : L2.St} {S S' S1 S2 S0 : DSt} {F1 F2 H1 H2 : Hp} {p : Addr} {v : V} {W : WX}
/-! ### one operand: sets, sorting -/
def lenSetF (x : DV) : Option TV := (intsOf x).bind fun l => if l.length + 1 < 4096 then some (.val (.int (dd l).length)) else none
theorem bind_ok {α β : Type} {o : Option α} {f : α → Option β} {z : β} (h : o.bind f = some z) : ∃ x, o = some x ∧ f x = some z := by
  cases o with
  | none => cases h
  | some x => exact ⟨x, rfl, h⟩
theorem if_ok {α : Type} {c : Prop} [Decidable c] {x z : α} (h : (if c then some x else none) = some z) : c ∧ x = z := by
  by_cases q : c
  · rw [if_pos q] at h; cases h; exact ⟨q, rfl⟩
  · rw [if_neg q] at h; cases h
theorem G1.lenSet : G1 K (rLenSetL K) lenSetF := fun F H v x z Q s r e R => by
  obtain ⟨l, e1, e2⟩ := bind_ok e
  obtain ⟨c, rfl⟩ := if_ok e2
  obtain ⟨a, rfl, h⟩ := intsOf_ok r s e1
  exact ⟨a, l, rfl, h, c, Res.here R s (.int _)⟩
def sortSetF (x : DV) : Option TV := (intsOf x).bind fun l => if l.length + 1 < 4096 then some (.own (.lst (zInts (sset l)))) else none
theorem G1.sortSet : G1 K (rSortSet K) sortSetF := fun F H v x z Q s r e R => by
  obtain ⟨l, e1, e2⟩ := bind_ok e
  obtain ⟨c, rfl⟩ := if_ok e2
  obtain ⟨a, rfl, h⟩ := intsOf_ok r s e1
  refine ⟨a, l, rfl, h, c, fun ks p h1 h2 hp => ?_⟩
  rw [sset_uniq h1 h2]
  exact Res.newL R s hp (z_rps _)
def sortF : List DV → Option TV := one fun x => (intsOf x).map fun l => .own (.lst (zInts (isort l)))
theorem Gn.sort : Gn K (rSortedI K) sortF := fun F H vs xs z Q s r e R => by
  obtain ⟨x, rfl, e⟩ := one_ok e
  obtain ⟨l, e1, rfl⟩ := map_ok e
  obtain ⟨w, rfl, r1⟩ := r.one
  obtain ⟨a, rfl, h⟩ := intsOf_ok r1 s e1
  refine ⟨a, l, rfl, h, fun ks p h1 h2 hp => ?_⟩
  rw [isort_uniq h1 h2]
  exact Res.newL R s hp (z_rps _)
def absF (xs : List DV) : Option TV := match xs with
  | [.int i] => some (.val (.int (if i < 0 then -i else i)))
  | _ => none
theorem Gn.abs : Gn K (fun xs H Q => ∃ i, xs = [.int i] ∧ Q (.int (if i < 0 then -i else i)) H) absF := fun F H vs xs z Q s r e R => by
  unfold absF at e
  split at e
  · cases e
    obtain ⟨w, rfl, r1⟩ := r.one
    exact ⟨_, by rw [r1.int], Res.here R s (.int _)⟩
  · cases e
/-- x & y -/
abbrev bandF : DV → DV → Option TV := iiT fun i j => .int (Builtin.bitAnd i j)
def CShlD (i j : Int) : Prop := CPow i j
instance : ∀ i j, Decidable (CShlD i j) := fun i j => inferInstanceAs (Decidable (_ ∧ _ ∧ _))
/-- x << y -/
abbrev shlF : DV → DV → Option TV := iiI CPow fun i j => i * 2 ^ j.toNat
/-! ### list(range(..)) -/
instance : ∀ a b, Decidable (RgOk a b) := fun a b => inferInstanceAs (Decidable (_ ∧ _ ∧ _ ∧ _ ∧ _))
theorem rg_rps (a : Int) : ∀ b : Int, Rps K F (rgV a b) (rngD a (b - a).toNat) := fun b => by
  unfold rgV rngD
  generalize (List.range (b - a).toNat) = l
  induction l with
  | nil => exact .nil
  | cons i l ih => exact .cons (.int _) ih
def dLR1 (da : DE) : DE := fun S Q Ed => da S (fun y S1 => intK y fun n => RgOk 0 n ∧ Q (.own (.lst (rngD 0 n.toNat))) S1) Ed
theorem LE.lrg1 {ta : TE} {da : DE} (ha : LE K W ta da) : LE K W (tLstRg (tRg1 ta)) (dLR1 da) := fun F H σ S Q Qd Ed s hd k e =>
  ha F H σ S _ _ Ed s hd (fun v y F1 H1 S1 a r n q => by
    obtain ⟨i, rfl, ok, q⟩ := intK_ok q
    cases (show Rp K F1 v (.int i) from r)
    refine ⟨i, rfl, ok, fun p hp => ?_⟩
    have z := rg_rps (K := K) (F := F1) 0 i
    rw [Int.sub_zero] at z
    exact (res_of (z := .own (.lst (rngD 0 i.toNat))) (Q := Q) a.st (.inr (.inl ⟨_, rfl⟩)) q fun v' y' F' H' S' b r' n' q' => k v' y' F' H' S' (a.trans b) r' (n'.back a) q').newL a.st.ex hp z) e
def dLR2 (da db : DE) : DE := fun S Q Ed => da S (fun y S1 => db S1 (fun y' S2 => intK y fun i => intK y' fun j => RgOk i j ∧ Q (.own (.lst (rngD i (j - i).toNat))) S2) Ed) Ed
theorem LE.lrg2 {ta tb : TE} {da db : DE} (ha : LE K W ta da) (hb : LE K W tb db) : LE K W (tLstRg (tRg2 ta tb)) (dLR2 da db) := fun F H σ S Q Qd Ed s hd k e =>
  ha F H σ S _ _ Ed s hd (fun v y F1 H1 S1 a r n q => hb F1 H1 σ S1 _ _ Ed a.st q (fun w y' F2 H2 S2 b r2 n2 q => by
    obtain ⟨i, rfl, q2⟩ := intK_ok q
    obtain ⟨j, rfl, ok, q3⟩ := intK_ok q2
    cases (show Rp K F1 v (.int i) from r)
    cases (show Rp K F2 w (.int j) from r2)
    have ab := a.trans b
    refine ⟨i, j, rfl, rfl, ok, fun p hp => ?_⟩
    exact (res_of (z := .own (.lst (rngD i (j - i).toNat))) (Q := Q) b.st (.inr (.inl ⟨_, rfl⟩)) q3 fun v' y' F' H' S' c r' n' q' => k v' y' F' H' S' (ab.trans c) r' (n'.back ab) q').newL b.st.ex hp (rg_rps i j)) (e.step a)) e
/-! ### a op b op c -/
def dChain (f f' : DV → DV → Option TV) (da db dc : DE) : DE := fun S Q Ed => da S (fun y S1 => db S1 (fun y' S2 => onS (tree S2 y) fun x => onS (tree S2 y') fun x' => onS (f x x') fun z => blK z fun b =>
  if b = true then dc S2 (fun y2 S3 => onS (tree S3 y') fun x' => onS (tree S3 y2) fun x2 => onS (f' x' x2) fun z => Q z S3) Ed else Q (.val (.bl false)) S2) Ed) Ed
theorem LE.chain {r r' : R2} {f f' : DV → DV → Option TV} {ta tb tc : TE} {da db dc : DE} (g : G2 K r f) (g' : G2 K r' f') (ha : LE K W ta da) (hb : LE K W tb db) (hc : LE K W tc dc) : LE K W (tChain r r' ta tb tc) (dChain f f' da db dc) := fun F H σ S Q Qd Ed s hd k e =>
  ha F H σ S _ _ Ed s hd (fun v y F1 H1 S1 a r1 n1 q => hb F1 H1 σ S1 _ _ Ed a.st q (fun w y' F2 H2 S2 b r2 n2 q => by
    have ab := a.trans b
    obtain ⟨x, e1, q⟩ := onS_ok q
    obtain ⟨x', e2, q⟩ := onS_ok q
    obtain ⟨z, e3, q⟩ := onS_ok q
    obtain ⟨bb, rfl, q⟩ := blK_ok q
    refine g F2 H2 v w x x' _ _ b.st.ex (tree_ok b.st (r1.step b) e1) (tree_ok b.st r2 e2) e3 (fun u F3 H3 gr ru => ?_)
    cases ru
    refine ⟨bb, rfl, ?_⟩
    have c := Stp.grw b.st gr
    have abc := ab.trans c
    cases bb with
    | false => exact k (.bl false) (.val (.bl false)) F3 H3 S2 abc (.bl false) Nw.val q
    | true =>
      refine hc F3 H3 σ S2 _ _ Ed c.st q (fun w2 y2 F4 H4 S4 d r3 n3 q => ?_) (((e.step a).step b).step c)
      obtain ⟨t1, e4, q⟩ := onS_ok q
      obtain ⟨t2, e5, q⟩ := onS_ok q
      obtain ⟨z', e6, q⟩ := onS_ok q
      have abcd := abc.trans d
      exact g' F4 H4 w w2 t1 t2 z' Q d.st.ex (tree_ok d.st ((r2.step c).step d) e4) (tree_ok d.st r3 e5) e6 (res_of d.st (.inr (.inr fun _ _ _ _ => trivial)) q fun v' y' F' H' S' c' r' n' q' => k v' y' F' H' S' (abcd.trans c') r' (n'.back abcd) q')) (e.step a)) e
/-! ### methods of a list that only read -/
def GM (K : PySem.W.Frag) (r : V → List V → Hp → VK → Prop) (f : List DV → List DV → Option TV) : Prop := ∀ F H p vs xs us ys z (Q : VK), Same F H → SqL K H p us → Rps K F us xs → RpBs K F H vs ys → f xs ys = some z → Res K F H z Q → r (.ref p) vs H Q
def dRM (f : List DV → List DV → Option TV) (dy : DE) (da : DB) : DE := fun S Q Ed => dy S (fun y S1 => onS (tree S1 y) fun x0 => onS (seqL x0) fun _ => da S1 (fun ys S2 => onS (tree S2 y) fun x => onS (seqL x) fun xs => onS (treeAll S2 ys) fun zs => onS (f xs zs) fun z => Q z S2) Ed) Ed
theorem LE.rm {r : V → List V → Hp → VK → Prop} {f : List DV → List DV → Option TV} {to : TE} {ta : TA} {dy : DE} {da : DB} (g : GM K r f) (hy : LE K W to dy) (ha : LB K W ta da) :
    LE K W (tBM K "list" r to ta) (dRM f dy da) := fun F H σ S Q Qd Ed s hd k e =>
  hy F H σ S _ _ Ed s hd (fun v y F1 H1 S1 a r1 n q => by
    obtain ⟨x0, e1, q⟩ := onS_ok q
    obtain ⟨xs0, e2, q⟩ := onS_ok q
    obtain ⟨a0, us0, e3, h3, _⟩ := (tree_ok a.st r1 e1).sq a.st.ex e2
    refine ⟨by rw [e3]; exact .inl ⟨rfl, us0, h3⟩, ha F1 H1 σ S1 _ _ Ed a.st q (fun vs ys F2 H2 S2 b r2 q => ?_) (e.step a)⟩
    have ab := a.trans b
    obtain ⟨x, e4, q⟩ := onS_ok q
    obtain ⟨xs, e5, q⟩ := onS_ok q
    obtain ⟨zs, e6, q⟩ := onS_ok q
    obtain ⟨z, e7, q⟩ := onS_ok q
    obtain ⟨a1, us, e8, h8, h9⟩ := (tree_ok b.st (r1.step b) e4).sq b.st.ex e5
    subst e8
    exact g F2 H2 a1 vs xs us zs z Q b.st.ex h8 h9 (treeAll_ok b.st r2 e6) e7 (res_of b.st (.inr (.inr fun _ _ _ _ => trivial)) q fun v' y' F' H' S' c r' n' q' => k v' y' F' H' S' (ab.trans c) r' (n'.back ab) q')) e
def cntF (xs as : List DV) : Option TV := match as with
  | [.int i] => (unI xs).map fun l => .val (.int (l.count i : Nat))
  | _ => none
theorem GM.count : GM K (rCntI K) cntF := fun F H p vs xs us ys z Q s h h' r e R => by
  unfold cntF at e
  split at e
  · rename_i i
    obtain ⟨l, e1, rfl⟩ := map_ok e
    obtain ⟨w, rfl, r1⟩ := r.one
    rw [unI_ok e1] at h'
    rw [rps_z h'] at h
    exact ⟨p, l, i, rfl, by rw [r1.int], h, Res.here R s (.int _)⟩
  · cases e
/-- where a whole number stands first -/
def ixOf (i : Int) : List Int → Option Nat
  | [] => none
  | x :: xs => if x = i then some 0 else (ixOf i xs).map (· + 1)
theorem ixOf_ok {i : Int} : ∀ {l : List Int} {j : Nat}, ixOf i l = some j → l[j]? = some i ∧ ∀ m, m < j → l[m]? ≠ some i
  | [], _, e => by cases e
  | x :: xs, j, e => by
    unfold ixOf at e
    split at e
    · rename_i c
      cases e
      exact ⟨by simp [c], fun m hm => by omega⟩
    · rename_i c
      obtain ⟨j', e1, rfl⟩ := map_ok e
      obtain ⟨h1, h2⟩ := ixOf_ok e1
      refine ⟨by simpa using h1, fun m hm => ?_⟩
      cases m with
      | zero => simpa using c
      | succ m => simpa using h2 m (by omega)
def indF (xs as : List DV) : Option TV := match as with
  | [.int i] => (unI xs).bind fun l => (ixOf i l).map fun j => .val (.int (j : Nat))
  | _ => none
theorem GM.index : GM K (rIndex K) indF := fun F H p vs xs us ys z Q s h h' r e R => by
  unfold indF at e
  split at e
  · rename_i i
    obtain ⟨l, e1, e2⟩ := bind_ok e
    obtain ⟨j, e3, rfl⟩ := map_ok e2
    obtain ⟨w, rfl, r1⟩ := r.one
    rw [unI_ok e1] at h'
    rw [rps_z h'] at h
    obtain ⟨k1, k2⟩ := ixOf_ok e3
    refine ⟨p, l.map V.int, .int i, j, .int i, rfl, by rw [r1.int], h, rfl, by simp [flatV], by rw [List.getElem?_map, k1]; rfl, by simp [eqV], fun m z' hm hz => ?_, Res.here R s (.int _)⟩
    rw [List.getElem?_map] at hz
    cases q : l[m]? with
    | none => rw [q] at hz; cases hz
    | some x =>
      rw [q] at hz
      cases hz
      have := k2 m hm
      rw [q] at this
      simp only [eqV]
      simpa using this
  · cases e
/-! ### more methods that change a list -/
def extF (xs as : List DV) : Option (List DV × DV) := match as with
  | [.lst ys] => if xs.length + ys.length ≤ sizeLine then some (xs ++ ys, .non) else none
  | _ => none
theorem ML.extend : ML K rExtend extF := fun F H p us xs vs as ys z Q s hp r ra e k => by
  unfold extF at e
  split at e
  · rename_i zs
    obtain ⟨c, e⟩ := if_ok e
    cases e
    cases ra with
    | cons r1 r2 =>
      cases r2
      cases r1 with
      | lst h1 h2 => exact ⟨p, _, us, _, rfl, rfl, hp, s _ _ h1, by rw [r.len, h2.len]; exact c, k _ .non (r.append h2) .non⟩
  · cases e
def insF (xs as : List DV) : Option (List DV × DV) := match as with
  | [.int i, y] => if xs.length < sizeLine ∧ 0 ≤ i ∧ i < 2 ^ 63 then some (xs.take i.toNat ++ [y] ++ xs.drop i.toNat, .non) else none
  | _ => none
abbrev rInsertL : V → List V → Hp → VK → Prop := fun x vs H Q => ∃ (l : Addr) (xs : List V) (i : Int) (y : V), x = .ref l ∧ vs = [.int i, y] ∧ H l = some (.lst xs) ∧ xs.length < sizeLine ∧ 0 ≤ i ∧ i < 2 ^ 63 ∧
  Q .non (upd H l (.lst (xs.take i.toNat ++ [y] ++ xs.drop i.toNat)))
theorem ML.insert : ML K rInsertL insF := fun F H p us xs vs as ys z Q s hp r ra e k => by
  unfold insF at e
  split at e
  · rename_i i y
    obtain ⟨c, e⟩ := if_ok e
    cases e
    cases ra with
    | cons r1 r2 =>
      cases r2 with
      | cons r2 r3 =>
        cases r3
        cases r1
        exact ⟨p, us, i, _, rfl, rfl, hp, by rw [r.len]; exact c.1, c.2.1, c.2.2, k _ .non (((r.take _).append (.cons r2 .nil)).append (r.drop _)) .non⟩
  · cases e
def popF (xs as : List DV) : Option (List DV × DV) := match as with
  | [] => match xs[xs.length - 1]? with
    | some y => some (xs.dropLast, y)
    | none => none
  | _ => none
theorem Rps.dropLast : ∀ {vs : List V} {xs : List DV}, Rps K F vs xs → Rps K F vs.dropLast xs.dropLast
  | _, _, .nil => .nil
  | _, _, .cons h .nil => .nil
  | _, _, .cons h (.cons h2 r) => .cons h (Rps.dropLast (.cons h2 r))
theorem ML.pop : ML K rPop popF := fun F H p us xs vs as ys z Q s hp r ra e k => by
  unfold popF at e
  split at e
  · cases q2 : xs[xs.length - 1]? with
    | none => rw [q2] at e; cases e
    | some y =>
      rw [q2] at e
      cases e
      cases ra
      obtain ⟨u, hu, ru⟩ := r.get q2
      exact ⟨p, us, u, rfl, rfl, hp, by rw [r.len]; exact hu, k _ u (Rps.dropLast r) ru⟩
  · cases e
def revF (xs as : List DV) : Option (List DV × DV) := match as with
  | [] => some (xs.reverse, .non)
  | _ => none
theorem ML.reverse : ML K rReverse revF := fun F H p us xs vs as ys z Q s hp r ra e k => by
  unfold revF at e
  split at e
  · cases e
    cases ra
    exact ⟨p, us, rfl, rfl, hp, k _ .non r.reverse .non⟩
  · cases e
/-- o.m() on a list that changes it -/
def dBM0 (f : List DV → List DV → Option (List DV × DV)) (dy : DE) : DE := fun S Q Ed => dy S (fun y S1 => mutC S1 y fun o put => match o with
  | .lst xs => onS (f xs []) fun r => Q (.val r.2) (put (.lst r.1))
  | _ => False) Ed
theorem LE.bm0 {r : V → List V → Hp → VK → Prop} {f : List DV → List DV → Option (List DV × DV)} {to : TE} {dy : DE} (g : ML K r f) (hy : LE K W to dy) : LE K W (tBM0 K "list" r to) (dBM0 f dy) := fun F H σ S Q Qd Ed s hd k e =>
  hy F H σ S _ _ Ed s hd (fun v y F1 H1 S1 a r1 n q => by
    obtain ⟨⟨p, us, e1, e2⟩, h⟩ := ml_fin (vs := []) (as := []) g a r1 .nil q k
    exact ⟨by rw [e1]; exact .inl ⟨rfl, us, .inl (.inl e2)⟩, h⟩) e
end
/-! ### the equations, as steps -/
section
variable {da db dc dy : DE} {dB : DB} {S : DSt} {Q : TV → DSt → Prop} {E : DErr → DSt → Prop} {k : TV → Prop} {i j : Int} {l : List Int} {f f' : DV → DV → Option TV}
instance p_lenSet : Step (onS (lenSetF (.lst (zInts l))) k) (l.length + 1 < 4096 ∧ k (.val (.int (dd l).length))) := ⟨fun h => by
  unfold lenSetF
  rw [show intsOf (.lst (zInts l)) = some l from unI_z l]
  show onS (if l.length + 1 < 4096 then _ else _) k
  rw [on_if]; exact h⟩
instance p_sortSet : Step (onS (sortSetF (.lst (zInts l))) k) (l.length + 1 < 4096 ∧ k (.own (.lst (zInts (sset l))))) := ⟨fun h => by
  unfold sortSetF
  rw [show intsOf (.lst (zInts l)) = some l from unI_z l]
  show onS (if l.length + 1 < 4096 then _ else _) k
  rw [on_if]; exact h⟩
instance p_sort : Step (onS (sortF [.lst (zInts l)]) k) (k (.own (.lst (zInts (isort l))))) := ⟨fun h => by
  show onS ((intsOf (.lst (zInts l))).map fun l => TV.own (.lst (zInts (isort l)))) k
  rw [show intsOf (.lst (zInts l)) = some l from unI_z l]; exact h⟩
instance p_abs : Step (onS (absF [.int i]) k) (k (.val (.int (if i < 0 then -i else i)))) := ⟨fun h => h⟩
instance p_band : Step (onS (bandF (.int i) (.int j)) k) (k (.val (.int (Builtin.bitAnd i j)))) := ⟨fun h => h⟩
instance p_shl : Step (onS (shlF (.int i) (.int j)) k) (CPow i j ∧ k (.val (.int (i * 2 ^ j.toNat)))) := ⟨fun h => by
  show onS (if CPow i j then some (TV.val (.int (i * 2 ^ j.toNat))) else none) k
  rw [on_if]; exact h⟩
instance p_lr1 : Step (dLR1 da S Q E) (da S (fun y S1 => intK y fun n => RgOk 0 n ∧ Q (.own (.lst (rngD 0 n.toNat))) S1) E) := ⟨fun h => h⟩
instance p_lr2 : Step (dLR2 da db S Q E) (da S (fun y S1 => db S1 (fun y' S2 => intK y fun i => intK y' fun j => RgOk i j ∧ Q (.own (.lst (rngD i (j - i).toNat))) S2) E) E) := ⟨fun h => h⟩
instance p_chain : Step (dChain f f' da db dc S Q E) (da S (fun y S1 => db S1 (fun y' S2 => onS (tree S2 y) fun x => onS (tree S2 y') fun x' => onS (f x x') fun z => blK z fun b =>
  if b = true then dc S2 (fun y2 S3 => onS (tree S3 y') fun x' => onS (tree S3 y2) fun x2 => onS (f' x' x2) fun z => Q z S3) E else Q (.val (.bl false)) S2) E) E) := ⟨fun h => h⟩
variable {g : List DV → List DV → Option TV} {gm : List DV → List DV → Option (List DV × DV)}
instance p_rm : Step (dRM g dy dB S Q E) (dy S (fun y S1 => onS (tree S1 y) fun x0 => onS (seqL x0) fun _ => dB S1 (fun ys S2 => onS (tree S2 y) fun x => onS (seqL x) fun xs => onS (treeAll S2 ys) fun zs => onS (g xs zs) fun z => Q z S2) E) E) := ⟨fun h => h⟩
instance p_bm0 : Step (dBM0 gm dy S Q E) (dy S (fun y S1 => mutC S1 y fun o put => lstK o fun xs => onS (gm xs []) fun r => inS (put (.lst r.1)) fun S3 => Q (.val r.2) S3) E) := ⟨fun h => h⟩
instance p_cnt : Step (onS (cntF (zInts l) [.int i]) k) (k (.val (.int (l.count i : Nat)))) := ⟨fun h => by
  show onS ((unI (zInts l)).map fun l => TV.val (.int (l.count i : Nat))) k
  rw [unI_z]; exact h⟩
variable {xs ys : List DV} {kr : List DV × DV → Prop} {y : DV}
instance p_ext : Step (onS (extF xs [.lst ys]) kr) (xs.length + ys.length ≤ sizeLine ∧ kr (xs ++ ys, .non)) := ⟨fun h => by
  show onS (if xs.length + ys.length ≤ sizeLine then _ else _) kr
  rw [on_if]; exact h⟩
instance p_ins : Step (onS (insF xs [.int i, y]) kr) ((xs.length < sizeLine ∧ 0 ≤ i ∧ i < 2 ^ 63) ∧ kr (xs.take i.toNat ++ [y] ++ xs.drop i.toNat, .non)) := ⟨fun h => by
  show onS (if xs.length < sizeLine ∧ 0 ≤ i ∧ i < 2 ^ 63 then _ else _) kr
  rw [on_if]; exact h⟩
instance p_rev : Step (onS (revF xs []) kr) (kr (xs.reverse, .non)) := ⟨fun h => h⟩
end
end L3

/-! L3n: equality of plain data; lists of whole numbers, lists of such lists. -/
namespace L3
open PySem PySem.Spec PyProof.Rows L2
/-! ### plain data: no truth values, no dicts -/
mutual
def pu : DV → Bool
  | .non => true
  | .int _ => true
  | .str s => PyData.strOk s
  | .lst xs => puA xs
  | .tup xs => puA xs
  | _ => false
def puA : List DV → Bool
  | [] => true
  | x :: xs => pu x && puA xs
end
mutual
def dp : DV → Nat
  | .lst xs => dpA xs + 1
  | .tup xs => dpA xs + 1
  | _ => 0
def dpA : List DV → Nat
  | [] => 0
  | x :: xs => max (dp x) (dpA xs)
end
mutual
theorem toPy_pu : ∀ x : DV, pu x = true → ∃ d, toPy x = some d ∧ d.canLay0 = true ∧ d.depth = dp x
  | .non, _ => ⟨.none, rfl, rfl, rfl⟩
  | .int i, _ => ⟨.int i, rfl, rfl, rfl⟩
  | .str s, h => ⟨.str s, rfl, (by simpa [PyData.canLay0, pu] using h), rfl⟩
  | .lst xs, h => by
    obtain ⟨ds, h1, h2, h3⟩ := toPys_pu xs (by simpa [pu] using h)
    exact ⟨.list ds, by simp [toPy, h1], by simpa [PyData.canLay0] using h2, by simp [PyData.depth, dp, h3]⟩
  | .tup xs, h => by
    obtain ⟨ds, h1, h2, h3⟩ := toPys_pu xs (by simpa [pu] using h)
    exact ⟨.tuple ds, by simp [toPy, h1], by simpa [PyData.canLay0] using h2, by simp [PyData.depth, dp, h3]⟩
  | .bl _, h => by simp [pu] at h
  | .ty _, h => by simp [pu] at h
  | .ref _, h => by simp [pu] at h
  | .dic _, h => by simp [pu] at h
  | .dit _, h => by simp [pu] at h
  | .obj _, h => by simp [pu] at h
  | .seq _, h => by simp [pu] at h
theorem toPys_pu : ∀ xs : List DV, puA xs = true → ∃ ds, toPys xs = some ds ∧ PyData.canLayAll0 ds = true ∧ PyData.depthAll ds = dpA xs
  | [], _ => ⟨[], rfl, rfl, rfl⟩
  | x :: xs, h => by
    have h' : pu x = true ∧ puA xs = true := by simpa [puA] using h
    obtain ⟨d, h1, h2, h3⟩ := toPy_pu x h'.1
    obtain ⟨ds, h4, h5, h6⟩ := toPys_pu xs h'.2
    exact ⟨d :: ds, by simp [toPys, h1, h4], by simp [PyData.canLayAll0, h2, h5], by simp [PyData.depthAll, dpA, h3, h6]⟩
end
mutual
theorem eqv_pu : ∀ (x y : DV) (d e : PyData), pu x = true → pu y = true → toPy x = some d → toPy y = some e → (PyData.eqv d e = true ↔ x = y)
  | .non, y, d, e, hx, hy, h1, h2 => by
    cases h1
    cases y <;> simp_all [pu, toPy] <;> (try (first | (subst h2; simp [PyData.eqv]) | (obtain ⟨_, _, rfl⟩ := h2; simp [PyData.eqv])))
  | .int i, y, d, e, hx, hy, h1, h2 => by
    cases h1
    cases y <;> simp_all [pu, toPy] <;> (try (first | (subst h2; simp [PyData.eqv]) | (obtain ⟨_, _, rfl⟩ := h2; simp [PyData.eqv])))
  | .str s, y, d, e, hx, hy, h1, h2 => by
    cases h1
    cases y <;> simp_all [pu, toPy] <;> (try (first | (subst h2; simp [PyData.eqv]) | (obtain ⟨_, _, rfl⟩ := h2; simp [PyData.eqv])))
  | .lst xs, y, d, e, hx, hy, h1, h2 => by
    have hx' : puA xs = true := by simpa [pu] using hx
    obtain ⟨ds, q1, rfl⟩ : ∃ ds, toPys xs = some ds ∧ d = .list ds := by
      simp only [toPy, Option.map_eq_some_iff] at h1
      obtain ⟨ds, q1, q2⟩ := h1
      exact ⟨ds, q1, q2.symm⟩
    cases y with
    | lst ys =>
      obtain ⟨es, q2, rfl⟩ : ∃ ds, toPys ys = some ds ∧ e = .list ds := by
        simp only [toPy, Option.map_eq_some_iff] at h2
        obtain ⟨ds, q1, q2⟩ := h2
        exact ⟨ds, q1, q2.symm⟩
      have := eqvA_pu xs ys ds es hx' (by simpa [pu] using hy) q1 q2
      simp only [PyData.eqv, this, DV.lst.injEq]
    | non => cases h2; simp [PyData.eqv]
    | int i => cases h2; simp [PyData.eqv]
    | str s => cases h2; simp [PyData.eqv]
    | tup ys =>
      simp only [toPy, Option.map_eq_some_iff] at h2
      obtain ⟨es, q1, rfl⟩ := h2
      simp [PyData.eqv]
    | _ => simp [pu] at hy
  | .tup xs, y, d, e, hx, hy, h1, h2 => by
    have hx' : puA xs = true := by simpa [pu] using hx
    obtain ⟨ds, q1, rfl⟩ : ∃ ds, toPys xs = some ds ∧ d = .tuple ds := by
      simp only [toPy, Option.map_eq_some_iff] at h1
      obtain ⟨ds, q1, q2⟩ := h1
      exact ⟨ds, q1, q2.symm⟩
    cases y with
    | tup ys =>
      obtain ⟨es, q2, rfl⟩ : ∃ ds, toPys ys = some ds ∧ e = .tuple ds := by
        simp only [toPy, Option.map_eq_some_iff] at h2
        obtain ⟨ds, q1, q2⟩ := h2
        exact ⟨ds, q1, q2.symm⟩
      have := eqvA_pu xs ys ds es hx' (by simpa [pu] using hy) q1 q2
      simp only [PyData.eqv, this, DV.tup.injEq]
    | non => cases h2; simp [PyData.eqv]
    | int i => cases h2; simp [PyData.eqv]
    | str s => cases h2; simp [PyData.eqv]
    | lst ys =>
      simp only [toPy, Option.map_eq_some_iff] at h2
      obtain ⟨es, q1, rfl⟩ := h2
      simp [PyData.eqv]
    | _ => simp [pu] at hy
  | .bl _, _, _, _, h, _, _, _ => by simp [pu] at h
  | .ty _, _, _, _, h, _, _, _ => by simp [pu] at h
  | .ref _, _, _, _, h, _, _, _ => by simp [pu] at h
  | .dic _, _, _, _, h, _, _, _ => by simp [pu] at h
  | .dit _, _, _, _, h, _, _, _ => by simp [pu] at h
  | .obj _, _, _, _, h, _, _, _ => by simp [pu] at h
  | .seq _, _, _, _, h, _, _, _ => by simp [pu] at h
theorem eqvA_pu : ∀ (xs ys : List DV) (ds es : List PyData), puA xs = true → puA ys = true → toPys xs = some ds → toPys ys = some es → (PyData.eqvAll ds es = true ↔ xs = ys)
  | [], ys, ds, es, hx, hy, h1, h2 => by
    cases h1
    cases ys with
    | nil => cases h2; simp [PyData.eqvAll]
    | cons y ys =>
      obtain ⟨e, es', _, _, rfl⟩ : ∃ e es', toPy y = some e ∧ toPys ys = some es' ∧ es = e :: es' := by
        have h' : pu y = true ∧ puA ys = true := by simpa [puA] using hy
        obtain ⟨d, k1, _⟩ := toPy_pu y h'.1
        obtain ⟨ds, k2, _⟩ := toPys_pu ys h'.2
        refine ⟨d, ds, k1, k2, ?_⟩
        simp [toPys, k1, k2] at h2
        exact h2.symm
      simp [PyData.eqvAll]
  | x :: xs, ys, ds, es, hx, hy, h1, h2 => by
    have hx' : pu x = true ∧ puA xs = true := by simpa [puA] using hx
    obtain ⟨d, k1, _⟩ := toPy_pu x hx'.1
    obtain ⟨ds', k2, _⟩ := toPys_pu xs hx'.2
    obtain rfl : ds = d :: ds' := by
      simp [toPys, k1, k2] at h1
      exact h1.symm
    cases ys with
    | nil => cases h2; simp [PyData.eqvAll]
    | cons y ys =>
      have h' : pu y = true ∧ puA ys = true := by simpa [puA] using hy
      obtain ⟨e, k3, _⟩ := toPy_pu y h'.1
      obtain ⟨es', k4, _⟩ := toPys_pu ys h'.2
      obtain rfl : es = e :: es' := by
        simp [toPys, k3, k4] at h2
        exact h2.symm
      have e1 := eqv_pu x y d e hx'.1 h'.1 k1 k3
      have e2 := eqvA_pu xs ys ds' es' hx'.2 h'.2 k2 k4
      simp only [PyData.eqvAll, Bool.and_eq_true, e1, e2, List.cons.injEq]
end
theorem eqP_pu {neg : Bool} {x y : DV} (hx : pu x = true) (hy : pu y = true) (dx : dp x ≤ 64) (dy : dp y ≤ 64) {c : Prop} [Decidable c] (hc : x = y ↔ c) : eqP neg x y = some (.val (.bl (if neg then !decide c else decide c))) := by
  obtain ⟨d, h1, h2, h3⟩ := toPy_pu x hx
  obtain ⟨e, h4, h5, h6⟩ := toPy_pu y hy
  have q := eqv_pu x y d e hx hy h1 h4
  have s1 : SeqAt.shaped d = true := by simp [SeqAt.shaped, h2, h3, dx]
  have s2 : SeqAt.shaped e = true := by simp [SeqAt.shaped, h5, h6, dy]
  unfold eqP
  rw [h1, h4]
  show (if SeqAt.shaped d = true ∧ SeqAt.shaped e = true then some (TV.val (.bl (if neg then !PyData.eqv d e else PyData.eqv d e))) else none) = _
  rw [if_pos ⟨s1, s2⟩]
  have : PyData.eqv d e = decide c := by
    by_cases z : c
    · rw [decide_eq_true z]; exact q.mpr (hc.mpr z)
    · rw [decide_eq_false z]
      cases w : PyData.eqv d e with
      | false => rfl
      | true => exact absurd (hc.mp (q.mp w)) z
  rw [this]
theorem any_pu {x : DV} {d : PyData} (hx : pu x = true) (h1 : toPy x = some d) : ∀ {ys : List DV} {es : List PyData}, puA ys = true → toPys ys = some es → (es.any (fun z => PyData.eqv z d) = true ↔ x ∈ ys)
  | [], es, _, h => by cases h; simp
  | y :: ys, es, hy, h => by
    have h' : pu y = true ∧ puA ys = true := by simpa [puA] using hy
    obtain ⟨e, k3, _⟩ := toPy_pu y h'.1
    obtain ⟨es', k4, _⟩ := toPys_pu ys h'.2
    obtain rfl : es = e :: es' := by
      simp [toPys, k3, k4] at h
      exact h.symm
    have q1 := eqv_pu y x e d h'.1 hx k3 h1
    have q2 := any_pu hx h1 h'.2 k4
    simp only [List.any_cons, Bool.or_eq_true, q1, q2, List.mem_cons]
    exact ⟨fun h => h.imp Eq.symm id, fun h => h.imp Eq.symm id⟩
theorem inP_pu {neg : Bool} {x : DV} {ys : List DV} (hx : pu x = true) (hy : puA ys = true) (dx : dp x ≤ 64) (dy : dpA ys ≤ 63) {c : Prop} [Decidable c] (hc : x ∈ ys ↔ c) : inP neg x ys = some (.val (.bl (if neg then !decide c else decide c))) := by
  obtain ⟨d, h1, h2, h3⟩ := toPy_pu x hx
  obtain ⟨es, h4, h5, h6⟩ := toPys_pu ys hy
  have q := any_pu hx h1 hy h4
  have s1 : SeqAt.shaped d = true := by simp [SeqAt.shaped, h2, h3, dx]
  have s2 : SeqAt.shaped (.list es) = true := by
    simp only [SeqAt.shaped, PyData.canLay0, h5, PyData.depth, h6, Bool.true_and, decide_eq_true_eq]
    omega
  unfold inP
  rw [h1, h4]
  show (if SeqAt.shaped d = true ∧ SeqAt.shaped (.list es) = true then some (TV.val (.bl (if neg then !es.any (fun z => PyData.eqv z d) else es.any fun z => PyData.eqv z d))) else none) = _
  rw [if_pos ⟨s1, s2⟩]
  have : (es.any fun z => PyData.eqv z d) = decide c := by
    by_cases z : c
    · rw [decide_eq_true z]; exact q.mpr (hc.mpr z)
    · rw [decide_eq_false z]
      cases w : es.any (fun z => PyData.eqv z d) with
      | false => rfl
      | true => exact absurd (hc.mp (q.mp w)) z
  rw [this]
/-! ### lists of whole numbers, lists of such lists -/
def zRow (r : List Int) : DV := .lst (zInts r)
def zWeb (w : List (List Int)) : List DV := w.map zRow
theorem z_cons (i : Int) (l : List Int) : zInts (i :: l) = .int i :: zInts l := rfl
theorem z_snoc (l : List Int) (i : Int) : zInts l ++ [.int i] = zInts (l ++ [i]) := by simp [zInts]
theorem z_app (l k : List Int) : zInts l ++ zInts k = zInts (l ++ k) := by simp [zInts]
theorem z_rev (l : List Int) : (zInts l).reverse = zInts l.reverse := by simp [zInts]
theorem z_take (l : List Int) (n : Nat) : (zInts l).take n = zInts (l.take n) := by simp [zInts, List.map_take]
theorem z_drop (l : List Int) (n : Nat) : (zInts l).drop n = zInts (l.drop n) := by simp [zInts, List.map_drop]
theorem z_set (l : List Int) (n : Nat) (i : Int) : (zInts l).set n (.int i) = zInts (l.set n i) := by simp [zInts, List.map_set]
theorem z_inj {l k : List Int} : zInts l = zInts k ↔ l = k := by
  refine ⟨fun h => ?_, fun h => by rw [h]⟩
  have := unI_z l
  rw [h, unI_z] at this
  exact (Option.some.inj this).symm
theorem z_nil {l : List Int} : zInts l = [] ↔ l = [] := by cases l <;> simp [zInts]
theorem z_mem {l : List Int} {i : Int} : DV.int i ∈ zInts l ↔ i ∈ l := by simp [zInts]
theorem z_cut (l : List Int) (lo hi : Option Int) : cutD (zInts l) lo hi = zInts ((l.drop (HT.sIx l.length 0 lo)).take (HT.sIx l.length l.length hi - HT.sIx l.length 0 lo)) := by
  unfold cutD
  rw [z_len, z_drop, z_take]
theorem z_atI {l : List Int} {i : Int} (h0 : 0 ≤ i) (h1 : i < l.length) : atI (zInts l) i = some (.int (l.getD i.toNat 0)) := by
  obtain ⟨n, rfl⟩ := Int.eq_ofNat_of_zero_le h0
  rw [z_at (by omega)]
  simp [List.getD_eq_getElem?_getD, List.getElem?_eq_getElem (show n < l.length by omega)]
theorem w_cons (r : List Int) (w : List (List Int)) : zWeb (r :: w) = zRow r :: zWeb w := rfl
theorem w_snoc (w : List (List Int)) (r : List Int) : zWeb w ++ [.lst (zInts r)] = zWeb (w ++ [r]) := by simp [zWeb, zRow]
theorem w_app (w u : List (List Int)) : zWeb w ++ zWeb u = zWeb (w ++ u) := by simp [zWeb]
theorem w_len {w : List (List Int)} : (zWeb w).length = w.length := List.length_map ..
theorem w_inj {w u : List (List Int)} : zWeb w = zWeb u ↔ w = u := by
  unfold zWeb
  refine ⟨fun h => ?_, fun h => by rw [h]⟩
  induction w generalizing u with
  | nil => cases u with
    | nil => rfl
    | cons _ _ => cases h
  | cons r w ih =>
    cases u with
    | nil => cases h
    | cons s u =>
      simp only [List.map_cons, List.cons.injEq, zRow, DV.lst.injEq] at h
      rw [z_inj.mp h.1, ih h.2]
theorem w_nil {w : List (List Int)} : zWeb w = [] ↔ w = [] := by cases w <;> simp [zWeb]
theorem w_mem {w : List (List Int)} {r : List Int} : DV.lst (zInts r) ∈ zWeb w ↔ r ∈ w := by
  unfold zWeb zRow
  rw [List.mem_map]
  refine ⟨fun ⟨s, h, e⟩ => ?_, fun h => ⟨r, h, rfl⟩⟩
  rw [← z_inj.mp (DV.lst.inj e)]; exact h
theorem w_atI {w : List (List Int)} {i : Int} (h0 : 0 ≤ i) (h1 : i < w.length) : atI (zWeb w) i = some (.lst (zInts (w.getD i.toNat []))) := by
  obtain ⟨n, rfl⟩ := Int.eq_ofNat_of_zero_le h0
  rw [at_nat (by rw [w_len]; omega)]
  simp [zWeb, zRow, List.getD_eq_getElem?_getD, List.getElem?_eq_getElem (show n < w.length by omega)]
theorem z_pu : ∀ l : List Int, puA (zInts l) = true
  | [] => rfl
  | i :: l => by rw [z_cons]; simp only [puA, pu, z_pu l, Bool.and_self]
theorem z_dp : ∀ l : List Int, dpA (zInts l) = 0
  | [] => rfl
  | i :: l => by rw [z_cons]; simp only [dpA, dp, z_dp l, Nat.max_self]
theorem w_pu : ∀ w : List (List Int), puA (zWeb w) = true
  | [] => rfl
  | r :: w => by rw [w_cons]; simp only [puA, zRow, pu, z_pu, w_pu w, Bool.and_self]
theorem w_dp : ∀ w : List (List Int), dpA (zWeb w) ≤ 1
  | [] => by simp [zWeb, dpA]
  | r :: w => by
    have := w_dp w
    rw [w_cons]
    simp only [dpA, zRow, dp, z_dp]
    omega
section
variable {l l' : List Int} {w u : List (List Int)} {k : TV → Prop} {i : Int} {b c : Bool}
theorem eqF_of {x y : DV} {b : Bool} (h : eqP false x y = some (.val (.bl b))) (q : k (.val (.bl b))) : onS (eqP false x y) k := by rw [h]; exact q
theorem neF_of {x y : DV} {b : Bool} (h : eqP true x y = some (.val (.bl b))) (q : k (.val (.bl b))) : onS (eqP true x y) k := by rw [h]; exact q
theorem dz {l : List Int} : dp (.lst (zInts l)) ≤ 64 := by simp [dp, z_dp]
theorem pz {l : List Int} : pu (.lst (zInts l)) = true := by simp [pu, z_pu]
theorem dw {w : List (List Int)} : dp (.lst (zWeb w)) ≤ 64 := by have := w_dp w; simp only [dp]; omega
theorem pw {w : List (List Int)} : pu (.lst (zWeb w)) = true := by simp [pu, w_pu]
instance p_eq_zz : Step (onS (eqF (.lst (zInts l)) (.lst (zInts l'))) k) (k (.val (.bl (decide (l = l'))))) := ⟨eqF_of (eqP_pu pz pz dz dz (by rw [DV.lst.injEq, z_inj]))⟩
instance p_ne_zz : Step (onS (neF (.lst (zInts l)) (.lst (zInts l'))) k) (k (.val (.bl (!decide (l = l'))))) := ⟨neF_of (eqP_pu pz pz dz dz (by rw [DV.lst.injEq, z_inj]))⟩
instance p_eq_z0 : Step (onS (eqF (.lst (zInts l)) (.lst [])) k) (k (.val (.bl (decide (l = []))))) := ⟨eqF_of (eqP_pu (c := l = []) pz rfl dz (by decide) (by rw [DV.lst.injEq, z_nil]))⟩
instance p_ne_z0 : Step (onS (neF (.lst (zInts l)) (.lst [])) k) (k (.val (.bl (!decide (l = []))))) := ⟨neF_of (eqP_pu (c := l = []) pz rfl dz (by decide) (by rw [DV.lst.injEq, z_nil]))⟩
instance p_eq_ww : Step (onS (eqF (.lst (zWeb w)) (.lst (zWeb u))) k) (k (.val (.bl (decide (w = u))))) := ⟨eqF_of (eqP_pu pw pw dw dw (by rw [DV.lst.injEq, w_inj]))⟩
instance p_ne_ww : Step (onS (neF (.lst (zWeb w)) (.lst (zWeb u))) k) (k (.val (.bl (!decide (w = u))))) := ⟨neF_of (eqP_pu pw pw dw dw (by rw [DV.lst.injEq, w_inj]))⟩
instance p_eq_w0 : Step (onS (eqF (.lst (zWeb w)) (.lst [])) k) (k (.val (.bl (decide (w = []))))) := ⟨eqF_of (eqP_pu (c := w = []) pw rfl dw (by decide) (by rw [DV.lst.injEq, w_nil]))⟩
instance p_ne_w0 : Step (onS (neF (.lst (zWeb w)) (.lst [])) k) (k (.val (.bl (!decide (w = []))))) := ⟨neF_of (eqP_pu (c := w = []) pw rfl dw (by decide) (by rw [DV.lst.injEq, w_nil]))⟩
instance p_eq_bb : Step (onS (eqF (.bl b) (.bl c)) k) (k (.val (.bl (b == c)))) := ⟨fun h => h⟩
instance p_ne_bb : Step (onS (neF (.bl b) (.bl c)) k) (k (.val (.bl (!(b == c))))) := ⟨fun h => h⟩
instance p_in_z : Step (onS (inF false (.int i) (.lst (zInts l))) k) (k (.val (.bl (decide (i ∈ l))))) := ⟨fun h => by
  show onS (inP false (.int i) (zInts l)) k
  rw [inP_pu (c := i ∈ l) rfl (z_pu l) (Nat.zero_le _) (by rw [z_dp]; decide) z_mem]; exact h⟩
instance p_nin_z : Step (onS (inF true (.int i) (.lst (zInts l))) k) (k (.val (.bl (!decide (i ∈ l))))) := ⟨fun h => by
  show onS (inP true (.int i) (zInts l)) k
  rw [inP_pu (c := i ∈ l) rfl (z_pu l) (Nat.zero_le _) (by rw [z_dp]; decide) z_mem]; exact h⟩
instance p_in_w : Step (onS (inF false (.lst (zInts l)) (.lst (zWeb w))) k) (k (.val (.bl (decide (l ∈ w))))) := ⟨fun h => by
  show onS (inP false (.lst (zInts l)) (zWeb w)) k
  rw [inP_pu (c := l ∈ w) pz (w_pu w) dz (by have := w_dp w; omega) w_mem]; exact h⟩
instance p_nin_w : Step (onS (inF true (.lst (zInts l)) (.lst (zWeb w))) k) (k (.val (.bl (!decide (l ∈ w))))) := ⟨fun h => by
  show onS (inP true (.lst (zInts l)) (zWeb w)) k
  rw [inP_pu (c := l ∈ w) pz (w_pu w) dz (by have := w_dp w; omega) w_mem]; exact h⟩
end
end L3

/-! L3o: walks over typed lists, comprehensions, slices. -/
namespace L3
open PySem PySem.Spec PyProof.Rows L2
section
variable {dg : DG} {b : DS} {dt : DT} {dX : DX} {ks : List Nat} {S S0 : DSt} {D : DEnds} {α : Type}
/-- a walk over a list, by what was walked -/
theorem forL_inv {inj : α → DV} {l : List α} (I : List α → DSt → Prop) (h0 : I [] S)
    (hs : ∀ (pre : List α) (a : α) (post : List α) (S1 : DSt) (k : DSt → Prop), l = pre ++ a :: post → I pre S1 → (∀ S2, I (pre ++ [a]) S2 → k S2) → dg (inj a) S1 fun S2 => b S2 ⟨fun S3 => wipeS ks S3 k, D.rt, D.nx, fun S3 => wipeS ks S3 k, D.ex⟩)
    (he : ∀ S1, I l S1 → D.nx S1) : forP dg b ks (l.map inj) S D := by
  have main : ∀ (post pre : List α) (S1 : DSt), l = pre ++ post → I pre S1 → forP dg b ks (post.map inj) S1 D := by
    intro post
    induction post with
    | nil => intro pre S1 e h; rw [List.append_nil] at e; subst e; exact he S1 h
    | cons a post ih => intro pre S1 e h; exact hs pre a post S1 _ e h fun S2 h2 => ih (pre ++ [a]) S2 (by rw [e, List.append_assoc]; rfl) h2
  exact main l [] S rfl h0
/-- a comprehension, by what was walked -/
theorem lcL_inv {inj : α → DV} {l : List α} {k : List DV → DSt → Prop} {acc : List DV} (I : List α → List DV → DSt → Prop) (h0 : I [] acc S)
    (hs : ∀ (pre : List α) (a : α) (post : List α) (acc : List DV) (S1 : DSt) (k : List DV → DSt → Prop), l = pre ++ a :: post → I pre acc S1 → (∀ acc' S2, I (pre ++ [a]) acc' S2 → k acc' S2) →
      dg (inj a) S1 fun S2 => dt S2 (fun t S3 => if t = true then dX S3 (fun z S4 => acc.length < sizeLine ∧ wipeS ks S4 fun S5 => k (acc ++ [z]) S5) (fun _ _ => False) else wipeS ks S3 fun S4 => k acc S4) (fun _ _ => False))
    (he : ∀ acc S1, I l acc S1 → k acc S1) : lcP dg dt dX ks (l.map inj) acc S k := by
  have main : ∀ (post pre : List α) (acc : List DV) (S1 : DSt), l = pre ++ post → I pre acc S1 → lcP dg dt dX ks (post.map inj) acc S1 k := by
    intro post
    induction post with
    | nil => intro pre acc S1 e h; rw [List.append_nil] at e; subst e; exact he acc S1 h
    | cons a post ih => intro pre acc S1 e h; exact hs pre a post acc S1 (fun acc' S2 => lcP dg dt dX ks (post.map inj) acc' S2 k) e h fun acc' S2 h2 => ih (pre ++ [a]) acc' S2 (by rw [e, List.append_assoc]; rfl) h2
  exact main l [] acc S rfl h0
/-- a comprehension that leaves all as it is -/
theorem lc_pure {inj : α → DV} {l : List α} {k : List DV → DSt → Prop} (p : α → Bool) (f : α → DV) (hl : l.length ≤ sizeLine)
    (hs : ∀ a ∈ l, ∀ (K : DV → DSt → Prop) (Kf : DSt → Prop), (p a = true → ∀ S3, S3.wipe ks = S0 → K (f a) S3) → (p a = false → ∀ S3, S3.wipe ks = S0 → Kf S3) →
      dg (inj a) S0 fun S2 => dt S2 (fun t S3 => if t = true then dX S3 K (fun _ _ => False) else Kf S3) (fun _ _ => False))
    (he : k ((l.filter p).map f) S0) : lcP dg dt dX ks (l.map inj) [] S0 k := by
  refine lcL_inv (fun pre acc S1 => acc = (pre.filter p).map f ∧ S1 = S0) ⟨rfl, rfl⟩ ?_ ?_
  · rintro pre a post acc S1 kn e ⟨rfl, rfl⟩ hk
    refine hs a (by rw [e]; simp) _ _ (fun hp S3 h3 => ⟨?_, ?_⟩) fun hp S3 h3 => ?_
    · have h1 : ((pre.filter p).map f).length ≤ pre.length := by rw [List.length_map]; exact List.length_filter_le _ _
      have h2 : l.length = pre.length + (post.length + 1) := by rw [e, List.length_append, List.length_cons]
      omega
    · show kn _ (S3.wipe ks)
      rw [h3]
      exact hk _ _ ⟨by rw [List.filter_append, List.map_append]; simp [hp], rfl⟩
    · show kn _ (S3.wipe ks)
      rw [h3]
      exact hk _ _ ⟨by rw [List.filter_append, List.map_append]; simp [hp], rfl⟩
  · rintro acc S1 ⟨rfl, rfl⟩
    exact he
end
section
variable {b : DS} {dt : DT} {ks : List Nat} {S : DSt} {D : DEnds}
/-- a while, its ends gathered -/
theorem while_inv2 (I : Nat → DSt → Prop) (J : DSt → Prop) (n : Nat) (h0 : I n S)
    (hs : ∀ (m : Nat) (S1 : DSt) (k kx : DSt → Prop), I m S1 → (∀ j S2, j < m → I j S2 → k S2) → (∀ S2, J S2 → kx S2) → dt S1 (fun t S2 => if t = true then b S2 ⟨fun S3 => wipeS ks S3 k, D.rt, kx, fun S3 => wipeS ks S3 k, D.ex⟩ else kx S2) D.ex)
    (he : ∀ S1, J S1 → D.nx S1) : dWhile dt b ks S D :=
  while_inv I n h0 fun m S1 k h hk => hs m S1 k D.nx h hk he
end
/-- both ways lead to the same rest -/
theorem ite_goR {c A B B' : Prop} [Decidable c] [b : Go B B'] (h : c → B' → A) (g : B') : if c then A else B := by
  by_cases q : c
  · rw [if_pos q]; exact h q g
  · rw [if_neg q]; exact b.mp g
theorem ite_goL {c A B A' : Prop} [Decidable c] [a : Go A A'] (h : ¬ c → A' → B) (g : A') : if c then A else B := by
  by_cases q : c
  · rw [if_pos q]; exact a.mp g
  · rw [if_neg q]; exact h q g
/-- a statement of which several ways lead on, and the rest -/
def dJoin (d u : DS) : DS := dSeq d u
theorem join_go {d u : DS} {S : DSt} {D : DEnds} (h : d S { D with nx := fun S1 => u S1 D }) : dJoin d u S D := h
theorem join {d u : DS} {S : DSt} {D : DEnds} (J : DSt → Prop) (h1 : ∀ k : DSt → Prop, (∀ S2, J S2 → k S2) → d S ⟨k, D.rt, D.bk, D.ct, D.ex⟩) (h2 : ∀ S2, J S2 → u S2 D) : dJoin d u S D := h1 _ h2
instance p_pop0 {x : DV} {r : List DV} {k : List DV × DV → Prop} : Step (onS (popAtF (x :: r) [.int 0]) k) (k (r, x)) := ⟨fun h => by
  have e : popAtF (x :: r) [.int 0] = some (r, x) := by
    have q : seqIndex? 0 (x :: r).length = some 0 := by
      unfold seqIndex?
      simp
    show (if -(2 ^ 63) ≤ (0 : Int) ∧ (0 : Int) < 2 ^ 63 then (match seqIndex? 0 (x :: r).length with
      | some k => match (x :: r)[k]? with
        | some y => some ((x :: r).eraseIdx k, y)
        | none => none
      | none => none) else none) = _
    rw [if_pos (by decide), q]
    rfl
  rw [e]; exact h⟩
section
variable {dg : DG} {dX : DX} {ks : List Nat} {S0 : DSt} {α : Type}
/-- .. without a condition -/
theorem lc_map {inj : α → DV} {l : List α} {k : List DV → DSt → Prop} (f : α → DV) (hl : l.length ≤ sizeLine)
    (hs : ∀ a ∈ l, ∀ (K : DV → DSt → Prop), (∀ S3, S3.wipe ks = S0 → K (f a) S3) → dg (inj a) S0 fun S2 => dX S2 K (fun _ _ => False))
    (he : k (l.map f) S0) : lcP dg dYes dX ks (l.map inj) [] S0 k := by
  refine lc_pure (fun _ => true) f hl (fun a ha K Kf h1 _ => ?_) (by rw [List.filter_eq_self.mpr fun _ _ => rfl]; exact he)
  exact hs a ha K (fun S3 h3 => h1 rfl S3 h3)
end
/-! ### slices -/
theorem sIx_pos {n d : Nat} {k : Int} (h : 0 ≤ k) : HT.sIx n d (some k) = min k.toNat n := by
  show (if k < 0 then _ else _) = _
  rw [if_neg (by omega)]
theorem cut_to {xs : List DV} {k : Int} (h : 0 ≤ k) : cutD xs none (some k) = xs.take k.toNat := by
  unfold cutD
  rw [sIx_pos h]
  show (xs.drop 0).take (min k.toNat xs.length - 0) = _
  rw [List.drop_zero, Nat.sub_zero, List.take_eq_take_iff]
  omega
theorem cut_from {xs : List DV} {k : Int} (h : 0 ≤ k) : cutD xs (some k) none = xs.drop k.toNat := by
  unfold cutD
  rw [sIx_pos h]
  show (xs.drop (min k.toNat xs.length)).take (xs.length - min k.toNat xs.length) = _
  rw [List.take_of_length_le (by rw [List.length_drop]; omega)]
  by_cases c : k.toNat ≤ xs.length
  · rw [Nat.min_eq_left c]
  · rw [Nat.min_eq_right (by omega), List.drop_of_length_le (Nat.le_refl _), List.drop_of_length_le (by omega)]
theorem cut_all {xs : List DV} : cutD xs none none = xs := by
  unfold cutD
  show (xs.drop 0).take (xs.length - 0) = _
  rw [List.drop_zero, Nat.sub_zero, List.take_length]
section
variable {xs : List DV} {k : TV → Prop}
/-! ### pools: a list of a list of great numbers, a list of cells, a count -/
def Pool (O : OM) (p g : Addr) (c : Int) : Prop := ∃ (gl cs : List Int) (n : Int), O p = some (.lst [.ref g, .lst (zInts cs), .int n]) ∧ O g = some (.lst (zInts gl)) ∧ g ≠ p ∧ (∀ x ∈ cs, 0 ≤ x ∧ x < 2147483647) ∧ 0 ≤ n ∧ n ≤ c
/-- but for two objects the map is the same -/
def But2 (p g : Addr) (O O' : OM) : Prop := ∀ a, a ≠ p → a ≠ g → O' a = O a
theorem But2.refl {p g : Addr} {O : OM} : But2 p g O O := fun _ _ _ => rfl
theorem But2.trans {p g : Addr} {O O1 O2 : OM} (h : But2 p g O O1) (k : But2 p g O1 O2) : But2 p g O O2 := fun a e f => (k a e f).trans (h a e f)
theorem Pool.mono {O : OM} {p g : Addr} {c d : Int} (h : Pool O p g c) (e : c ≤ d) : Pool O p g d := by
  obtain ⟨gl, cs, n, h1, h2, h3, h4, h5, h6⟩ := h
  exact ⟨gl, cs, n, h1, h2, h3, h4, h5, by omega⟩
end
end L3

/-! L3p: objects of the map become trees. -/
namespace L3
open PySem PySem.Spec PyProof.Rows L2
mutual
/-- the lists of the map that m tells, read as trees -/
def fz (m : Addr → Option (List DV)) : DV → DV
  | .ref a => match m a with
    | some xs => .lst xs
    | none => .ref a
  | .lst ys => .lst (fzs m ys)
  | .seq ys => .seq (fzs m ys)
  | .tup ys => .tup (fzs m ys)
  | x => x
def fzs (m : Addr → Option (List DV)) : List DV → List DV
  | [] => []
  | y :: ys => fz m y :: fzs m ys
end
def DSt.less (S : DSt) (m : Addr → Option (List DV)) : DSt := ⟨S.g, fun a => if (m a).isSome then none else S.o a⟩
section
variable {K : PySem.W.Frag} {F F' H H' F0 H0 : Hp} {σ σ' σ1 σ2 σ0 : L2.St} {S S' S1 S2 S0 : DSt} {F1 F2 H1 H2 : Hp} {p : Addr} {v : V} {W : WX} {m : Addr → Option (List DV)}
mutual
theorem fz_ok (e : Same F F') (hm : ∀ a xs, m a = some xs → ∃ vs, F' a = some (.lst vs) ∧ Rps K F' vs xs) : ∀ {v : V} {x : DV}, Rp K F v x → Rp K F' v (fz m x)
  | _, _, .non => .non
  | _, _, .bl b => .bl b
  | _, _, .int i => .int i
  | _, _, .str x => .str x
  | _, _, .ty n => .ty n
  | _, _, .ref a => by
    unfold fz
    cases q : m a with
    | none => exact .ref a
    | some xs => obtain ⟨vs, h1, h2⟩ := hm a xs q; exact .lst h1 h2
  | _, _, .lst h r => by unfold fz; exact .lst (e _ _ h) (fzs_ok e hm r)
  | _, _, .seq h r => by unfold fz; exact .seq (e.seq h) (fzs_ok e hm r)
  | _, _, .tup h r => by unfold fz; exact .tup (Same.seqT e h) (fzs_ok e hm r)
  | _, _, .dic h r => by unfold fz; exact .dic (e _ _ h) (Rks.mono e r)
  | _, _, .dit h r => by unfold fz; exact .dit (e _ _ h) r
  | _, _, .obj h => by unfold fz; exact .obj (e _ _ h)
theorem fzs_ok (e : Same F F') (hm : ∀ a xs, m a = some xs → ∃ vs, F' a = some (.lst vs) ∧ Rps K F' vs xs) : ∀ {vs : List V} {xs : List DV}, Rps K F vs xs → Rps K F' vs (fzs m xs)
  | _, _, .nil => .nil
  | _, _, .cons h r => .cons (fz_ok e hm h) (fzs_ok e hm r)
end
/-- frozen: F and what m tells -/
def plusM (F H : Hp) (m : Addr → Option (List DV)) : Hp := fun a => match F a with
  | some u => some u
  | none => if (m a).isSome then H a else none
theorem shift_ok (a : Stp K F0 H0 σ0 S0 F H σ S) (hm : ∀ b xs, m b = some xs → S.o b = some (.lst xs)) : ∃ F', Stp K F0 H0 σ0 S0 F' H σ (S.less m) ∧ Same F F' ∧ ∀ b xs, m b = some xs → ∃ vs, F' b = some (.lst vs) ∧ Rps K F' vs xs := by
  have s := a.st
  have sub : Same F (plusM F H m) := fun b u e => by unfold plusM; rw [e]
  have at_ : ∀ b xs, m b = some xs → ∃ vs, plusM F H m b = some (.lst vs) ∧ Rps K (plusM F H m) vs xs := fun b xs e => by
    obtain ⟨h1, vs, h2, h3⟩ := s.ob b _ (hm b xs e)
    refine ⟨vs, ?_, h3.mono sub⟩
    unfold plusM
    rw [h1, e]
    exact h2
  have none_ : ∀ b, F b = none → m b = none → plusM F H m b = none := fun b h1 h2 => by
    unfold plusM
    rw [h1, h2]
    rfl
  refine ⟨plusM F H m, ⟨a.fx.trans sub, a.kp, fun b h n q => ?_, fun b h => ?_, ⟨fun b u e => ?_, s.len, fun i x e => ?_, s.inj, fun i o q e1 e2 => ?_, fun b so e => ?_⟩⟩, sub, at_⟩
  · cases z : F b with
    | some u => exact a.nf b h n (by rw [z]; exact fun y => by cases y)
    | none =>
      cases w : m b with
      | none => exact absurd (none_ b z w) q
      | some xs =>
        rcases a.no b (.inr (by rw [hm b xs w]; exact fun y => by cases y)) with y | y
        · exact absurd y n
        · exact absurd y h
  · refine a.no b ?_
    rcases h with h | h
    · exact .inl h
    · refine .inr fun z => h ?_
      show (if (m b).isSome then none else S.o b) = none
      rw [z]; split <;> rfl
  · unfold plusM at e
    cases z : F b with
    | some w => rw [z] at e; cases e; exact s.ex b _ z
    | none =>
      rw [z] at e
      have e' : (if (m b).isSome = true then H b else none) = some u := e
      split at e'
      · exact e'
      · cases e'
  · obtain ⟨w, e1, r⟩ := s.sl i x e
    refine ⟨w, e1, ?_⟩
    cases x with
    | val y => exact Rp.mono sub r
    | rf b => exact r
    | err b c d er => exact ⟨r.1, r.2.mono sub⟩
    | own o =>
      obtain ⟨q, rfl, h1, h2⟩ := r
      refine ⟨q, rfl, none_ q h1 ?_, h2.mono sub fun u z => z⟩
      cases z : m q with
      | none => rfl
      | some xs =>
        have y := s.sep i o q e e1
        rw [hm q xs z] at y; cases y
  · have y := s.sep i o q e1 e2
    show (if (m q).isSome then none else S.o q) = none
    rw [y]; split <;> rfl
  · have e' : (if (m b).isSome = true then none else S.o b) = some so := e
    cases z : m b with
    | some xs => rw [z] at e'; cases e'
    | none =>
      rw [z] at e'
      obtain ⟨h1, h2⟩ := s.ob b so e'
      exact ⟨none_ b h1 z, h2.mono sub fun u z => z⟩
def dShift (d : DX) : DX := fun S Q Ed => d S (fun x S1 => ∃ m : Addr → Option (List DV), (∀ a xs, m a = some xs → S1.o a = some (.lst xs)) ∧ Q (fz m x) (S1.less m)) Ed
theorem LX.shift {t : TE} {d : DX} (h : LX K W t d) : LX K W t (dShift d) := fun F H σ S Q Qd Ed s hd k e =>
  h F H σ S Q _ Ed s hd (fun v x F' H' S' a r ⟨m, hm, q⟩ => by
    obtain ⟨F2, b, sub, at_⟩ := shift_ok a hm
    exact k v _ F2 H' _ b (fz_ok sub at_ r) q) e
/-- f(..), f pure: the objects of the map lent as trees -/
def dCallD (ps : PSp) (da : DB) : DE := fun S Q Ed => da S (fun ys S1 => onS (treeAll S1 ys) fun xs => ∃ m : Addr → Option (List DV), (∀ a l, m a = some l → S1.o a = some (.lst l)) ∧
  ps (fzs m xs) (fun z => flatT z = true ∧ Q z S1) (fun e => flatE e = true ∧ Ed e S1)) Ed
/-- F, what stands at these addresses, and what m tells -/
def plusA (F H : Hp) (m : Addr → Option (List DV)) (as : List Addr) : Hp := fun a => match F a with
  | some u => some u
  | none => if a ∈ as ∨ (m a).isSome then H a else none
theorem lend_ok {as : List Addr} (s : Same F H) (hm : ∀ a xs, m a = some xs → ∃ vs, plusA F H m as a = some (.lst vs) ∧ Rps K (plusA F H m as) vs xs) : ∀ {vs : List V} {xs : List DV}, (∀ a, V.ref a ∈ vs → a ∈ as) → RpBs K F H vs xs → Rps K (plusA F H m as) vs (fzs m xs)
  | _, _, _, .nil => .nil
  | _, _, hv, .cons a r => by
    have sub : Same F (plusA F H m as) := fun b u e => by unfold plusA; rw [e]
    have at_ : ∀ {b : Addr} {u : HO}, b ∈ as → H b = some u → plusA F H m as b = some u := fun {b u} h e => by
      unfold plusA
      cases q : F b with
      | some w => have := s b w q; rw [e] at this; cases this; rfl
      | none => show (if _ then _ else _) = _; rw [if_pos (.inl h)]; exact e
    refine .cons ?_ (lend_ok s hm (fun b h => hv b (List.mem_cons_of_mem _ h)) r)
    cases a with
    | of q => exact fz_ok sub hm q
    | lst h1 h2 => unfold fz; exact .lst (at_ (hv _ List.mem_cons_self) h1) (fzs_ok sub hm h2)
    | dic h1 h2 => unfold fz; exact .dic (at_ (hv _ List.mem_cons_self) h1) (h2.mono sub)
    | dit h1 h2 => unfold fz; exact .dit (at_ (hv _ List.mem_cons_self) h1) h2
theorem LE.callD {ps : PSp} {ta : TA} {da : DB} (ha : LB K W ta da) : LE K W (tCallS (liftP K ps) (WE W) ta) (dCallD ps da) := fun F H σ S Q Qd Ed s hd k e =>
  ha F H σ S _ _ Ed s hd (fun vs ys F1 H1 S1 a r1 q => by
    obtain ⟨xs, e1, m, hm, q⟩ := onS_ok q
    have ea := e.step a
    have sm := a.st.ex
    have sub : Same F1 (plusA F1 H1 m (vAd vs)) := fun b u e => by unfold plusA; rw [e]
    have inH : Same (plusA F1 H1 m (vAd vs)) H1 := fun b u e => by
      unfold plusA at e
      cases z : F1 b with
      | some w => rw [z] at e; cases e; exact sm b _ z
      | none =>
        rw [z] at e
        have e' : (if b ∈ vAd vs ∨ (m b).isSome = true then H1 b else none) = some u := e
        split at e'
        · exact e'
        · cases e'
    have at_ : ∀ b xs, m b = some xs → ∃ us, plusA F1 H1 m (vAd vs) b = some (.lst us) ∧ Rps K (plusA F1 H1 m (vAd vs)) us xs := fun b xs w => by
      obtain ⟨h1, us, h2, h3⟩ := a.st.ob b _ (hm b xs w)
      refine ⟨us, ?_, h3.mono sub⟩
      unfold plusA
      rw [h1]
      show (if b ∈ vAd vs ∨ (m b).isSome = true then H1 b else none) = _
      rw [if_pos (.inr (by rw [w]; rfl))]
      exact h2
    refine ⟨plusA F1 H1 m (vAd vs), fzs m xs, _, _, inH, lend_ok sm at_ (fun a h => vAd_mem h) (treeAll_ok a.st r1 e1), q, fun y hy => ?_, fun err he cls dd F' H' g er nd => ?_⟩
    · obtain ⟨hf, qy⟩ := hy
      have R := res_of (Q := Q) (z := y) a.st (.inr (.inr fun _ _ _ _ => trivial)) qy fun v' y' F' H' S' b r' n' q' => k v' y' F' H' S' (a.trans b) r' (n'.back a) q'
      cases y with
      | val x => exact fun v F' H' g r => R v _ H' (plus_grw sm g) (flat_any hf r)
      | own o =>
        intro p F' H' g hp hF ho
        refine R p _ H' (plus_grw sm g) hp (by rw [plus_new hp]; exact hF) ?_
        cases o with
        | lst xs => obtain ⟨us, h1, h2⟩ := ho; exact ⟨us, h1, flats_any hf h2⟩
        | dic xs => obtain ⟨us, h1, h2⟩ := ho; exact ⟨us, h1, flatk_any hf h2⟩
        | ins c fs => cases hf
        | dit xs => cases hf
      | rf b => trivial
      | slt i => trivial
    · obtain ⟨hf, qe⟩ := he
      refine ea cls dd err _ H' σ S1 (Stp.grw a.st (plus_grw sm g)) ⟨er.1, er.2.1, fun x hx => ?_⟩ (fun d hd => .inl (nd d hd)) qe
      obtain ⟨d, v, h1, h2, h3⟩ := er.2.2 x hx
      refine ⟨d, v, h1, by rw [plus_new (nd d h1)]; exact h2, flat_any ?_ h3⟩
      have hf' : (match err.fd with
        | none => true
        | some x => flat x) = true := hf
      rw [hx] at hf'
      exact hf') e
/-- a value that is an object of the map, as such -/
def asRf : TV → TV
  | .val (.ref a) => .rf a
  | y => y
def dRetO (d : DE) : DS := fun S D => d S (fun y S1 => D.rt (asRf y) S1) D.ex
theorem LS.retO {t : TE} {d : DE} (h : LE K W t d) : LS K W (tRet t) (dRetO d) := fun F H σ S D Dd s hd k =>
  h F H σ S _ _ _ s hd (fun v y F1 H1 S1 a r n q => by
    have z : TVr K F1 H1 σ S1 v (asRf y) ∧ Nw H σ S v (asRf y) := by
      unfold asRf
      split
      · rename_i b
        cases (show Rp K F1 v (.ref b) from r)
        exact ⟨rfl, Nw.rf⟩
      · exact ⟨r, n⟩
    exact k.rt v _ F1 H1 σ S1 a z.1 z.2 q) k.ex
end
section
variable {dX : DX} {d : DE} {S : DSt} {D : DEnds} {Q : DV → DSt → Prop} {E : DErr → DSt → Prop} {p : Addr}
def lendK (xs : List DV) (S : DSt) (k : List DV → Prop) : Prop := ∃ m : Addr → Option (List DV), (∀ a l, m a = some l → S.o a = some (.lst l)) ∧ k (fzs m xs)
def shiftK (x : DV) (S : DSt) (Q : DV → DSt → Prop) : Prop := ∃ m : Addr → Option (List DV), (∀ a xs, m a = some xs → S.o a = some (.lst xs)) ∧ Q (fz m x) (S.less m)
instance p_callD {ps : PSp} {dB : DB} {Q : TV → DSt → Prop} : Step (dCallD ps dB S Q E) (dB S (fun ys S1 => onS (treeAll S1 ys) fun xs => lendK xs S1 fun xs' => ps xs' (fun z => flatT z = true ∧ Q z S1) (fun e => flatE e = true ∧ E e S1)) E) := ⟨fun h => h⟩
instance p_shift : Step (dShift dX S Q E) (dX S (fun x S1 => shiftK x S1 Q) E) := ⟨fun h => h⟩
instance p_retKr {g : List (Option SV)} {o : OM} {Q : TV → Prop} : Step (retK ⟨g, o⟩ (asRf (.val (.ref p))) Q) (onS (o p) fun so => Q (.own so)) := ⟨fun h => h⟩
instance p_retKf {g : List (Option SV)} {o : OM} {Q : TV → Prop} : Step (retK ⟨g, o⟩ (.rf p) Q) (onS (o p) fun so => Q (.own so)) := ⟨fun h => h⟩
instance p_retO : Step (dRetO d S D) (d S (fun y S1 => D.rt (asRf y) S1) D.ex) := ⟨fun h => h⟩
end
/-! ### rows in the map -/
/-- the rows of a web, each an object -/
structure Rws (O : OM) (rs : List Addr) (w : List (List Int)) : Prop where
  nd : rs.Nodup
  len : rs.length = w.length
  row : ∀ (i : Nat) a r, rs[i]? = some a → w[i]? = some r → O a = some (.lst (zInts r))
def refs (rs : List Addr) : List DV := rs.map .ref
/-- a map of the rows -/
def rowM : List Addr → List (List Int) → Addr → Option (List DV)
  | a :: rs, r :: w, b => if b = a then some (zInts r) else rowM rs w b
  | _, _, _ => none
theorem rowM_in : ∀ {rs : List Addr} {w : List (List Int)} {b : Addr} {xs : List DV}, rowM rs w b = some xs → ∃ (i : Nat) (r : List Int), rs[i]? = some b ∧ w[i]? = some r ∧ xs = zInts r
  | [], _, _, _, h => by simp [rowM] at h
  | _ :: _, [], _, _, h => by simp [rowM] at h
  | a :: rs, r :: w, b, xs, h => by
    unfold rowM at h
    split at h
    · rename_i e
      cases h
      exact ⟨0, r, by simp [e], rfl, rfl⟩
    · obtain ⟨i, r', h1, h2, h3⟩ := rowM_in h
      exact ⟨i + 1, r', by simpa using h1, by simpa using h2, h3⟩
theorem rowM_out : ∀ {rs : List Addr} {w : List (List Int)} {b : Addr}, b ∉ rs → rowM rs w b = none
  | [], _, _, _ => by simp [rowM]
  | _ :: _, [], _, _ => by simp [rowM]
  | a :: rs, r :: w, b, h => by
    unfold rowM
    rw [if_neg fun e => h (by rw [e]; exact List.mem_cons_self)]
    exact rowM_out fun z => h (List.mem_cons_of_mem _ z)
theorem fzs_rows : ∀ {rs : List Addr} {w : List (List Int)} {m : Addr → Option (List DV)}, rs.length = w.length → (∀ (i : Nat) a r, rs[i]? = some a → w[i]? = some r → m a = some (zInts r)) → fzs m (refs rs) = zWeb w
  | [], [], _, _, _ => rfl
  | [], _ :: _, _, h, _ => by cases h
  | _ :: _, [], _, h, _ => by cases h
  | a :: rs, r :: w, m, h, hm => by
    show fz m (.ref a) :: fzs m (refs rs) = zRow r :: zWeb w
    rw [fzs_rows (by simpa using h) fun i b s h1 h2 => hm (i + 1) b s (by simpa using h1) (by simpa using h2)]
    have : fz m (.ref a) = zRow r := by
      unfold fz
      rw [hm 0 a r rfl rfl]
      rfl
    rw [this]
theorem rowM_at : ∀ {rs : List Addr} {w : List (List Int)} {i : Nat} {a : Addr} {r : List Int}, rs.Nodup → rs[i]? = some a → w[i]? = some r → rowM rs w a = some (zInts r)
  | [], _, _, _, _, _, h, _ => by simp at h
  | _ :: _, [], _, _, _, _, _, h => by simp at h
  | b :: rs, s :: w, 0, a, r, nd, h1, h2 => by
    simp at h1 h2
    subst h1 h2
    unfold rowM
    rw [if_pos rfl]
  | b :: rs, s :: w, i + 1, a, r, nd, h1, h2 => by
    have h1' : rs[i]? = some a := by simpa using h1
    unfold rowM
    rw [if_neg fun e => (List.nodup_cons.mp nd).1 (by rw [← e]; exact List.mem_of_getElem? h1')]
    exact rowM_at (List.nodup_cons.mp nd).2 h1' (by simpa using h2)
/-- a web whose rows are objects becomes a tree -/
theorem shift_rows {rs : List Addr} {w : List (List Int)} {g : List (Option SV)} {O : OM} {Q : DV → DSt → Prop} (h : Rws O rs w) (q : ∀ O', (∀ b, b ∉ rs → O' b = O b) → Q (.lst (zWeb w)) ⟨g, O'⟩) :
    shiftK (.lst (refs rs)) ⟨g, O⟩ Q := by
  refine ⟨rowM rs w, fun a xs e => ?_, ?_⟩
  · obtain ⟨i, r, h1, h2, rfl⟩ := rowM_in e
    exact h.row i a r h1 h2
  · have e : fz (rowM rs w) (.lst (refs rs)) = .lst (zWeb w) := by
      unfold fz
      rw [fzs_rows h.len fun i a r h1 h2 => rowM_at h.nd h1 h2]
    rw [e]
    refine q _ fun b hb => ?_
    rw [rowM_out hb]
    rfl
/-- plain data is no object of the map -/
theorem fzs_z (m : Addr → Option (List DV)) : ∀ l : List Int, fzs m (zInts l) = zInts l
  | [] => rfl
  | i :: l => by
    show fz m (.int i) :: fzs m (zInts l) = _
    rw [fzs_z m l]
    rfl
theorem fzs_w (m : Addr → Option (List DV)) : ∀ w : List (List Int), fzs m (zWeb w) = zWeb w
  | [] => rfl
  | r :: w => by
    show fz m (zRow r) :: fzs m (zWeb w) = _
    rw [fzs_w m w]
    show DV.lst (fzs m (zInts r)) :: _ = _
    rw [fzs_z]
    rfl
/-- rows that are objects, and a web, are lent -/
theorem lend_rows {rs : List Addr} {w u : List (List Int)} {S : DSt} {k : List DV → Prop} (h : Rws S.o rs w) (q : k [.lst (zWeb w), .lst (zWeb u)]) : lendK [.lst (refs rs), .lst (zWeb u)] S k := by
  refine ⟨rowM rs w, fun a xs e => ?_, ?_⟩
  · obtain ⟨i, r, h1, h2, rfl⟩ := rowM_in e
    exact h.row i a r h1 h2
  · have e : fzs (rowM rs w) [.lst (refs rs), .lst (zWeb u)] = [.lst (zWeb w), .lst (zWeb u)] := by
      show [DV.lst (fzs _ (refs rs)), DV.lst (fzs _ (zWeb u))] = _
      rw [fzs_rows h.len fun i a r h1 h2 => rowM_at h.nd h1 h2, fzs_w]
    rw [e]; exact q
end L3

/-! L3q: raise, try. -/
namespace L3
open PySem PySem.Spec PyProof.Rows L2
/-- an exception class of the program's own, without its own way of making -/
structure XOk (K : PySem.W.Frag) (mg : Str → Option Value) (x : Str) : Prop where
  g : mg x = some (.ref (He.ga K x))
  q : PySem.W.excIn K (He.ga K x) He.veBase "ValueError.__new__" = true
  k : PySem.W.keepIn K (.ref (He.ga K x)) = true
  s : PySem.W.subIn K (.ref (He.ga K x)) (.type "BaseException") = some true
  t : PySem.W.typeIn K (.ref (He.ga K x)) = some (.type "type")
theorem XOk.of {K : PySem.W.Frag} {h : Heap} {mg : Str → Option Value} {x : Str} (X : K.In h) (G : h.Ns mainGlobals mg) (c1 : (He.Fa.glo x).ok K = true) (c2 : (He.Fa.exc x).ok K = true) : XOk K mg x :=
  ⟨He.glo_ok X G c1, (He.exc_ok c2).1, (He.exc_ok c2).2.1, (He.exc_ok c2).2.2.1, (He.exc_ok c2).2.2.2⟩
section
variable {X : Cx} {W : WX} {x m : Str} {j : Nat} {p p2 pos pos' : Pos}
theorem ps_raiseX (h : XOk X.K X.mg x) (tk : Takes X W) (hc : X.calm = true := by rfl) (hg : Gl X x := by rfl) (hdb : (x == ("__debug__" : Str)) = false := by decide) :
    PS X (.Raise (some (.Call (.Name x p) [.Constant (.str m) j p2] [] pos)) none pos') (fun _ σ H => W (.ref (He.ga X.K x)) none σ H) :=
  ps_raise hc tk (pmk_own PySem.F.excBase_ValueError h.q h.g h.k (raises_own h.s h.t) hg hdb)
end
section
variable {K : PySem.W.Frag} {F F' H H' F0 H0 : Hp} {σ σ' σ1 σ2 σ0 : L2.St} {S S' S1 S2 S0 : DSt} {F1 F2 H1 H2 : Hp} {p : Addr} {v : V} {W : WX}
def dRaise (c : Str) : DS := fun S D => D.ex ⟨c, none⟩ S
theorem LS.raise {c : Str} : LS K W (fun _ σ H => W (.ref (He.ga K c)) none σ H) (dRaise c) := fun F H σ S D Dd s hd k =>
  k.ex (.ref (He.ga K c)) none ⟨c, none⟩ F H σ S (Stp.refl s) ⟨rfl, fun _ => rfl, fun x h => by cases h⟩ (fun d h => by cases h) hd
/-! ### try: body; except X: suite -/
/-- which of the program's classes are caught by the clause -/
def Exm (K : PySem.W.Frag) (c : Value) (t : Str → Option Bool) : Prop := ∀ x b, t x = some b → PySem.W.exmOne K (.ref (He.ga K x)) c = some b
def exK (t : Str → Option Bool) (e : DErr) (k k' : Prop) : Prop := match t e.c with
  | some true => k
  | some false => k'
  | none => False
def dTry (t : Str → Option Bool) (b h : DS) : DS := fun S D => b S ⟨D.nx, D.rt, D.bk, D.ct, fun e S1 => exK t e (h S1 D) (D.ex e S1)⟩
theorem LS.tryOnly {tb : WX → TS} {ts : Addr → Value → Option Addr → TS} {c : Value} {t : Str → Option Bool} {db dh : DS} (hm : Exm K c t) (hb : ∀ W', LS K W' (tb W') db) (hs : ∀ a cls d, LS K W (ts a cls d) dh) :
    LS K W (fun D σ H => tb (wOnly K c ts W D) D σ H) (dTry t db dh) := fun F H σ S D Dd s hd k =>
  hb _ F H σ S D _ s hd ⟨k.nx, k.rt, k.bk, k.ct, fun cls dd err F' H' σ' S' a er nd q => by
    obtain ⟨rfl, er2⟩ := er
    have q' : (match t err.c with
      | some true => dh S' Dd
      | some false => Dd.ex err S'
      | none => False) := q
    cases e : t err.c with
    | none => rw [e] at q'; exact q'.elim
    | some b =>
      rw [e] at q'
      refine ⟨b, hm _ _ e, fun hb a' _ => ?_, fun hb => ?_⟩
      · subst hb
        exact hs a' _ dd F' H' σ' S' D Dd a.st q' (k.step a)
      · subst hb
        exact k.ex _ dd err F' H' σ' S' a ⟨rfl, er2⟩ nd q'⟩
end
section
variable {c : Str} {t : Str → Option Bool} {b h : DS} {S : DSt} {D : DEnds} {e : DErr} {k k' : Prop}
instance p_raise : Step (dRaise c S D) (D.ex ⟨c, none⟩ S) := ⟨fun h => h⟩
instance p_try : Step (dTry t b h S D) (b S ⟨D.nx, D.rt, D.bk, D.ct, fun e S1 => exK t e (h S1 D) (D.ex e S1)⟩) := ⟨fun h => h⟩
theorem exK_t (he : t e.c = some true) (h : k) : exK t e k k' := by unfold exK; rw [he]; exact h
theorem exK_f (he : t e.c = some false) (h : k') : exK t e k k' := by unfold exK; rw [he]; exact h
end
/-- which classes a clause catches -/
def cNil : Str → Option Bool := fun _ => none
def cCons (c : Str) (b : Bool) (t : Str → Option Bool) : Str → Option Bool := fun x => if x = c then some b else t x
theorem Exm.nil {K : PySem.W.Frag} {c : Value} : Exm K c cNil := fun x b h => by cases h
theorem Exm.cons {K : PySem.W.Frag} {c : Value} {y : Str} {b : Bool} {t : Str → Option Bool} (h : PySem.W.exmOne K (.ref (He.ga K y)) c = some b) (r : Exm K c t) : Exm K c (cCons y b t) := fun x d e => by
  have e' : (if x = y then some b else t x) = some d := e
  by_cases q : x = y
  · rw [if_pos q] at e'
    cases e'
    rw [q]; exact h
  · rw [if_neg q] at e'
    exact r x d e'
section
variable {c d : Str} {b : Bool} {t : Str → Option Bool} {fd : Option DV} {k k' : Prop}
instance p_exK_yes : Step (exK (cCons c true t) ⟨c, fd⟩ k k') k := ⟨fun h => exK_t (e := ⟨c, fd⟩) (show (if c = c then some true else t c) = some true from if_pos rfl) h⟩
instance p_exK_no : Step (exK (cCons c false t) ⟨c, fd⟩ k k') k' := ⟨fun h => exK_f (e := ⟨c, fd⟩) (show (if c = c then some false else t c) = some false from if_pos rfl) h⟩
theorem exK_skip (h : d ≠ c) (g : exK t ⟨d, fd⟩ k k') : exK (cCons c b t) ⟨d, fd⟩ k k' := by
  have e : cCons c b t d = t d := if_neg h
  unfold exK at g ⊢
  show (match cCons c b t d with
    | some true => k
    | some false => k'
    | none => False)
  rw [e]
  exact g
end
/-! ### kinds of values -/
theorem kb_nl : kitB "NoneType" "list" = some false := by decide +kernel
theorem kb_bl : kitB "bool" "list" = some false := by decide +kernel
theorem kb_sl : kitB "str" "list" = some false := by decide +kernel
theorem kb_tl : kitB "tuple" "list" = some false := by decide +kernel
theorem kb_dl : kitB "dict" "list" = some false := by decide +kernel
theorem kb_di : kitB "dict" "int" = some false := by decide +kernel
section
variable {kt : TV → Prop} {i : Int} {b : Bool} {s : Str} {xs : List DV} {kvs : List (Key × DV)}
instance p_isil_i : Step (onS (isiF [.int i, .ty "list"]) kt) (kt (.val (.bl false))) := ⟨fun h => by
  show onS ((kitB "int" "list").map fun b => TV.val (.bl b)) kt
  rw [kb_il]; exact h⟩
instance p_isil_n : Step (onS (isiF [.non, .ty "list"]) kt) (kt (.val (.bl false))) := ⟨fun h => by
  show onS ((kitB "NoneType" "list").map fun b => TV.val (.bl b)) kt
  rw [kb_nl]; exact h⟩
instance p_isil_b : Step (onS (isiF [.bl b, .ty "list"]) kt) (kt (.val (.bl false))) := ⟨fun h => by
  show onS ((kitB "bool" "list").map fun b => TV.val (.bl b)) kt
  rw [kb_bl]; exact h⟩
instance p_isil_s : Step (onS (isiF [.str s, .ty "list"]) kt) (kt (.val (.bl false))) := ⟨fun h => by
  show onS ((kitB "str" "list").map fun b => TV.val (.bl b)) kt
  rw [kb_sl]; exact h⟩
instance p_isil_t : Step (onS (isiF [.tup xs, .ty "list"]) kt) (kt (.val (.bl false))) := ⟨fun h => by
  show onS ((kitB "tuple" "list").map fun b => TV.val (.bl b)) kt
  rw [kb_tl]; exact h⟩
instance p_isil_d : Step (onS (isiF [.dic kvs, .ty "list"]) kt) (kt (.val (.bl false))) := ⟨fun h => by
  show onS ((kitB "dict" "list").map fun b => TV.val (.bl b)) kt
  rw [kb_dl]; exact h⟩
instance p_isi_d : Step (onS (isiF [.dic kvs, .ty "int"]) kt) (kt (.val (.bl false))) := ⟨fun h => by
  show onS ((kitB "dict" "int").map fun b => TV.val (.bl b)) kt
  rw [kb_di]; exact h⟩
end
end L3

/-! L3r: walks over a list of the map, which stays as it is meanwhile. -/
namespace L3
open PySem PySem.Spec PyProof.Rows L2
section
variable {K : PySem.W.Frag} {F F' H H' F0 H0 : Hp} {σ σ' σ1 σ2 σ0 : L2.St} {S S' S1 S2 S0 : DSt} {F1 F2 H1 H2 : Hp} {p : Addr} {v : V} {W : WX}
def WkG (K : PySem.W.Frag) (F0 : Hp) (G : DSt → Prop) (J : It) (xs : List DV) : Prop := ∀ F H σ S, Stt K F H σ S → Same F0 F → G S → ∀ i : Nat, (i = xs.length → J.stop i H) ∧
  ∀ x, xs[i]? = some x → J.go i H ∧ ∀ v H3, J.yld i H v H3 → ∃ F3, Stp K F H σ S F3 H3 σ S ∧ Rp K F3 v x
abbrev DIG := DSt → (List DV → (DSt → Prop) → DSt → Prop) → (DErr → DSt → Prop) → Prop
def LIG (K : PySem.W.Frag) (W : WX) (wi : TI) (d : DIG) : Prop := ∀ F H σ S (R : It → Hp → Prop) Qd Ed, Stt K F H σ S → d S Qd Ed →
  (∀ J xs G F' H' S', Stp K F H σ S F' H' σ S' → WkG K F' G J xs → Qd xs G S' → R J H') → ExL K W F H σ S Ed → wi σ H R
def refK (x : DV) (S : DSt) (Q : Addr → List DV → Prop) : Prop := match x with
  | .ref a => onS (S.o a) fun so => lstK so fun xs => Q a xs
  | _ => False
def iM (d : DX) : DIG := fun S Q Ed => d S (fun x S1 => refK x S1 fun a xs => Q xs (fun S => S.o a = some (.lst xs)) S1) Ed
theorem LIG.map {t : TE} {d : DX} (h : LX K W t d) : LIG K W (iList K t) (iM d) := fun F H σ S R Qd Ed s hd k e =>
  h F H σ S _ _ _ s hd (fun v x F1 H1 S1 a r q => by
    cases x with
    | ref b =>
      cases r
      obtain ⟨so, e1, q⟩ := onS_ok (show onS (S1.o b) _ from q)
      cases so with
      | lst xs =>
        obtain ⟨_, us, h1, _⟩ := a.st.ob b _ e1
        refine ⟨b, rfl, ⟨us, .inl (.inl h1)⟩, k _ xs _ F1 H1 S1 a (fun F2 H2 σ2 S2 s2 f2 g2 i => ?_) q⟩
        obtain ⟨_, vs, h2, h3⟩ := s2.ob b _ g2
        have hb : SqL K H2 b vs := .inl (.inl h2)
        refine ⟨fun hi => ⟨vs, hb, by rw [h3.len, hi]; exact Nat.le_refl _⟩, fun x hx => ?_⟩
        obtain ⟨u, hu, ru⟩ := h3.get hx
        refine ⟨⟨vs, u, hb, hu⟩, fun w H3 hy => ?_⟩
        obtain ⟨e3, hy⟩ := hy
        subst e3
        have := hy vs hb
        rw [hu] at this; cases this
        exact ⟨F2, Stp.refl s2, ru⟩
      | dic xs => exact (show False from q).elim
      | dit xs => exact (show False from q).elim
      | ins c fs => exact (show False from q).elim
    | _ => exact (show False from q).elim) e
def forG (G : DSt → Prop) (g : DG) (b : DS) (ks : List Nat) : List DV → DSt → DEnds → Prop
  | [], S, D => G S ∧ D.nx S
  | x :: xs, S, D => G S ∧ g x S fun S1 => b S1 { nx := fun S2 => forG G g b ks xs (S2.wipe ks) D, rt := D.rt, bk := D.nx, ct := fun S2 => forG G g b ks xs (S2.wipe ks) D, ex := D.ex }
def dForG (di : DIG) (g : DG) (b : DS) (ks : List Nat) : DS := fun S D => di S (fun xs G S1 => forG G g b ks xs S1 D) D.ex
theorem LS.forG_ {wi : TI} {di : DIG} {g : TG} {dg : DG} {tb : TS} {db : DS} {ks : List Nat} (hi : LIG K W wi di) (hg : LG K g dg) (hb : LS K W tb db) : LS K W (tFor wi g tb) (dForG di dg db ks) := fun F H σ S D Dd s hd k => by
  refine hi F H σ S _ _ _ s hd (fun J xs G F1 H1 S1 a w q => ?_) k.ex
  refine ⟨fun i m σ2 H2 => i ≤ xs.length ∧ m = xs.length - i ∧ ∃ F2 S2, Stp K F1 H1 σ S1 F2 H2 σ2 S2 ∧ forG G dg db ks (xs.drop i) S2 Dd, ⟨xs.length, Nat.zero_le _, by simp, F1, S1, Stp.refl a.st, by simpa using q⟩, ?_⟩
  rintro i m σ2 H2 ⟨hi, rfl, F2, S2, b, q⟩
  by_cases hlt : i < xs.length
  · rw [List.drop_eq_getElem_cons hlt] at q
    obtain ⟨hG, q⟩ := q
    obtain ⟨w1, w2⟩ := w F2 H2 σ2 S2 b.st b.fx hG i
    obtain ⟨w3, w4⟩ := w2 xs[i] (List.getElem?_eq_getElem hlt)
    refine .inr ⟨w3, fun σ3 H3 => ∃ F3 S3, Stp K F1 H1 σ S1 F3 H3 σ3 S3 ∧ forG G dg db ks (xs.drop (i + 1)) S3 Dd, fun σ3 H3 ⟨F3, S3, c, q3⟩ => ⟨_, by omega, by omega, rfl, F3, S3, c, q3⟩, fun v H3 hy => ?_⟩
    obtain ⟨F3, c, r⟩ := w4 v H3 hy
    have bc := b.trans c
    refine hg F3 H3 σ2 S2 v _ _ _ c.st r q fun F4 H4 σ4 S4 e q4 => ?_
    have be := bc.trans e
    have ka := k.step (a.trans be)
    refine hb F4 H4 σ4 S4 _ _ e.st q4 ⟨fun F5 H5 σ5 S5 f q5 => ⟨F5, _, (be.trans f).trans (Stp.wipe ks f.st), q5⟩, ka.rt, fun F5 H5 σ5 S5 f q5 => ka.nx F5 H5 σ5 S5 f q5, fun F5 H5 σ5 S5 f q5 => ⟨F5, _, (be.trans f).trans (Stp.wipe ks f.st), q5⟩, ka.ex⟩
  · have e : i = xs.length := by omega
    rw [List.drop_eq_nil_of_le (by omega)] at q
    obtain ⟨hG, q⟩ := q
    obtain ⟨w1, w2⟩ := w F2 H2 σ2 S2 b.st b.fx hG i
    exact .inl ⟨w1 e, k.nx F2 H2 σ2 S2 (a.trans b) q⟩
def lcG (G : DSt → Prop) (g : DG) (c : DT) (d : DX) (ks : List Nat) : List DV → List DV → DSt → (List DV → DSt → Prop) → Prop
  | [], acc, S, Q => G S ∧ Q acc S
  | x :: xs, acc, S, Q => G S ∧ g x S fun S1 => c S1 (fun b S2 => if b = true then d S2 (fun z S3 => acc.length < sizeLine ∧ lcG G g c d ks xs (acc ++ [z]) (S3.wipe ks) Q) (fun _ _ => False) else lcG G g c d ks xs acc (S2.wipe ks) Q) (fun _ _ => False)
def dLcG (di : DIG) (g : DG) (c : DT) (d : DX) (ks : List Nat) : DE := fun S Q Ed => di S (fun xs G S1 => lcG G g c d ks xs [] (S1.wipe ks) fun acc S2 => Q (.own (.lst acc)) S2) Ed
theorem LE.lcG {wi : TI} {di : DIG} {g : TG} {dg : DG} {tt : TT} {dt : DT} {te : TE} {dx : DX} {vs : List Nat} (hi : LIG K W wi di) (hg : LG K g dg) (gw : GW g vs) (ht : LT K W0 tt dt) (he : LX K W0 te dx) :
    LE K W (tLc wi g tt te vs) (dLcG di dg dt dx vs) := fun F H σ S Q Qd Ed s hd k e => by
  refine hi F H σ S _ _ _ s hd (fun J xs G F1 H1 S1 a w q => ?_) e
  intro D hD
  have s1 : Stp K F1 H1 σ S1 F1 H1 σ (S1.wipe vs) := Stp.wipe vs a.st
  have ag : ∀ {S : DSt}, Agr (L2.wipe σ vs) σ (S.wipe vs) := agr_wipe
  have b0 : Stp K F1 H1 (L2.wipe σ vs) (S1.wipe vs) F1 H1 (L2.wipe σ vs) (S1.wipe vs) := Stp.refl (ag.sym.stt s1.st)
  have hF1 : F1 D = none := a.st.ex.free hD
  have nD : ¬ ow (L2.wipe σ vs) (S1.wipe vs) D := fun z => by
    obtain ⟨_, o, h⟩ := (ag.sym.stt s1.st).ow_some z
    exact h.ne hD
  refine ⟨fun i m H2 => i ≤ xs.length ∧ m = xs.length - i ∧ ∃ F2 S2 acc, Stp K F1 H1 (L2.wipe σ vs) (S1.wipe vs) F2 H2 (L2.wipe σ vs) (DSt.wipe S2 vs) ∧ TVr K F2 H2 (L2.wipe σ vs) (DSt.wipe S2 vs) (.ref D) (.own (.lst acc)) ∧
    L3.lcG G dg dt dx vs (xs.drop i) acc (DSt.wipe S2 vs) fun acc S2 => Qd (.own (.lst acc)) S2, ⟨xs.length, Nat.zero_le _, by simp, F1, S1, [], b0.hid hD hF1 nD, ⟨D, rfl, hF1, ⟨[], upd_same, .nil⟩, nD⟩, by simpa using q⟩, ?_⟩
  rintro i m H2 ⟨hil, rfl, F2, S2, acc, b, tv, q⟩
  obtain ⟨D', eD, hFD, ⟨us, hDu, ru⟩, hnD⟩ := id tv
  cases eD
  by_cases hlt : i < xs.length
  · rw [List.drop_eq_getElem_cons hlt] at q
    obtain ⟨hG, q⟩ := q
    obtain ⟨w1, w2⟩ := w F2 H2 _ _ b.st b.fx hG i
    obtain ⟨w3, w4⟩ := w2 xs[i] (List.getElem?_eq_getElem hlt)
    refine .inr ⟨w3, fun H3 => ∃ F3 S3 acc, Stp K F1 H1 (L2.wipe σ vs) (S1.wipe vs) F3 H3 (L2.wipe σ vs) (DSt.wipe S3 vs) ∧ TVr K F3 H3 (L2.wipe σ vs) (DSt.wipe S3 vs) (.ref D) (.own (.lst acc)) ∧
      L3.lcG G dg dt dx vs (xs.drop (i + 1)) acc (DSt.wipe S3 vs) fun acc S2 => Qd (.own (.lst acc)) S2, fun H3 ⟨F3, S3, acc3, c, t3, q3⟩ => ⟨_, by omega, by omega, rfl, F3, S3, acc3, c, t3, q3⟩, fun v H3 hy => ?_⟩
    obtain ⟨F3, c, r⟩ := w4 v H3 hy
    refine gw v σ H3 _ (hg F3 H3 _ _ v _ _ _ c.st r q fun F4 H4 σ4 S4 d q4 hw => ?_)
    have bcd := (b.trans c).trans d
    have cd := c.trans d
    have tv4 : TVr K F4 H4 σ4 S4 (.ref D) (.own (.lst acc)) := by
      refine ⟨D, rfl, ?_, ⟨us, cd.kp D _ hDu hnD, ru.mono cd.fx⟩, fun z => ?_⟩
      · cases e1 : F4 D with
        | none => rfl
        | some u => exact absurd hFD (cd.nf D (by rw [hDu]; exact fun y => by cases y) hnD (by rw [e1]; exact fun y => by cases y))
      · rcases cd.no D z with y | y
        · exact hnD y
        · rw [hDu] at y; cases y
    have back : ∀ {F6 H6 : Hp} {S6 : DSt}, Stp K F1 H1 (L2.wipe σ vs) (S1.wipe vs) F6 H6 σ4 S6 → Stp K F1 H1 (L2.wipe σ vs) (S1.wipe vs) F6 H6 (L2.wipe σ vs) (S6.wipe vs) := fun {F6 H6 S6} g6 => by
      have g7 := g6.trans (Stp.wipe vs g6.st)
      have g8 := g7.agr ⟨rfl, fun _ _ _ => rfl⟩ (agr_wipe (σ := σ4) (S := S6) (vs := vs)).sym
      rw [hw] at g8
      exact g8
    have tback : ∀ {F6 H6 : Hp} {S6 : DSt} {xs6 : List DV}, TVr K F6 H6 σ4 S6 (.ref D) (.own (.lst xs6)) → TVr K F6 H6 (L2.wipe σ vs) (S6.wipe vs) (.ref D) (.own (.lst xs6)) := fun {F6 H6 S6 xs6} t6 => by
      obtain ⟨D', eD, h1, h2, h3⟩ := t6
      cases eD
      refine ⟨D, rfl, h1, h2, fun z => h3 ?_⟩
      rw [← hw] at z
      have z2 := (agr_wipe (σ := σ4) (S := S6) (vs := vs)).ow z
      rcases z2 with ⟨j, o, e1, e2⟩ | z2
      · exact .inl ⟨j, o, wipe_get e1, e2⟩
      · exact .inr z2
    refine ht F4 H4 σ4 S4 _ _ _ d.st q4 (fun t F5 H5 S5 f q5 => ?_) ExL.no
    have tv5 := tv4.step f
    have bf := bcd.trans f
    cases t with
    | false =>
      exact ⟨F5, S5, acc, back bf, tback tv5, q5⟩
    | true =>
      refine he F5 H5 σ4 S5 _ _ _ f.st q5 (fun y z F6 H6 S6 g6 rz q6 => ?_) ExL.no
      obtain ⟨q6, q7⟩ := q6
      have tv6 := tv5.step g6
      obtain ⟨D', eD, hF6, ⟨us6, hD6, ru6⟩, hn6⟩ := tv6
      cases eD
      have bg := (bf.trans g6).hid (p := D) (u := .lst (us6 ++ [y])) hD hF6 hn6
      exact ⟨us6, hD6, by rw [ru6.len]; exact q6, F6, S6, acc ++ [z], back bg, tback ⟨D, rfl, hF6, ⟨_, upd_same, ru6.append (.cons rz .nil)⟩, hn6⟩, q7⟩
  · have hi' : i = xs.length := by omega
    rw [List.drop_eq_nil_of_le (by omega)] at q
    obtain ⟨hG, q⟩ := q
    obtain ⟨w1, w2⟩ := w F2 H2 _ _ b.st b.fx hG i
    refine .inl ⟨w1 hi', ?_⟩
    have g1 := b.agr (agr_wipe (σ := σ) (S := S1) (vs := vs)) (agr_wipe (σ := σ) (S := S2) (vs := vs))
    have g2 := (a.trans s1).trans g1
    refine k (.ref D) (.own (.lst acc)) F2 H2 _ g2 ⟨D, rfl, hFD, ⟨us, hDu, ru⟩, fun z => hnD ((agr_wipe (σ := σ) (S := S2) (vs := vs)).sym.ow z)⟩ (fun o p e1 e2 => ?_) q
    cases e2
    exact a.newb (.inl hD)
end
section
variable {dX : DX} {dg : DG} {d : DS} {dt : DT} {di : DIG} {ks : List Nat} {S : DSt} {D : DEnds} {g : List (Option SV)} {o : OM} {p : Addr} {G : DSt → Prop} {Q : List DV → (DSt → Prop) → DSt → Prop} {Qt : TV → DSt → Prop} {E : DErr → DSt → Prop} {kr : Addr → List DV → Prop} {xs acc : List DV} {Ql : List DV → DSt → Prop}
instance p_iM : Step (iM dX S Q E) (dX S (fun x S1 => refK x S1 fun a xs => Q xs (fun S => S.o a = some (.lst xs)) S1) E) := ⟨fun h => h⟩
instance p_refK : Step (refK (.ref p) ⟨g, o⟩ kr) (onS (o p) fun so => lstK so fun xs => kr p xs) := ⟨fun h => h⟩
instance p_forG : Step (dForG di dg d ks S D) (di S (fun xs G S1 => forG G dg d ks xs S1 D) D.ex) := ⟨fun h => h⟩
instance p_lcG : Step (dLcG di dg dt dX ks S Qt E) (di S (fun xs G S1 => wipeS ks S1 fun S2 => lcG G dg dt dX ks xs [] S2 fun acc S2 => Qt (.own (.lst acc)) S2) E) := ⟨fun h => h⟩
/-- a comprehension that leaves all as it is -/
theorem lcG_pure {α : Type} {S0 : DSt} {inj : α → DV} {l : List α} {k : List DV → DSt → Prop} (p : α → Bool) (f : α → DV) (hG : G S0) (hl : l.length ≤ sizeLine)
    (hs : ∀ a ∈ l, ∀ (K : DV → DSt → Prop) (Kf : DSt → Prop), (p a = true → ∀ S3, S3.wipe ks = S0 → K (f a) S3) → (p a = false → ∀ S3, S3.wipe ks = S0 → Kf S3) →
      dg (inj a) S0 fun S2 => dt S2 (fun t S3 => if t = true then dX S3 K (fun _ _ => False) else Kf S3) (fun _ _ => False))
    (he : k ((l.filter p).map f) S0) : lcG G dg dt dX ks (l.map inj) [] S0 k := by
  have main : ∀ (post pre : List α), l = pre ++ post → lcG G dg dt dX ks (post.map inj) ((pre.filter p).map f) S0 k := by
    intro post
    induction post with
    | nil => intro pre e; rw [List.append_nil] at e; subst e; exact ⟨hG, he⟩
    | cons a post ih =>
      intro pre e
      refine ⟨hG, hs a (by rw [e]; simp) _ _ (fun hp S3 h3 => ⟨?_, ?_⟩) fun hp S3 h3 => ?_⟩
      · have h1 : ((pre.filter p).map f).length ≤ pre.length := by rw [List.length_map]; exact List.length_filter_le _ _
        have h2 : l.length = pre.length + (post.length + 1) := by rw [e, List.length_append, List.length_cons]
        omega
      · rw [h3]
        have := ih (pre ++ [a]) (by rw [e, List.append_assoc]; rfl)
        rw [List.filter_append, List.map_append] at this
        simpa [hp] using this
      · rw [h3]
        have := ih (pre ++ [a]) (by rw [e, List.append_assoc]; rfl)
        rw [List.filter_append, List.map_append] at this
        simpa [hp] using this
  exact main l [] rfl
/-- a walk over a typed list of the map -/
theorem forG_inv {α : Type} {inj : α → DV} {l : List α} (I : List α → DSt → Prop) (h0 : I [] S) (hG : ∀ pre S1, I pre S1 → G S1)
    (hs : ∀ (pre : List α) (a : α) (post : List α) (S1 : DSt) (k : DSt → Prop), l = pre ++ a :: post → I pre S1 → (∀ S2, I (pre ++ [a]) S2 → k S2) → dg (inj a) S1 fun S2 => d S2 ⟨fun S3 => wipeS ks S3 k, D.rt, D.nx, fun S3 => wipeS ks S3 k, D.ex⟩)
    (he : ∀ S1, I l S1 → D.nx S1) : forG G dg d ks (l.map inj) S D := by
  have main : ∀ (post pre : List α) (S1 : DSt), l = pre ++ post → I pre S1 → forG G dg d ks (post.map inj) S1 D := by
    intro post
    induction post with
    | nil => intro pre S1 e h; rw [List.append_nil] at e; subst e; exact ⟨hG _ _ h, he S1 h⟩
    | cons a post ih => intro pre S1 e h; exact ⟨hG _ _ h, hs pre a post S1 _ e h fun S2 h2 => ih (pre ++ [a]) S2 (by rw [e, List.append_assoc]; rfl) h2⟩
  exact main l [] S rfl h0
end
/-- a loop's name for an object of the map -/
def gR (i : Nat) : DG := fun x S k => match x with
  | .ref a => k (S.put i (.rf a))
  | _ => False
theorem LG.nameR {K : PySem.W.Frag} {i : Nat} : LG K (gName i) (gR i) := fun F H σ S v x Q Qd s r hd k => by
  cases x with
  | ref a =>
    cases r
    obtain ⟨S2, b, q⟩ := setR_ok (i := i) (y := .rf a) (k := Qd) (Stp.refl s) rfl Nw.rf hd
    exact k F H _ S2 b q
  | _ => exact (show False from hd).elim
instance p_gR {i : Nat} {p : Addr} {S : DSt} {k : DSt → Prop} : Step (gR i (.ref p) S k) (putS i (.rf p) S k) := ⟨fun h => h⟩
theorem Rws.new {O : OM} {rs : List Addr} {w : List (List Int)} (h : Rws O rs w) {a : Addr} (ha : O a = none) (r : List Int) : Rws (updO O a (.lst (zInts r))) (rs ++ [a]) (w ++ [r]) := by
  have no : ∀ (i : Nat) b, rs[i]? = some b → b ≠ a := fun i b hb z => by
    have hi : i < w.length := by rw [← h.len]; exact (List.getElem?_eq_some_iff.mp hb).1
    have := h.row i b _ hb (List.getElem?_eq_getElem hi)
    rw [z, ha] at this; cases this
  have nin : a ∉ rs := fun z => by
    obtain ⟨i, hi⟩ := List.mem_iff_getElem?.mp z
    exact no i a hi rfl
  refine ⟨?_, by rw [List.length_append, List.length_append, h.len]; rfl, fun j b s hb hs => ?_⟩
  · rw [List.nodup_append]
    exact ⟨h.nd, by simp, fun x hx y hy => by rw [List.mem_singleton.mp hy]; exact fun z => nin (by rw [← z]; exact hx)⟩
  · by_cases hj : j < rs.length
    · rw [List.getElem?_append_left hj] at hb
      rw [List.getElem?_append_left (by rw [← h.len]; exact hj)] at hs
      rw [updO_ne (no j b hb)]
      exact h.row j b s hb hs
    · rw [List.getElem?_append_right (by omega)] at hb
      rw [List.getElem?_append_right (by rw [← h.len]; omega)] at hs
      have z : j - rs.length = 0 := by
        cases q : j - rs.length with
        | zero => rfl
        | succ m => rw [q] at hb; simp at hb
      rw [z] at hb
      rw [← h.len, z] at hs
      simp at hb hs
      subst hb hs
      rw [updO_same]
theorem Rws.keep {O O' : OM} {rs : List Addr} {w : List (List Int)} (h : Rws O rs w) (e : ∀ a ∈ rs, O' a = O a) : Rws O' rs w :=
  ⟨h.nd, h.len, fun i a r h1 h2 => by rw [e a (List.mem_of_getElem? h1)]; exact h.row i a r h1 h2⟩
end L3

/-! L3s: dicts. -/
namespace L3
open PySem PySem.Spec PyProof.Rows L2
def valD : List (Key × DV) → Key → Option DV
  | [], _ => none
  | (j, x) :: r, k => if j = k then some x else valD r k
/-- in its place, or at the end -/
def putD (kvs : List (Key × DV)) (k : Key) (y : DV) : List (Key × DV) := if (valD kvs k).isSome = true then kvs.map (fun p => if p.1 = k then (p.1, y) else p) else kvs ++ [(k, y)]
def keyD : DV → Option Key
  | .int i => some (.inl i)
  | .str s => some (.inr s)
  | _ => none
theorem valD_cons (i j : Key) (x : DV) (r : List (Key × DV)) : valD ((i, x) :: r) j = if i = j then some x else valD r j := rfl
theorem valD_map (k j : Key) (y : DV) : ∀ kvs : List (Key × DV), valD (kvs.map fun p => if p.1 = k then (p.1, y) else p) j = (valD kvs j).map fun x => if k = j then y else x
  | [] => rfl
  | (i, x) :: r => by
    have ih := valD_map k j y r
    rw [List.map_cons, valD_cons i j x r]
    by_cases c : i = k
    · subst c
      rw [if_pos (show (i, x).1 = i from rfl), valD_cons]
      by_cases d : i = j
      · simp [d]
      · rw [if_neg d, if_neg d]; exact ih
    · rw [if_neg (show ¬ (i, x).1 = k from c), valD_cons]
      by_cases d : i = j
      · have : ¬ k = j := fun e => c (d.trans e.symm)
        simp [d, this]
      · rw [if_neg d, if_neg d]; exact ih
theorem valD_snoc (k j : Key) (y : DV) : ∀ kvs : List (Key × DV), valD (kvs ++ [(k, y)]) j = match valD kvs j with
    | some x => some x
    | none => if k = j then some y else none
  | [] => rfl
  | (i, x) :: r => by
    rw [List.cons_append, valD_cons, valD_cons]
    by_cases d : i = j
    · rw [if_pos d, if_pos d]
    · rw [if_neg d, if_neg d]; exact valD_snoc k j y r
theorem valD_put (k j : Key) (y : DV) (kvs : List (Key × DV)) : valD (putD kvs k y) j = if k = j then some y else valD kvs j := by
  unfold putD
  by_cases e : (valD kvs k).isSome = true
  · rw [if_pos e, valD_map]
    by_cases c : k = j
    · subst c
      rw [if_pos rfl]
      obtain ⟨x, q⟩ := Option.isSome_iff_exists.mp e
      rw [q]; simp
    · rw [if_neg c]; simp [c]
  · rw [if_neg e, valD_snoc]
    by_cases c : k = j
    · subst c
      have q : valD kvs k = none := by simpa using e
      rw [q]
    · rw [if_neg c]; cases valD kvs j <;> simp [c]
section
variable {K : PySem.W.Frag} {F F' H H' F0 H0 : Hp} {σ σ' σ1 σ2 σ0 : L2.St} {S S' S1 S2 S0 : DSt} {F1 F2 H1 H2 : Hp} {p : Addr} {v : V} {W : WX}
theorem Rks.val : ∀ {vs : List (Key × V)} {xs : List (Key × DV)} {k : Key} {x : DV}, Rks K F vs xs → valD xs k = some x → ∃ v, valV vs k = some v ∧ Rp K F v x
  | _, _, _, _, .nil, e => by cases e
  | _, _, k, x, .cons (k := j) h r, e => by
    unfold valD at e
    by_cases c : j = k
    · rw [if_pos c] at e
      cases e
      exact ⟨_, valV_pos (p := (j, _)) c, h⟩
    · rw [if_neg c] at e
      obtain ⟨v, h1, h2⟩ := Rks.val r e
      exact ⟨v, by rw [valV_neg (p := (j, _)) c]; exact h1, h2⟩
theorem Rks.valN : ∀ {vs : List (Key × V)} {xs : List (Key × DV)} {k : Key}, Rks K F vs xs → valD xs k = none → valV vs k = none
  | _, _, _, .nil, _ => valV_nil
  | _, _, k, .cons (k := j) h r, e => by
    unfold valD at e
    by_cases c : j = k
    · rw [if_pos c] at e; cases e
    · rw [if_neg c] at e
      rw [valV_neg (p := (j, _)) c]
      exact Rks.valN r e
theorem Rks.some : ∀ {vs : List (Key × V)} {xs : List (Key × DV)} {k : Key}, Rks K F vs xs → (valV vs k).isSome = (valD xs k).isSome := fun {vs xs k} r => by
  cases e : valD xs k with
  | none => rw [r.valN e]; rfl
  | some x => obtain ⟨v, h1, _⟩ := r.val e; rw [h1]; rfl
theorem Rks.len : ∀ {vs : List (Key × V)} {xs : List (Key × DV)}, Rks K F vs xs → vs.length = xs.length
  | _, _, .nil => rfl
  | _, _, .cons _ r => congrArg Nat.succ (Rks.len r)
theorem key_ok {x : DV} {k : Key} (r : RpB K F H v x) (e : keyD x = some k) : v = kV k := by
  cases x with
  | int i => cases e; exact r.int
  | str s => cases e; exact r.str
  | _ => cases e
/-! ### y in d, d[y] -/
def dicL : DV → Option (List (Key × DV))
  | .dic kvs => some kvs
  | _ => none
def inDF (neg : Bool) (y x : DV) : Option TV := (keyD y).bind fun k => (dicL x).map fun kvs => .val (.bl (if neg then !(valD kvs k).isSome else (valD kvs k).isSome))
def getDF (x y : DV) : Option TV := (keyD y).bind fun k => (dicL x).bind fun kvs => (valD kvs k).map .val
abbrev rDIn : R2 := fun y x H Q => ∃ a o, x = .ref a ∧ DGet H a y o ∧ Q (.bl o.isSome) H
abbrev rDNotIn : R2 := fun y x H Q => ∃ a o, x = .ref a ∧ DGet H a y o ∧ Q (.bl (!o.isSome)) H
abbrev rDGet : R2 := fun x y H Q => ∃ a v, x = .ref a ∧ DGet H a y (some v) ∧ Q v H
theorem dic_of {x : DV} {kvs : List (Key × DV)} (r : RpB K F H v x) (s : Same F H) (e : dicL x = some kvs) : ∃ a vs, v = .ref a ∧ H a = some (.dK vs) ∧ Rks K F vs kvs := by
  cases x with
  | dic xs => cases e; exact r.dict s
  | _ => cases e
theorem G2.dIn : G2 K rDIn (inDF false) := fun F H v w x y z Q s rx ry e R => by
  obtain ⟨k, e1, e2⟩ := bind_ok e
  obtain ⟨kvs, e3, rfl⟩ := map_ok e2
  obtain ⟨a, vs, rfl, h1, h2⟩ := dic_of ry s e3
  refine ⟨a, valV vs k, rfl, .inl ⟨vs, k, .inl h1, key_ok rx e1, rfl⟩, ?_⟩
  rw [h2.some]
  exact Res.here R s (.bl _)
theorem G2.dNotIn : G2 K rDNotIn (inDF true) := fun F H v w x y z Q s rx ry e R => by
  obtain ⟨k, e1, e2⟩ := bind_ok e
  obtain ⟨kvs, e3, rfl⟩ := map_ok e2
  obtain ⟨a, vs, rfl, h1, h2⟩ := dic_of ry s e3
  refine ⟨a, valV vs k, rfl, .inl ⟨vs, k, .inl h1, key_ok rx e1, rfl⟩, ?_⟩
  rw [h2.some]
  exact Res.here R s (.bl _)
theorem G2.dGet : G2 K rDGet getDF := fun F H v w x y z Q s rx ry e R => by
  obtain ⟨k, e1, e2⟩ := bind_ok e
  obtain ⟨kvs, e3, e4⟩ := bind_ok e2
  obtain ⟨x', e5, rfl⟩ := map_ok e4
  obtain ⟨a, vs, rfl, h1, h2⟩ := dic_of rx s e3
  obtain ⟨u, h3, h4⟩ := h2.val e5
  exact ⟨a, u, rfl, .inl ⟨vs, k, .inl h1, key_ok ry e1, h3.symm⟩, Res.here R s h4⟩
theorem Rks.keys : ∀ {vs : List (Key × V)} {xs : List (Key × DV)}, Rks K F vs xs → ∀ k, (vs.any fun kv => decide (kv.1 = k)) = (valD xs k).isSome := fun {vs xs} r k => by
  rw [valV_any, r.some]
theorem Rks.app : ∀ {vs ws : List (Key × V)} {xs ys : List (Key × DV)}, Rks K F vs xs → Rks K F ws ys → Rks K F (vs ++ ws) (xs ++ ys)
  | _, _, _, _, .nil, s => s
  | _, _, _, _, .cons h r, s => .cons h (Rks.app r s)
theorem Rks.map (k : Key) {y : DV} (r1 : Rp K F v y) : ∀ {vs : List (Key × V)} {xs : List (Key × DV)}, Rks K F vs xs → Rks K F (vs.map fun p => if p.1 = k then (p.1, v) else p) (xs.map fun p => if p.1 = k then (p.1, y) else p)
  | _, _, .nil => .nil
  | _, _, .cons (k := j) (vs := vs) (xs := xs) h r => by
    rw [List.map_cons, List.map_cons]
    by_cases c : j = k
    · rw [if_pos c, if_pos c]; exact .cons r1 (Rks.map k r1 r)
    · rw [if_neg c, if_neg c]; exact .cons h (Rks.map k r1 r)
theorem Rks.put {vs : List (Key × V)} {xs : List (Key × DV)} (r : Rks K F vs xs) (k : Key) {y : DV} (r1 : Rp K F v y) : Rks K F (putK vs k v) (putD xs k y) := by
  unfold putK putD
  rw [r.keys k]
  split
  · exact Rks.map k r1 r
  · exact r.app (.cons r1 .nil)
theorem Rp.keyed {x : DV} {k : Key} (r : Rp K F v x) (e : keyD x = some k) : v = kV k := key_ok (F := F) (H := F) (.of r) e
/-! ### {}, {k: x}, d[k] = x -/
def dDic0 : DE := fun S Q _ => Q (.own (.dic [])) S
theorem res_dic {kvs : List (Key × DV)} {vs : List (Key × V)} {Q : VK} (h : Res K F H (.own (.dic kvs)) Q) (s : Same F H) (hp : H p = none) (r : Rks K F vs kvs) : Q (.ref p) (upd H p (.dK vs)) :=
  h p F _ (Grw.new s hp) hp (s.free hp) ⟨vs, upd_same, r⟩
theorem LE.dic0 : LE K W tDNewK dDic0 := fun F H σ S Q Qd Ed s hd k e p hp =>
  res_dic (res_of (z := .own (.dic [])) (Q := Q) s (.inr (.inl ⟨_, rfl⟩)) hd fun v' y' F' H' S' b r' n' q' => k v' y' F' H' S' b r' n' q') s.ex hp .nil
/-- a key at hand -/
def keyK (y : TV) (Q : Key → Prop) : Prop := match y with
  | .val x => onS (keyD x) Q
  | _ => False
def dDic1 (dk : DE) (dv : DX) : DE := fun S Q Ed => dk S (fun y S1 => keyK y fun k => dv S1 (fun x S2 => Q (.own (.dic [(k, x)])) S2) Ed) Ed
theorem LE.dic1 {tk tv : TE} {dk : DE} {dv : DX} (hk : LE K W tk dk) (hv : LX K W tv dv) : LE K W (tDisp [(tk, tv)]) (dDic1 dk dv) := fun F H σ S Q Qd Ed s hd k e p hp => by
  have hF : F p = none := s.ex.free hp
  have hn : ¬ ow σ S p := fun z => by
    obtain ⟨_, o, h⟩ := s.ow_some z
    exact h.ne hp
  have a0 : Stp K F H σ S F (upd H p (.dK [])) σ S := (Stp.refl s).hid hp hF hn
  refine hk F _ σ S _ _ Ed a0.st hd (fun v y F1 H1 S1 a r1 n q => ?_) (e.step a0)
  have a1 := a0.trans a
  cases y with
  | val ky =>
    obtain ⟨kk, e1, q⟩ := onS_ok (show onS (keyD ky) _ from q)
    refine hv F1 H1 σ S1 _ _ Ed a.st q (fun w x F2 H2 S2 b r2 q2 => ?_) (e.step a1)
    have ab := a.trans b
    have a2 := a0.trans ab
    have at_ : H2 p = some (.dK []) := ab.kp p _ upd_same hn
    have hF2 : F2 p = none := by
      cases z : F2 p with
      | none => rfl
      | some u => exact absurd hF (ab.nf p (by rw [upd_same]; exact fun y => by cases y) hn (by rw [z]; exact fun y => by cases y))
    have hn2 : ¬ ow σ S2 p := fun z => by
      rcases ab.no p z with y | y
      · exact hn y
      · rw [upd_same] at y; cases y
    have fin := a2.hid (p := p) (u := .dK (mergeK [] [(kk, w)])) hp hF2 hn2
    have ev : v = kV kk := Rp.keyed r1 e1
    refine ⟨at_, [(kk, w)], by rw [ev]; rfl, (by show 1 ≤ 15; decide), ?_⟩
    refine k (.ref p) (.own (.dic [(kk, x)])) F2 _ S2 fin ⟨p, rfl, hF2, ⟨_, upd_same, ?_⟩, hn2⟩ (fun o p' e1 e2 => by cases e2; exact .inl hp) q2
    exact .cons r2 .nil
  | _ => exact (show False from q).elim
/-- d[k] = x -/
def dDPut (dd dy : DE) (dv : DX) : DS := fun S D => dv S (fun x S1 => dd S1 (fun y S2 => dy S2 (fun i S3 => keyK i fun k => mutC S3 y fun o put => match o with
  | .dic kvs => kvs.length < sizeLine ∧ D.nx (put (.dic (putD kvs k x)))
  | _ => False) D.ex) D.ex) D.ex
theorem LS.dput {td ty tv : TE} {dd dy : DE} {dv : DX} (hd' : LE K W td dd) (hy : LE K W ty dy) (hv : LX K W tv dv) : LS K W (sDPut td ty tv) (dDPut dd dy dv) := fun F H σ S D Dd s hd k =>
  hv F H σ S _ _ _ s hd (fun v x F1 H1 S1 a r1 q => hd' F1 H1 σ S1 _ _ _ a.st q (fun w y F2 H2 S2 b r2 n2 q => hy F2 H2 σ S2 _ _ _ b.st q (fun u i F3 H3 S3 c r3 n3 q => by
    have abc := (a.trans b).trans c
    cases i with
    | val ky =>
      obtain ⟨kk, e1, q4⟩ := onS_ok (show onS (keyD ky) _ from q)
      obtain ⟨p, o, put, rfl, ho, h, hp⟩ := mutC_ok abc (r2.step c) q4
      cases o with
      | dic kvs =>
        obtain ⟨us, h1, h2⟩ := ho
        obtain ⟨hl, q5⟩ := h
        refine ⟨p, _, rfl, .inl ⟨us, kk, h1, Rp.keyed r3 e1, by rw [h2.len]; exact hl, rfl⟩, ?_⟩
        exact k.nx F3 _ σ _ (hp _ (.dic (putD kvs kk x)) upd_off ⟨_, upd_same, h2.put kk ((r1.mono b.fx).mono c.fx)⟩) q5
      | lst xs => exact (show False from h).elim
      | ins _ _ => exact (show False from h).elim
      | dit _ => exact (show False from h).elim
    | _ => exact (show False from q).elim) ((k.ex.step a).step b)) (k.ex.step a)) k.ex
end
theorem units1 {k : Nat} {A : Around} (hr : Room k A) : A.units + 1 < cLine := by have := hr.un; omega
/-! ### the equations, as steps -/
def dicK (s : SO) (k : List (Key × DV) → Prop) : Prop := match s with
  | .dic xs => k xs
  | _ => False
section
variable {dk dd dy : DE} {dv : DX} {S : DSt} {Q : TV → DSt → Prop} {E : DErr → DSt → Prop} {D : DEnds} {kt : TV → Prop} {kk : Key → Prop} {i : Int} {s : Str} {kvs : List (Key × DV)} {kd : List (Key × DV) → Prop}
instance p_dic0 : Step (dDic0 S Q E) (Q (.own (.dic [])) S) := ⟨fun h => h⟩
instance p_dic1 : Step (dDic1 dk dv S Q E) (dk S (fun y S1 => keyK y fun k => dv S1 (fun x S2 => Q (.own (.dic [(k, x)])) S2) E) E) := ⟨fun h => h⟩
instance p_keyi : Step (keyK (.val (.int i)) kk) (kk (.inl i)) := ⟨fun h => h⟩
instance p_keys : Step (keyK (.val (.str s)) kk) (kk (.inr s)) := ⟨fun h => h⟩
instance p_dicK : Step (dicK (.dic kvs) kd) (kd kvs) := ⟨fun h => h⟩
instance p_dput : Step (dDPut dd dy dv S D) (dv S (fun x S1 => dd S1 (fun y S2 => dy S2 (fun i S3 => keyK i fun k => mutC S3 y fun o put => dicK o fun kvs => kvs.length < sizeLine ∧ inS (put (.dic (putD kvs k x))) D.nx) D.ex) D.ex) D.ex) := ⟨fun h => h⟩
instance p_dIn : Step (onS (inDF false (.int i) (.dic kvs)) kt) (kt (.val (.bl (valD kvs (.inl i)).isSome))) := ⟨fun h => h⟩
instance p_dNotIn : Step (onS (inDF true (.int i) (.dic kvs)) kt) (kt (.val (.bl (!(valD kvs (.inl i)).isSome)))) := ⟨fun h => h⟩
instance p_dGet : Step (onS (getDF (.dic kvs) (.int i)) kt) (onS (valD kvs (.inl i)) fun x => kt (.val x)) := ⟨fun h => by
  show onS ((valD kvs (.inl i)).map TV.val) kt
  rw [on_map]; exact h⟩
end
end L3

/-! L3t: xs[i] op= e. -/
namespace L3
open PySem PySem.Spec PyProof.Rows L2
section
variable {X : Cx}
/-- xs[i], by values -/
theorem get_list : PGet X (rIxL X.K) := by
  intro pins s σ H x y v u Q I rx ry h
  obtain ⟨p, xs, i, z, rfl, rfl, hq, he, q⟩ := h
  cases rx
  obtain ⟨t, rfl⟩ := ry
  obtain ⟨its, r, pl, hz⟩ := I.list hq
  obtain ⟨j, h1, h2, h3, h4, h5⟩ := atI_get he
  obtain ⟨w, ew, rw'⟩ := r.get h2
  have hl := r.length
  have hn := line63
  have fin : EP X pins σ Q w s := ⟨z, H, I, rw', q⟩
  by_cases h0 : 0 ≤ i
  · have hj : i.toNat = j := by
      rw [seqIndex_of h0 h5] at h1
      exact Option.some.inj h1
    exact wpAny_getItem_list pl.isList h0 (by omega) (by rw [hj]; simpa using ew) fin
  · have hj : (i + (its.toArray.size : Int)).toNat = j := by
      rw [seqIndex_neg (by omega) h4] at h1
      rw [List.size_toArray, ← hl]
      exact Option.some.inj h1
    exact wpAny_getItem_list_neg pl.isList (by omega) (by rw [List.size_toArray] <;> omega) (by omega) (by rw [hj]; simpa using ew) fin
end
/-! ### x is b, b a truth value -/
def isBl (b : Bool) : DV → Bool
  | .bl c => c == b
  | _ => false
def isBv (b : Bool) : V → Bool
  | .bl c => c == b
  | _ => false
section
variable {X : Cx}
theorem op_isC : OpR X (compareOp .Is) (fun x y H Q => ∃ b, y = .bl b ∧ Q (.bl (isBv b x)) H) := by
  intro pins s σ H x y v u Q I rx ry h
  obtain ⟨b, rfl, q⟩ := h
  cases ry
  cases x with
  | bl a => cases rx; cases a <;> cases b <;> exact wpAny_pure (fin_bl I q rfl)
  | non => cases rx; exact wpAny_pure (fin_bl I q rfl)
  | ref a => cases rx; exact wpAny_pure (fin_bl I q rfl)
  | ty a => cases rx; exact wpAny_pure (fin_bl I q rfl)
  | _ => obtain ⟨t, rfl⟩ := rx; exact wpAny_pure (fin_bl I q rfl)
theorem op_notC : OpR X (compareOp .IsNot) (fun x y H Q => ∃ b, y = .bl b ∧ Q (.bl (!isBv b x)) H) := by
  intro pins s σ H x y v u Q I rx ry h
  obtain ⟨b, rfl, q⟩ := h
  cases ry
  cases x with
  | bl a => cases rx; cases a <;> cases b <;> exact wpAny_pure (fin_bl I q rfl)
  | non => cases rx; exact wpAny_pure (fin_bl I q rfl)
  | ref a => cases rx; exact wpAny_pure (fin_bl I q rfl)
  | ty a => cases rx; exact wpAny_pure (fin_bl I q rfl)
  | _ => obtain ⟨t, rfl⟩ := rx; exact wpAny_pure (fin_bl I q rfl)
end
section
variable {K : PySem.W.Frag} {F H : Hp} {v : V}
def isCF (x y : DV) : Option TV := match y with
  | .bl b => some (.val (.bl (isBl b x)))
  | _ => none
def isntCF (x y : DV) : Option TV := match y with
  | .bl b => some (.val (.bl (!isBl b x)))
  | _ => none
theorem isBl_ok {x : DV} {b : Bool} (r : RpB K F H v x) : isBv b v = isBl b x := by
  cases r with
  | of r => cases r <;> rfl
  | lst _ _ => rfl
  | _ => rfl
theorem G2.isC : G2 K (fun x y H Q => ∃ b, y = .bl b ∧ Q (.bl (isBv b x)) H) isCF := fun F H v w x y z Q s rx ry e R => by
  cases y <;> first | (cases e; done) | skip
  cases e
  refine ⟨_, ry.bl, Res.here R s ?_⟩
  rw [isBl_ok rx]; exact .bl _
theorem G2.isntC : G2 K (fun x y H Q => ∃ b, y = .bl b ∧ Q (.bl (!isBv b x)) H) isntCF := fun F H v w x y z Q s rx ry e R => by
  cases y <;> first | (cases e; done) | skip
  cases e
  refine ⟨_, ry.bl, Res.here R s ?_⟩
  rw [isBl_ok rx]; exact .bl _
variable {k : TV → Prop} {a b : Bool} {i : Int}
instance p_isC_b : Step (onS (isCF (.bl a) (.bl b)) k) (k (.val (.bl (a == b)))) := ⟨fun h => h⟩
instance p_isntC_b : Step (onS (isntCF (.bl a) (.bl b)) k) (k (.val (.bl (!(a == b))))) := ⟨fun h => h⟩
instance p_isC_i : Step (onS (isCF (.int i) (.bl b)) k) (k (.val (.bl false))) := ⟨fun h => h⟩
instance p_isntC_i : Step (onS (isntCF (.int i) (.bl b)) k) (k (.val (.bl true))) := ⟨fun h => h⟩
instance p_isC_n : Step (onS (isCF .non (.bl b)) k) (k (.val (.bl false))) := ⟨fun h => h⟩
instance p_isntC_n : Step (onS (isntCF .non (.bl b)) k) (k (.val (.bl true))) := ⟨fun h => h⟩
end
section
variable {K : PySem.W.Frag} {F F' H H' F0 H0 : Hp} {σ σ' σ1 σ2 σ0 : L2.St} {S S' S1 S2 S0 : DSt} {F1 F2 H1 H2 : Hp} {p : Addr} {v : V} {W : WX}
/-- xs[i] op= e -/
def dAugItem (f : DV → DV → Option DV) (dy di dv : DE) : DS := fun S D => dy S (fun y S1 => di S1 (fun i S2 => intK i fun k => mutC S2 y fun o _ => lstK o fun xs => onS (atI xs k) fun x => dv S2 (fun w S3 => onS (tree S3 w) fun w => onS (f x w) fun z =>
  mutC S3 y fun o put => lstK o fun xs => onS (ixN xs.length k) fun j => lsx j xs z fun xs' => inS (put (.lst xs')) D.nx) D.ex) D.ex) D.ex
theorem LS.augItem {ty ti tv : TE} {dy di dv : DE} {tp : TIp} {f : DV → DV → Option DV} (g : GV K tp f) (hy : LE K W ty dy) (hi : LE K W ti di) (hv : LE K W tv dv) : LS K W (tAugS ty ti tv (rIxL K) tp rSetL) (dAugItem f dy di dv) := fun F H σ S D Dd s hd k =>
  hy F H σ S _ _ _ s hd (fun w y F2 H2 S2 b r2 n2 q => hi F2 H2 σ S2 _ _ _ b.st q (fun u i F3 H3 S3 c r3 n3 q => by
    obtain ⟨ki, rfl, q4⟩ := intK_ok q
    cases (show Rp K F3 u (.int ki) from r3)
    have bc := b.trans c
    have r2' := r2.step c
    obtain ⟨p, o, put, rfl, ho, h, hp⟩ := mutC_ok bc r2' q4
    cases o with
    | lst xs =>
      obtain ⟨us, h1, h2⟩ := ho
      obtain ⟨x, ex, q5⟩ := onS_ok (show onS (atI xs ki) _ from h)
      obtain ⟨uv, hu, ru⟩ := h2.at ex
      refine ⟨p, us, ki, uv, rfl, rfl, .inl (.inl h1), hu, ?_⟩
      refine hv F3 H3 σ S3 _ _ _ c.st q5 (fun w4 y4 F4 H4 S4 d r4 n4 q => ?_) ((k.ex.step b).step c)
      obtain ⟨y', e2, q⟩ := onS_ok q
      obtain ⟨z, e3, q⟩ := onS_ok q
      refine g F4 H4 uv w4 x y' z _ d.st.ex (.of (ru.mono d.fx)) (tree_ok d.st r4 e2) e3 fun vz rz => ?_
      have bcd := bc.trans d
      obtain ⟨p', o', put', e4, ho', h', hp'⟩ := mutC_ok bcd (r2'.step d) q
      cases e4
      cases o' with
      | lst ys =>
        obtain ⟨us', h1', h2'⟩ := ho'
        obtain ⟨j, e, q6⟩ := onS_ok (show onS (ixN ys.length ki) _ from h')
        refine ⟨p, us', ki, j, rfl, rfl, h1', by rw [h2'.len]; exact e, ?_⟩
        exact k.nx F4 _ σ _ (hp' _ (.lst (ys.set j z)) upd_off ⟨_, upd_same, h2'.set rz j⟩) q6
      | dic xs => exact (show False from h').elim
      | dit xs => exact (show False from h').elim
      | ins _ _ => exact (show False from h').elim
    | dic xs => exact (show False from h).elim
    | dit xs => exact (show False from h).elim
    | ins _ _ => exact (show False from h).elim) (k.ex.step b)) k.ex
end
section
variable {da di dv : DE} {f : DV → DV → Option DV} {S : DSt} {D : DEnds}
instance p_augItem : Step (dAugItem f da di dv S D) (da S (fun y S1 => di S1 (fun i S2 => intK i fun k => mutC S2 y fun o _ => lstK o fun xs => onS (atI xs k) fun x => dv S2 (fun w S3 => onS (tree S3 w) fun w => onS (f x w) fun z =>
  mutC S3 y fun o put => lstK o fun xs => onS (ixN xs.length k) fun j => lsx j xs z fun xs' => inS (put (.lst xs')) D.nx) D.ex) D.ex) D.ex) := ⟨fun h => h⟩
end
end L3

/-! L3u: sorted of a list of data that are alike (rows, tuples). -/
namespace L3
open PySem PySem.Spec PyProof.Rows L2
open PySem.W (AllAlike Sortable dataLe sorted_data EachIs)
def rSortedD (K : PySem.W.Frag) : List V → Hp → VK → Prop := fun vs H Q => ∃ (a : Addr) (us : List V) (ds : List PyData), vs = [V.ref a] ∧ SqL K H a us ∧ DpAll K H us ds ∧ AllAlike ds ∧ Sortable ds ∧ (∀ d ∈ ds, d.depth ≤ 60) ∧
  ∀ p, H p = none → Q (.ref p) (upd H p (.lst (((us.zip ds).mergeSort (dataLe false Prod.snd)).map Prod.fst)))
section
variable {X : Cx}
theorem units65 {k : Nat} {A : Around} (hr : Room k A) : A.units + 65 < cLine := by have := hr.un; omega
theorem zip_fst {α β : Type} : ∀ {as : List α} {bs : List β}, as.length = bs.length → (as.zip bs).map Prod.fst = as
  | [], [], _ => rfl
  | a :: as, b :: bs, h => by simp [zip_fst (as := as) (bs := bs) (by simpa using h)]
theorem zip_snd {α β : Type} : ∀ {as : List α} {bs : List β}, as.length = bs.length → (as.zip bs).map Prod.snd = bs
  | [], [], _ => rfl
  | a :: as, b :: bs, h => by simp [zip_snd (as := as) (bs := bs) (by simpa using h)]
theorem dp_len {K : PySem.W.Frag} {H : Hp} : ∀ {vs : List V} {ds : List PyData}, DpAll K H vs ds → vs.length = ds.length
  | _, _, .nil => rfl
  | _, _, .cons _ r => congrArg Nat.succ (dp_len r)
theorem each_of {pins : List (Addr × Obj)} {σ : L2.St} {H : Hp} {s : Shared} (I : L2.Inv X pins σ H s) : ∀ {us : List V} {ds : List PyData} {its : List Value}, DpAll X.K H us ds → Vals us its →
    EachIs (fun v (b : V × PyData) => RelV b.1 v) its (us.zip ds) ∧ EachIs (fun v (b : V × PyData) => ∃ as, Reads s.heap v b.2 as) its (us.zip ds)
  | _, _, _, .nil, .nil => ⟨.nil, .nil⟩
  | _, _, _, .cons h r, .cons x y => by
    obtain ⟨h1, h2⟩ := each_of I r y
    exact ⟨.cons x h1, .cons (Dp.reads I _ _ _ h x) h2⟩
theorem vals_each : ∀ {its : List Value} {bs : List (V × PyData)}, EachIs (fun v (b : V × PyData) => RelV b.1 v) its bs → Vals (bs.map Prod.fst) its
  | _, _, .nil => .nil
  | _, _, .cons h r => .cons h (vals_each r)
theorem cr_sortedD (hu : X.A.units + 65 < cLine) : CallR X (.builtin "sorted") (rSortedD X.K) := by
  intro pins s σ H vs us Q I r h
  obtain ⟨a, xs, ds, rfl, hs, hd, hal, hso, hdp, q⟩ := h
  obtain ⟨its, rv, hl, hz⟩ := I.list hs
  rw [Vals.ref1 r]
  obtain ⟨e1, e2⟩ := each_of I hd rv
  have hzl : (xs.zip ds).length = xs.length := by rw [List.length_zip, (dp_len hd)]; omega
  refine sorted_data (enc := Prod.snd) hl.isList e1 e2 (by rw [zip_snd (dp_len hd)]; exact hal) (by rw [zip_snd (dp_len hd)]; exact hso) (by rw [hzl]; exact hz) (fun b hb => ?_) fun out ol ho => ?_
  · have : b.2 ∈ ds := by rw [← zip_snd (dp_len hd)]; exact List.mem_map.mpr ⟨b, hb, rfl⟩
    have := hdp _ this
    omega
  · have hlen : (((xs.zip ds).mergeSort (dataLe false Prod.snd)).map Prod.fst).length ≤ sizeLine := by
      rw [List.length_map, List.length_mergeSort, hzl]
      exact hz
    obtain ⟨ep, he'⟩ := PyProof.Rows.sortedAll_at s.heap its out.toArray
    exact ⟨.ref _, upd H (s.heap.objs.size + 1) (.lst (((xs.zip ds).mergeSort (dataLe false Prod.snd)).map Prod.fst)), I.laid (t' := s.toks) (fun _ _ => PyProof.Rows.sortedAll_old) (Nat.le_succ _) ⟨hlen, out, ep, vals_each ho, he'⟩, rfl, q _ (I.hok.fresh (Nat.le_succ _))⟩
end
section
variable {K : PySem.W.Frag} {F H : Hp} {v : V}
def SrtOk (ds : List PyData) : Prop := AllAlike ds ∧ Sortable ds ∧ ∀ d ∈ ds, d.depth ≤ 60
noncomputable def sortDF : List DV → Option TV := one fun x => match x with
  | .lst xs => match toPys xs with
    | some ds => @ite _ (SrtOk ds) (Classical.propDecidable _) (some (.own (.lst (((xs.zip ds).mergeSort (dataLe false Prod.snd)).map Prod.fst)))) none
    | none => none
  | _ => none
theorem rps_zip : ∀ {us : List V} {xs : List DV} {ds : List PyData}, Rps K F us xs → xs.length = ds.length → ∃ zs : List (V × DV × PyData), zs.map (fun z => (z.1, z.2.2)) = us.zip ds ∧ zs.map (fun z => (z.2.1, z.2.2)) = xs.zip ds ∧ ∀ z ∈ zs, Rp K F z.1 z.2.1
  | _, _, [], .nil, _ => ⟨[], rfl, rfl, fun z h => by simp at h⟩
  | _, _, d :: ds, .cons h r, hl => by
    obtain ⟨zs, h1, h2, h3⟩ := rps_zip r (by simpa using hl)
    refine ⟨(_, _, d) :: zs, by rw [List.map_cons, h1]; rfl, by rw [List.map_cons, h2]; rfl, fun z hz => ?_⟩
    rcases List.mem_cons.mp hz with e | e
    · rw [e]; exact h
    · exact h3 z e
theorem rps_map {α : Type} {f : α → V} {g : α → DV} : ∀ {zs : List α}, (∀ z ∈ zs, Rp K F (f z) (g z)) → Rps K F (zs.map f) (zs.map g)
  | [], _ => .nil
  | z :: zs, h => .cons (h z List.mem_cons_self) (rps_map fun y hy => h y (List.mem_cons_of_mem _ hy))
theorem toPys_len : ∀ {xs : List DV} {ds : List PyData}, toPys xs = some ds → xs.length = ds.length
  | [], ds, e => by cases (show some [] = some ds from e); rfl
  | x :: xs, ds, e => by
    have e' : (match toPy x with
      | some d => match toPys xs with
        | some ds => some (d :: ds)
        | none => none
      | none => none) = some ds := e
    cases q1 : toPy x with
    | none => rw [q1] at e'; cases e'
    | some d =>
      cases q2 : toPys xs with
      | none => rw [q1, q2] at e'; cases e'
      | some zs => rw [q1, q2] at e'; cases e'; exact congrArg Nat.succ (toPys_len q2)
theorem Gn.sortD : Gn K (rSortedD K) sortDF := fun F H vs xs z Q s r e R => by
  obtain ⟨x, rfl, e⟩ := one_ok e
  obtain ⟨w, rfl, r1⟩ := r.one
  cases x with
  | lst xs =>
    have e' : (match toPys xs with
      | some ds => @ite _ (SrtOk ds) (Classical.propDecidable _) (some (TV.own (.lst (((xs.zip ds).mergeSort (dataLe false Prod.snd)).map Prod.fst)))) none
      | none => none) = some z := e
    cases q : toPys xs with
    | none => rw [q] at e'; cases e'
    | some ds =>
      rw [q] at e'
      have e2 : @ite _ (SrtOk ds) (Classical.propDecidable _) (some (TV.own (.lst (((xs.zip ds).mergeSort (dataLe false Prod.snd)).map Prod.fst)))) none = some z := e'
      by_cases c : SrtOk ds
      · rw [if_pos c] at e2
        cases e2
        obtain ⟨a, us, rfl, h1, h2⟩ := r1.list s
        refine ⟨a, us, ds, rfl, .inl (.inl h1), toPys_ok s h2 q, c.1, c.2.1, c.2.2, fun p hp => ?_⟩
        obtain ⟨zs, z1, z2, z3⟩ := rps_zip h2 (toPys_len q)
        have s1 : ((us.zip ds).mergeSort (dataLe false Prod.snd)).map Prod.fst = (zs.mergeSort (dataLe false fun z => z.2.2)).map fun z => z.1 := by
          have g := List.map_mergeSort (r := dataLe false fun z : V × DV × PyData => z.2.2) (s := dataLe false Prod.snd) (f := fun z => (z.1, z.2.2)) (l := zs) (fun a _ b _ => rfl)
          rw [z1] at g
          rw [← g, List.map_map]
          rfl
        have s2 : ((xs.zip ds).mergeSort (dataLe false Prod.snd)).map Prod.fst = (zs.mergeSort (dataLe false fun z => z.2.2)).map fun z => z.2.1 := by
          have g := List.map_mergeSort (r := dataLe false fun z : V × DV × PyData => z.2.2) (s := dataLe false Prod.snd) (f := fun z => (z.2.1, z.2.2)) (l := zs) (fun a _ b _ => rfl)
          rw [z2] at g
          rw [← g, List.map_map]
          rfl
        rw [s1]
        rw [s2] at R
        refine Res.newL R s hp (rps_map fun z hz => z3 z ((List.mergeSort_perm _ _).mem_iff.mp hz))
      · rw [if_neg c] at e2; cases e2
  | _ => cases e
/-! ### rows -/
def encR (r : List Int) : PyData := .list (r.map .int)
theorem toPys_z : ∀ l : List Int, toPys (zInts l) = some (l.map .int)
  | [] => rfl
  | x :: l => by
    show (match toPy (.int x) with
      | some d => match toPys (zInts l) with
        | some ds => some (d :: ds)
        | none => none
      | none => none) = _
    rw [toPys_z l]
    rfl
theorem toPys_w : ∀ w : List (List Int), toPys (zWeb w) = some (w.map encR)
  | [] => rfl
  | r :: w => by
    show (match (toPys (zInts r)).map PyData.list with
      | some d => match toPys (zWeb w) with
        | some ds => some (d :: ds)
        | none => none
      | none => none) = _
    rw [toPys_w w, toPys_z r]
    rfl
theorem depth_encR (r : List Int) : (encR r).depth ≤ 60 := by
  have := PySem.W.depth_ints r
  show (PyData.list (r.map .int)).depth ≤ 60
  simp only [PyData.depth]
  omega
theorem sortDF_w (w : List (List Int)) : sortDF [.lst (zWeb w)] = some (.own (.lst (zWeb (w.mergeSort fun a b => decide (a ≤ b))))) := by
  show (match toPys (zWeb w) with
      | some ds => @ite _ (SrtOk ds) (Classical.propDecidable _) (some (TV.own (.lst ((((zWeb w).zip ds).mergeSort (dataLe false Prod.snd)).map Prod.fst)))) none
      | none => none) = _
  rw [toPys_w w]
  show @ite _ _ (Classical.propDecidable _) _ _ = _
  rw [if_pos ⟨AllAlike.of fun b b' => PySem.W.alike_ints b b', Sortable.others fun b => ⟨fun h => (by cases h), fun xs h => (by cases h)⟩, fun d hd => by
    obtain ⟨r, _, rfl⟩ := List.mem_map.mp hd
    exact depth_encR r⟩]
  have z : (zWeb w).zip (w.map encR) = w.map fun r => (zRow r, encR r) := by
    unfold zWeb
    exact List.zip_map'
  have hd : dataLe false (fun r : List Int => encR r) = fun p q => decide (p ≤ q) := PySem.W.dataLe_rows fun x => x
  have g := List.map_mergeSort (r := dataLe false fun r : List Int => encR r) (s := dataLe false Prod.snd) (f := fun r => (zRow r, encR r)) (l := w) (fun a _ b _ => rfl)
  rw [z, ← g, List.map_map, hd]
  rfl
variable {w : List (List Int)} {k : TV → Prop}
instance p_sortD_w : Step (onS (sortDF [.lst (zWeb w)]) k) (k (.own (.lst (zWeb (w.mergeSort fun a b => decide (a ≤ b)))))) := ⟨fun h => by rw [sortDF_w]; exact h⟩
end
/-! ### a name is returned, its object moved out of the map -/
def dRetV (i : Nat) : DS := fun S D => gx i S.g fun _ => D.rt (.slt i) S
section
variable {K : PySem.W.Frag} {W : WX}
theorem LS.retV (i : Nat) : LS K W (tRet (tVar i)) (dRetV i) := fun F H σ S D Dd s hd k => by
  have h : (match S.g[i]? with
    | some (some _) => Dd.rt (.slt i) S
    | _ => False) := by
    have e : dRetV i S Dd = (match S.g[i]? with
      | some (some _) => Dd.rt (.slt i) S
      | _ => False) := gx_eq
    rw [← e]
    exact hd
  split at h
  · rename_i x q
    obtain ⟨v, e1, _⟩ := s.sl i _ q
    exact ⟨v, e1, k.rt v (.slt i) F H σ S (Stp.refl s) e1 Nw.slt h⟩
  · exact h.elim
instance p_retV {i : Nat} {g : List (Option SV)} {o : OM} {D : DEnds} : Step (dRetV i ⟨g, o⟩ D) (gx i g fun _ => D.rt (.slt i) ⟨g, o⟩) := ⟨fun h => h⟩
end
end L3

/-! L3v: objects: own facts, C() without __init__, methods, isinstance of own classes. -/
/-! ### more facts of the program's classes -/
namespace Hf
open PySem PySem.Spec PyProof.Rows L2 He
inductive Fb where
  | kit (x y : Str) (b : Bool)
  | new0 (x : Str)
  | inst (x : Str)
  | excc (x : Str)
  | kitv (x : Str) (y : String) (b : Bool)
  | oex (x : Str)
  | vinit (x : Str)
  | sysd
/-- what an exception class must say for isinstance -/
def exccB (K : PySem.W.Frag) (C : Addr) : Bool := xfB K C && (decide (PySem.W.findIn K (.ref C) "__class__" = some (some (.builtin "object.__class__"))) &&
  (decide (PySem.W.specialIn K (.builtin "object.__class__") "__get__" = some (some (.builtin "getset_descriptor.__get__"))) && (decide (PySem.W.takesIn K (.builtin "object.__class__") = some true) && decide (PySem.W.mroIn K C (.type "object") = some true))))
/-- an exception class with an __init__ of its own, over ValueError -/
def oexB (K : PySem.W.Frag) (C : Addr) : Bool := (match K.lookup C with
  | some ⟨.type "type", _, .cls cd, sl⟩ => (match cd.mro, sl.toList with
    | .ref D :: bm, [_, _, _, _, some (.builtin n), _] => D == C && (n == "ValueError.__new__" && (!cd.hasDel && (cd.hasDict && PySem.HandSPX.refsVE bm)))
    | _, _ => false)
  | _ => false) && (decide (PySem.W.findIn K (.ref C) "__setattr__" = some (some (.builtin "object.__setattr__"))) && (decide (PySem.W.subIn K (.ref C) (.type "BaseException") = some true) &&
  (decide (PySem.W.typeIn K (.ref C) = some (.type "type")) && (PySem.W.keepIn K (.ref C) && (decide (PySem.W.findIn K (.ref C) "__init__" = some (some (.ref (ma K C "__init__")))) &&
  (decide (PySem.W.typeIn K (.ref (ma K C "__init__")) = some (.type "function")) && decide (PySem.W.findIn K (.ref C) "thing" = some none)))))))
/-- its own base class hands ValueError's __init__ -/
def vinitB (K : PySem.W.Frag) (C : Addr) : Bool := PySem.W.readsIn K C (.type "type") && (match PySem.W.findCls K (.ref C) (.type "type") "__init__" with
  | some (.val (.builtin n)) => n == "ValueError.__init__"
  | _ => false)
def Fb.ok (K : PySem.W.Frag) : Fb → Bool
  | .kit x y b => decide (PySem.W.kitOne K (.ref (ga K x)) (.ref (ga K y)) = some b)
  | .new0 x => PySem.W.makesIn K (ga K x) && (decide (PySem.W.findIn K (.ref (ga K x)) "__init__" = some (some (.builtin "object.__init__"))) && (decide (PySem.W.mroIn K (ga K x) (.type "object") = some true) && PySem.W.keepIn K (.ref (ga K x))))
  | .inst x => decide (PySem.W.findIn K (.ref (ga K x)) "__class__" = some (some (.builtin "object.__class__"))) && (decide (PySem.W.specialIn K (.builtin "object.__class__") "__get__" = some (some (.builtin "getset_descriptor.__get__"))) &&
      (decide (PySem.W.takesIn K (.builtin "object.__class__") = some true) && decide (PySem.W.mroIn K (ga K x) (.type "object") = some true)))
  | .excc x => exccB K (ga K x)
  | .kitv x y b => decide (PySem.W.kitOne K (.ref (ga K x)) (.type y) = some b)
  | .oex x => oexB K (ga K x)
  | .vinit x => vinitB K (ga K x)
  | .sysd => match K.lookup sysModules with
    | some o => decide (o.cls = .type "dict")
    | none => false
/-- an exception class that can be made with a field -/
structure OexF (K : PySem.W.Frag) (C : Addr) : Prop where
  oex : OexC K C
  ini : PySem.W.findIn K (.ref C) "__init__" = some (some (.ref (ma K C "__init__")))
  fn : PySem.W.typeIn K (.ref (ma K C "__init__")) = some (.type "function")
  no : PySem.W.findIn K (.ref C) "thing" = some none
structure New0 (K : PySem.W.Frag) (C : Addr) : Prop where
  makes : PySem.W.makesIn K C = true
  init : PySem.W.findIn K (.ref C) "__init__" = some (some (.builtin "object.__init__"))
  top : PySem.W.mroIn K C (.type "object") = some true
  kp : PySem.W.keepIn K (.ref C) = true
structure Inst0 (K : PySem.W.Frag) (C : Addr) : Prop where
  cl : PySem.W.findIn K (.ref C) "__class__" = some (some (.builtin "object.__class__"))
  gt : PySem.W.specialIn K (.builtin "object.__class__") "__get__" = some (some (.builtin "getset_descriptor.__get__"))
  tk : PySem.W.takesIn K (.builtin "object.__class__") = some true
  top : PySem.W.mroIn K C (.type "object") = some true
section
variable {K : PySem.W.Frag}
theorem kit_ok {x y : Str} {b : Bool} (c : (Fb.kit x y b).ok K = true) : PySem.W.kitOne K (.ref (ga K x)) (.ref (ga K y)) = some b := of_decide_eq_true c
theorem kitv_ok {x : Str} {y : String} {b : Bool} (c : (Fb.kitv x y b).ok K = true) : PySem.W.kitOne K (.ref (ga K x)) (.type y) = some b := of_decide_eq_true c
theorem excc_ok {x : Str} (c : (Fb.excc x).ok K = true) : ExcC K (ga K x) := by
  obtain ⟨c1, c⟩ := ba c
  obtain ⟨c2, c⟩ := ba c
  obtain ⟨c3, c⟩ := ba c
  obtain ⟨c4, c5⟩ := ba c
  have z := xfB_ok c1
  exact ⟨z.ga, z.gg, z.exC, z.hdC, of_decide_eq_true c2, of_decide_eq_true c3, of_decide_eq_true c4, of_decide_eq_true c5⟩
theorem oex_ok {x : Str} (c : (Fb.oex x).ok K = true) : OexF K (ga K x) := by
  obtain ⟨c1, c⟩ := ba c
  obtain ⟨c2, c⟩ := ba c
  obtain ⟨c3, c⟩ := ba c
  obtain ⟨c4, c⟩ := ba c
  obtain ⟨c5, c⟩ := ba c
  obtain ⟨c6, c⟩ := ba c
  obtain ⟨c7, c8⟩ := ba c
  refine ⟨⟨?_, of_decide_eq_true c2, of_decide_eq_true c3, of_decide_eq_true c4, c5⟩, of_decide_eq_true c6, of_decide_eq_true c7, of_decide_eq_true c8⟩
  split at c1
  · rename_i dd cd sl ho
    split at c1
    · rename_i D bm k0 k1 k2 k3 n k5 hm hs
      obtain ⟨d1, c1⟩ := ba c1
      obtain ⟨d2, c1⟩ := ba c1
      obtain ⟨d3, c1⟩ := ba c1
      obtain ⟨d4, d5⟩ := ba c1
      have e1 := eq_of_beq d1
      have e2 := eq_of_beq d2
      subst e1 e2
      obtain ⟨nm, bs, mro, ns, qn, hd, sn, sub, ab, col, del⟩ := cd
      dsimp only at hm d3 d4
      have e3 : del = false := by simpa using d3
      subst hm e3 d4
      obtain ⟨l⟩ := sl
      dsimp only at hs
      subst hs
      exact ⟨nm, qn, ns, bs, bm, sn, sub, ab, col, dd, k0, k1, k2, k3, k5, ho, d5⟩
    · cases c1
  · cases c1
theorem vinit_ok {x : Str} (c : (Fb.vinit x).ok K = true) : PySem.W.readsIn K (ga K x) (.type "type") = true ∧ PySem.W.findCls K (.ref (ga K x)) (.type "type") "__init__" = some (.val (.builtin "ValueError.__init__")) := by
  obtain ⟨c1, c2⟩ := ba c
  refine ⟨c1, ?_⟩
  split at c2
  · rename_i n e
    have z := eq_of_beq c2
    rw [e, z]
  · cases c2
theorem new0_ok {x : Str} (c : (Fb.new0 x).ok K = true) : New0 K (ga K x) := by
  obtain ⟨c1, c⟩ := ba c
  obtain ⟨c2, c⟩ := ba c
  obtain ⟨c3, c4⟩ := ba c
  exact ⟨c1, of_decide_eq_true c2, of_decide_eq_true c3, c4⟩
theorem inst_ok {x : Str} (c : (Fb.inst x).ok K = true) : Inst0 K (ga K x) := by
  obtain ⟨c1, c⟩ := ba c
  obtain ⟨c2, c⟩ := ba c
  obtain ⟨c3, c4⟩ := ba c
  exact ⟨of_decide_eq_true c1, of_decide_eq_true c2, of_decide_eq_true c3, of_decide_eq_true c4⟩
end
def obsE (fa : List Fa) (fb : List Fb) (fn : List DefD) (K : PySem.W.Frag) : AlD := ((obsD fa fn K).1 && fb.all (fun f => f.ok K), (obsD fa fn K).2)
def SaysE (fa : List Fa) (fb : List Fb) (fn : List DefD) (K : PySem.W.Frag) : Prop := obsE fa fb fn K = valD fn
def obsEG (n : Nat) (fa : List Fa) (fb : List Fb) (fn : List DefD) (g : Addr → Option Obj) : AlD := obsE fa fb fn (frG g (asD g n ++ [cStatics, sysModules]))
def hookE (n : Nat) (fa : List Fa) (fb : List Fb) (fn : List DefD) : PySem.W.Hook where
  α := AlD
  obs := fun s => obsEG n fa fb fn s.heap.get?
  val := fun _ => valD fn
  says := fun _ h => ∃ K : PySem.W.Frag, K.In h ∧ SaysE fa fb fn K
  of := fun _ _ e => ⟨_, frG_in, e⟩
  keeps := fun _ _ _ ⟨K, hK, c⟩ k => ⟨K, PySem.W.Frag.In.keeps hK k, c⟩
theorem obsEG_eq {n : Nat} {fa : List Fa} {fb : List Fb} {fn : List DefD} {g : Addr → Option Obj} {s : Shared} (h : ∀ a, g a = s.heap.get? a) : obsEG n fa fb fn g = (hookE n fa fb fn).obs s := by
  have e : g = s.heap.get? := funext h
  rw [e] <;> rfl
section
variable {fa : List Fa} {fb : List Fb} {fn : List DefD} {K : PySem.W.Frag}
theorem SaysE.d (c : SaysE fa fb fn K) : SaysD fa fn K := by
  have e1 : ((obsD fa fn K).1 && fb.all (fun f => f.ok K)) = true := congrArg (fun z : AlD => z.1) c
  have e2 : (obsD fa fn K).2 = fn.map DefD.val := congrArg (fun z : AlD => z.2) c
  show obsD fa fn K = (true, fn.map DefD.val)
  rw [← (ba e1).1, ← e2]
theorem SaysE.own (c : SaysE fa fb fn K) (i : Nat) {f : Fb} (h : fb[i]? = some f := by rfl) : f.ok K = true := by
  have e1 : ((obsD fa fn K).1 && fb.all (fun f => f.ok K)) = true := congrArg (fun z : AlD => z.1) c
  exact List.all_eq_true.mp (ba e1).2 f (List.mem_of_getElem? h)
end
end Hf
namespace L3
open PySem PySem.Spec PyProof.Rows L2
section
variable {X : Cx} {C : Addr} {x : Str} {p pos apos : Pos} {e o : Expr} {es : List Expr} {ta : TE} {t : TA}
/-- C(), __init__ object's -/
def tNew0 (C : Addr) : TE := fun σ H Q => ∀ x dx, H x = none → H dx = none → dx ≠ x → Q (.ref x) (upd (upd H dx (.own x)) x (.ins C dx []))
theorem run_new0 {pins : List (Addr × Obj)} {σ : L2.St} {H : Hp} {s : Shared} {Q : VK} (M : Hf.New0 X.K C) (I : L2.Inv X pins σ H s)
    (h : ∀ x dx, H x = none → H dx = none → dx ≠ x → Q (.ref x) (upd (upd H dx (.own x)) x (.ins C dx []))) : wpAny (model X.prog X.w) X.A (call (.ref C) []) (EP X pins σ Q) X.xe s := by
  have hq := h (s.heap.objs.size + 1) s.heap.objs.size (I.hok.fresh (Nat.le_succ _)) (I.hok.fresh (Nat.le_refl _)) (Nat.ne_of_lt (Nat.lt_succ_self _))
  have I2 := Inv.made (C := C) I
  refine wpAny_call (make_map0 I.kIn M.makes M.init (fun self => PySem.W.Looks.of_pure (PySem.W.oi_bind _)) ?_)
  have ho : ((s.heap.push PySem.W.emptyDict).push (PySem.W.instObj C s.heap.objs.size)).get? (s.heap.objs.size + 1) = some (PySem.W.instObj C s.heap.objs.size) := by
    have := Heap.get?_push_size (s.heap.push PySem.W.emptyDict) (o := PySem.W.instObj C s.heap.objs.size) rfl
    rwa [Heap.size_push] at this
  have t1 : PySem.W.Looks (model X.prog X.w) ((s.heap.push PySem.W.emptyDict).push (PySem.W.instObj C s.heap.objs.size)) (typeOf (.ref (s.heap.objs.size + 1))) (.ref C) := NwA.type_at ho rfl
  have t2 : PySem.W.Looks (model X.prog X.w) ((s.heap.push PySem.W.emptyDict).push (PySem.W.instObj C s.heap.objs.size)) (isInstance (.ref (s.heap.objs.size + 1)) (.type "object")) true := t1.andThen (PySem.W.looks_mroIn I2.kIn M.top)
  refine codeAny_call_builtin PySem.W.oi_plain PySem.W.entry_oi (@PySem.W.check_slot (model X.prog X.w) _ _ _ "object.__init__" "object" "__init__" (.ref (s.heap.objs.size + 1)) [] [] _ PySem.W.oi_kind PySem.W.oi_split t2 (NwA.oi_args_any _ [] []) ?_)
  rw [PySem.W.oi_run]
  exact wpAny_pure (And.intro rfl ⟨V.ref (s.heap.objs.size + 1), _, I2, rfl, hq⟩)
theorem pe_new0 (M : Hf.New0 X.K C) (hg : Gl X x) (hm : X.mg x = some (.ref C)) (hdb : (x == ("__debug__" : Str)) = false := by decide) : PE X (.Call (.Name x p) [] [] pos) (tNew0 C) := by
  refine ⟨fun pins s σ H Q I h => ?_⟩
  refine wpAny_Call_Name_kw (ld_glob I hg hm ?_ hdb)
  exact PySem.W.callWith_K0 I.kIn M.kp (run_new0 M I h)
/-- the receiver and the arguments of o.m(..) -/
def tRecv (C : Addr) (m : Str) (ta : TE) (t : TA) : TA := fun σ H R => ta σ H fun x H1 => (∃ a dx fs, x = .ref a ∧ H1 a = some (.ins C dx fs) ∧ fs.lookup m = none) ∧ t σ H1 fun vs H2 => R (x :: vs) H2
end
/-! ### a method that is called -/
structure CalM (P : Program) (w : World) (K : PySem.W.Frag) (mg : Str → Option Value) (base : Heap) (k : Nat) (c m : Str) (ps : List Str) (sp : Sp) : Prop where
  ex : ∃ fd, FnOk P w K mg base (L2.CX P w) k (He.ma K (He.ga K c) m) fd ps sp ∧ Binds K fd ps []
  cl : Cls K (He.ga K c)
  mt : Meth K (He.ga K c) m (He.ma K (He.ga K c) m)
section
variable {X : Cx} {W : WX} {k j : Nat} {cn m : Str} {ps : List Str} {sp : Sp} {e o : Expr} {es : List Expr} {ta : TE} {t : TA} {p pos apos : Pos}
theorem pe_mcal {pl : Sem Bool} (he : PE X o ta) (c : CalM X.prog X.w X.K X.mg X.base k cn m ps sp) (hr : Room j X.A) (tk : Takes X W) (ha : PA X (e :: es) t) (hk : k ≤ j := by first | decide | omega)
    (hst : starEach (e :: es) X.env = (false, eval e X.env) :: starEach es X.env := by rfl) (hpl : (backTo pos (starEach es X.env)).any (·.1) = false := by rfl)
    (ht : eval (.Call (.Attribute o m apos) (e :: es) [] pos) X.env = (do
      let ov ← eval o X.env
      standAt apos.atName
      let (f, first) ← holding [ov] (getMethod ov m pl)
      callWith pos f first (backTo pos (starEach (e :: es) X.env)) (backToKw pos (keywordEach [] X.env))) := by rfl) :
    PE X (.Call (.Attribute o m apos) (e :: es) [] pos) (tCallS sp (WE W) (tRecv (He.ga X.K cn) m ta t)) := by
  obtain ⟨fd, F, b⟩ := c.ex
  refine ⟨fun pins s σ H Q I h => ?_⟩
  refine PySem.W.methodCall_KW (pl := pl) (thn (he.run pins s σ H _ I h) fun u s1 ⟨x, H1, I1, rx, ⟨a, dx, fs, ex, ea, l⟩, q⟩ => ?_) ht
  subst ex
  obtain rfl : u = Value.ref a := rx
  refine getmeth_ok I1 ea c.cl c.mt l ?_
  refine PySem.W.callWith_K (first := [.ref a]) (h₀ := X.base) I.ok.mod.kin c.mt.kp (thn (ha.run pos pins s1 σ H1 _ I1 q) fun us s2 ⟨vs, H2, I2, r, q2⟩ => ⟨I2.kIn, ?_⟩) hst hpl
  exact run_fnS (us := .ref a :: us) (vs := .ref a :: vs) F (hr.mono hk) b (passAt tk σ) I2 (.cons rfl r) q2
theorem pe_mcal0 {pl : Sem Bool} (he : PE X o ta) (c : CalM X.prog X.w X.K X.mg X.base k cn m ps sp) (hr : Room j X.A) (tk : Takes X W) (hk : k ≤ j := by first | decide | omega)
    (ht : eval (.Call (.Attribute o m apos) [] [] pos) X.env = (do
      let ov ← eval o X.env
      standAt apos.atName
      let (f, first) ← holding [ov] (getMethod ov m pl)
      callWith pos f first (backTo pos (starEach [] X.env)) (backToKw pos (keywordEach [] X.env))) := by rfl) :
    PE X (.Call (.Attribute o m apos) [] [] pos) (tCallS sp (WE W) (tRecv (He.ga X.K cn) m ta tNil)) := by
  obtain ⟨fd, F, b⟩ := c.ex
  refine ⟨fun pins s σ H Q I h => ?_⟩
  refine PySem.W.methodCall_KW (pl := pl) (thn (he.run pins s σ H _ I h) fun u s1 ⟨x, H1, I1, rx, ⟨a, dx, fs, ex, ea, l⟩, q⟩ => ?_) ht
  subst ex
  obtain rfl : u = Value.ref a := rx
  refine getmeth_ok I1 ea c.cl c.mt l ?_
  exact PySem.W.callWith_K0 (first := [.ref a]) I1.kIn c.mt.kp (run_fnS (us := [.ref a]) (vs := [.ref a]) F (hr.mono hk) b (passAt tk σ) I1 (.cons rfl .nil) q)
/-- isinstance(e, C), C a class of the program -/
def tIsC (K : PySem.W.Frag) (c : Addr) (te : TE) : TE := fun σ H Q => te σ H fun x H1 => ∃ C b, TyX K H1 x (.ref C) ∧ PySem.W.kitOne K (.ref C) (.ref c) = some b ∧ Q (.bl b) H1
end
/-! ### lifts -/
/-- what the classes of a table must have for isinstance -/
def KitT (K : PySem.W.Frag) (c : Addr) (t : Str → Option Bool) : Prop := ∀ x b, t x = some b → PySem.W.kitOne K (.ref (He.ga K x)) (.ref c) = some b ∧ Cls K (He.ga K x) ∧ Hf.Inst0 K (He.ga K x)
theorem KitT.nil {K : PySem.W.Frag} {c : Addr} : KitT K c cNil := fun x b h => by cases h
theorem KitT.cons {K : PySem.W.Frag} {c : Addr} {y : Str} {b : Bool} {t : Str → Option Bool} (h : PySem.W.kitOne K (.ref (He.ga K y)) (.ref c) = some b) (hc : Cls K (He.ga K y)) (hi : Hf.Inst0 K (He.ga K y)) (r : KitT K c t) : KitT K c (cCons y b t) := fun x d e => by
  have e' : (if x = y then some b else t x) = some d := e
  by_cases q : x = y
  · rw [if_pos q] at e'
    cases e'
    rw [q]; exact ⟨h, hc, hi⟩
  · rw [if_neg q] at e'
    exact r x d e'
/-- the receiver is of the class and has no field of the method's name -/
def insR (c m : Str) (s : SO) (k : Prop) : Prop := match s with
  | .ins c' fs => c' = c ∧ fs.lookup m = none ∧ k
  | _ => False
def recvK (c m : Str) (y : TV) (S : DSt) (k : Prop) : Prop := match y with
  | .val (.obj c') => c' = c ∧ k
  | y => mutC S y fun s _ => insR c m s k
def recvX (c m : Str) (x : DV) (S : DSt) (k : Prop) : Prop := match x with
  | .obj c' => c' = c ∧ k
  | .ref p => onS (S.o p) fun s => insR c m s k
  | _ => False
def dRecvB (c m : Str) (dy : DE) (da : DB) : DB := fun S R E => dy S (fun y S1 => recvK c m y S1 (da S1 (fun ys S2 => R (y :: ys) S2) E)) E
def dRecvA (c m : Str) (dx : DX) (da : DA) : DA := fun S R E => dx S (fun x S1 => recvX c m x S1 (da S1 (fun xs S2 => R (x :: xs) S2) E)) E
def clsY (y : TV) (S : DSt) (k : Str → Prop) : Prop := match y with
  | .val (.obj c) => k c
  | y => mutC S y fun s _ => match s with
    | .ins c _ => k c
    | _ => False
def dIsC (t : Str → Option Bool) (d : DE) : DE := fun S Q E => d S (fun y S1 => clsY y S1 fun c => onS (t c) fun b => Q (.val (.bl b)) S1) E
def dNew0 (c : Str) : DX := fun S Q _ => Q (.obj c) S
section
variable {K : PySem.W.Frag} {F F' H H' F0 H0 : Hp} {σ σ' σ1 σ2 σ0 : L2.St} {S S' S1 S2 S0 : DSt} {F1 F2 H1 H2 : Hp} {p : Addr} {v : V} {W : WX}
theorem LX.new0 {c : Str} : LX K W (tNew0 (He.ga K c)) (dNew0 c) := fun F H σ S Q Qd Ed s hd k e => by
  intro x dx hx hdx ne
  have e1 : Same H (upd (upd H dx (.own x)) x (.ins (He.ga K c) dx [])) := fun b u q => by
    by_cases c1 : b = x
    · rw [c1, hx] at q; cases q
    · rw [upd_ne c1]
      by_cases c2 : b = dx
      · rw [c2, hdx] at q; cases q
      · rw [upd_ne c2]; exact q
  have a := Stp.grow s e1
  have b := frz_new a (s.ex.free hx) upd_same (fun z => by
    obtain ⟨_, o, h⟩ := s.ow_some z
    exact h.ne hx) (.inl hx)
  exact k _ (.obj c) _ _ _ b (.obj upd_same) hd
theorem flds_none {m : Str} : ∀ {vs : List (Str × V)} {fs : List (Str × DV)}, Rfs K F vs fs → fs.lookup m = none → vs.lookup m = none
  | _, _, .nil, _ => rfl
  | _, _, @Rfs.cons _ _ k v x vs xs h r, e => by
    rw [List.lookup_cons] at e ⊢
    split at e
    · cases e
    · exact flds_none r e
theorem recv_ok {c m : Str} {y : TV} {k : Prop} (a : Stp K F0 H0 σ0 S0 F H σ S) (t : TVr K F H σ S v y) (h : recvK c m y S k) : (∃ b dx fs, v = .ref b ∧ H b = some (.ins (He.ga K c) dx fs) ∧ fs.lookup m = none) ∧ k := by
  have via : mutC S y (fun s _ => insR c m s k) → (∃ b dx fs, v = .ref b ∧ H b = some (.ins (He.ga K c) dx fs) ∧ fs.lookup m = none) ∧ k := fun h => by
    obtain ⟨p, o, put, rfl, ho, h, _⟩ := mutC_ok a t h
    cases o with
    | ins c' fs =>
      obtain ⟨rfl, h1, h2⟩ := h
      obtain ⟨dx, vs, h3, h4⟩ := ho
      exact ⟨⟨p, dx, vs, rfl, h3, flds_none h4 h1⟩, h2⟩
    | _ => exact (show False from h).elim
  cases y with
  | val x =>
    cases x with
    | obj c' =>
      obtain ⟨rfl, h⟩ := h
      cases (show Rp K F v (.obj c') from t) with
      | obj e => exact ⟨⟨_, _, _, rfl, a.st.ex _ _ e, rfl⟩, h⟩
    | _ => exact via h
  | _ => exact via h
theorem recvX_ok {c m : Str} {x : DV} {k : Prop} (a : Stp K F0 H0 σ0 S0 F H σ S) (t : Rp K F v x) (h : recvX c m x S k) : (∃ b dx fs, v = .ref b ∧ H b = some (.ins (He.ga K c) dx fs) ∧ fs.lookup m = none) ∧ k := by
  cases x with
  | obj c' =>
    obtain ⟨rfl, h⟩ := h
    cases t with
    | obj e => exact ⟨⟨_, _, _, rfl, a.st.ex _ _ e, rfl⟩, h⟩
  | ref p =>
    cases t
    obtain ⟨o, e1, h⟩ := onS_ok (show onS (S.o p) _ from h)
    cases o with
    | ins c' fs =>
      obtain ⟨rfl, h1, h2⟩ := h
      obtain ⟨_, dx, vs, h3, h4⟩ := a.st.ob p _ e1
      exact ⟨⟨p, dx, vs, rfl, h3, flds_none h4 h1⟩, h2⟩
    | _ => exact (show False from h).elim
  | _ => exact (show False from h).elim
theorem LB.recv {c m : Str} {ta : TE} {tr : TA} {dy : DE} {db : DB} (ha : LE K W ta dy) (hb : LB K W tr db) : LB K W (tRecv (He.ga K c) m ta tr) (dRecvB c m dy db) := fun F H σ S Q Qd Ed s hd k e =>
  ha F H σ S _ _ Ed s hd (fun v y F1 H1 S1 a r1 n q => by
    obtain ⟨h1, q⟩ := recv_ok a r1 q
    exact ⟨h1, hb F1 H1 σ S1 _ _ Ed a.st q (fun vs ys F2 H2 S2 b r2 q => k (v :: vs) (y :: ys) F2 H2 S2 (a.trans b) (.cons (r1.step b) r2) q) (e.step a)⟩) e
theorem LA.recv {c m : Str} {ta : TE} {tr : TA} {dx : DX} {db : DA} (ha : LX K W ta dx) (hb : LA K W tr db) : LA K W (tRecv (He.ga K c) m ta tr) (dRecvA c m dx db) := fun F H σ S Q Qd Ed s hd k e =>
  ha F H σ S _ _ Ed s hd (fun v y F1 H1 S1 a r1 q => by
    obtain ⟨h1, q⟩ := recvX_ok a r1 q
    exact ⟨h1, hb F1 H1 σ S1 _ _ Ed a.st q (fun vs ys F2 H2 S2 b r2 q => k (v :: vs) (y :: ys) F2 H2 S2 (a.trans b) (.cons (r1.mono b.fx) r2) q) (e.step a)⟩) e
theorem LE.isC {c : Addr} {t : Str → Option Bool} {te : TE} {d : DE} (g : KitT K c t) (h : LE K W te d) : LE K W (tCB (rIsi K) (tCons te (tCons (tC (.ref c)) tNil))) (dIsC t d) := fun F H σ S Q Qd Ed s hd k e =>
  h F H σ S _ _ Ed s hd (fun v y F1 H1 S1 a r n q => by
    have fin : ∀ (b : Addr) (dx : Addr) (fs : List (Str × V)) (cn : Str), v = .ref b → H1 b = some (.ins (He.ga K cn) dx fs) → (onS (t cn) fun b => Qd (.val (.bl b)) S1) → tCons (tC (.ref c)) tNil σ H1 fun vs H2 => rIsi K (v :: vs) H2 Q := fun b dx fs cn ev hb q => by
      obtain ⟨bb, e1, q⟩ := onS_ok q
      obtain ⟨g1, g2, g3⟩ := g cn bb e1
      subst ev
      exact ⟨.ref b, .ref c, .ref (He.ga K cn), .ref c, bb, rfl, .own c, .base (.ins hb g2 g3.cl g3.gt g3.tk g3.top), g1, k _ (.val (.bl bb)) F1 H1 S1 a (Rp.bl bb) Nw.val q⟩
    have via : mutC S1 y (fun s _ => match s with
      | .ins c _ => onS (t c) fun b => Qd (.val (.bl b)) S1
      | _ => False) → tCons (tC (.ref c)) tNil σ H1 fun vs H2 => rIsi K (v :: vs) H2 Q := fun q => by
      obtain ⟨p, o, put, ev, ho, h, _⟩ := mutC_ok a r q
      cases o with
      | ins c' fs =>
        obtain ⟨dx, vs, h3, h4⟩ := ho
        exact fin p dx vs c' ev h3 h
      | _ => exact (show False from h).elim
    cases y with
    | val x =>
      cases x with
      | obj c' =>
        cases (show Rp K F1 v (.obj c') from r) with
        | obj e1 => exact fin _ _ _ c' rfl (a.st.ex _ _ e1) q
      | _ => exact via q
    | _ => exact via q) e
end
section
variable {c m : Str} {k : Prop} {S : DSt} {g : List (Option SV)} {o : OM} {p : Addr} {fs : List (Str × DV)} {dy d : DE} {dx : DX} {da : DA} {db : DB} {R : List TV → DSt → Prop} {RA : List DV → DSt → Prop} {E : DErr → DSt → Prop} {Q : TV → DSt → Prop} {QX : DV → DSt → Prop} {t : Str → Option Bool} {b : Bool} {kt : Bool → Prop} {ks : Str → Prop}
instance p_insR : Step (insR c m (.ins c fs) k) (fs.lookup m = none ∧ k) := ⟨fun h => ⟨rfl, h⟩⟩
instance p_insR0 : Step (insR c m (.ins c []) k) k := ⟨fun h => ⟨rfl, rfl, h⟩⟩
instance p_recvK_o : Step (recvK c m (.val (.obj c)) S k) k := ⟨fun h => ⟨rfl, h⟩⟩
instance p_recvK_r : Step (recvK c m (.rf p) ⟨g, o⟩ k) (onS (o p) fun s => insR c m s k) := ⟨fun h => h⟩
instance p_recvX_o : Step (recvX c m (.obj c) S k) k := ⟨fun h => ⟨rfl, h⟩⟩
instance p_recvX_r : Step (recvX c m (.ref p) ⟨g, o⟩ k) (onS (o p) fun s => insR c m s k) := ⟨fun h => h⟩
instance p_recvB : Step (dRecvB c m dy db S R E) (dy S (fun y S1 => recvK c m y S1 (db S1 (fun ys S2 => R (y :: ys) S2) E)) E) := ⟨fun h => h⟩
instance p_recvA : Step (dRecvA c m dx da S RA E) (dx S (fun x S1 => recvX c m x S1 (da S1 (fun xs S2 => RA (x :: xs) S2) E)) E) := ⟨fun h => h⟩
instance p_isC : Step (dIsC t d S Q E) (d S (fun y S1 => clsY y S1 fun c => onS (t c) fun b => Q (.val (.bl b)) S1) E) := ⟨fun h => h⟩
instance p_new0 : Step (dNew0 c S QX E) (QX (.obj c) S) := ⟨fun h => h⟩
instance p_clsY_o : Step (clsY (.val (.obj c)) S ks) (ks c) := ⟨fun h => h⟩
instance p_cCons_y : Step (onS (cCons c b t c) kt) (kt b) := ⟨fun h => by
  show onS (if c = c then some b else t c) kt
  rw [if_pos rfl]; exact h⟩
theorem cCons_skip {d : Str} (h : d ≠ c) (q : onS (t d) kt) : onS (cCons c b t d) kt := by
  show onS (if d = c then some b else t d) kt
  rw [if_neg h]; exact q
end
end L3

/-! L3w: list(reversed(xs)) (own rule). -/
namespace LRv
open PySem PySem.Spec PyProof.Rows L2
section
variable {prog : Program} {w : World} {A : Around} {E : Value → Shared → Prop} {s : Shared}
theorem extend_rev {R : Result → Shared → Prop} {it l : Addr} {items : Array Value} (hh : A.handled = none) (hit : s.heap.IsRevIter it l ((items.size : Int) - 1)) (hl : s.heap.IsList l items) (hne : l ≠ it) (hn : items.size ≤ sizeLine)
    (S : Addr) (res : Value) (c₀ : Nat) (hS : s.heap.get? S = some { cls := .type "list", data := .seq #[] c₀ }) (hSi : S ≠ it) (hSl : S ≠ l)
    (hR : ∀ h' tk acc' c', (∀ b o, b ≠ S → b ≠ it → s.heap.get? b = some o → h'.get? b = some o) → h'.get? S = some { cls := .type "list", dict := none, data := .seq acc' c', slots := #[] } →
      ItemsOf (fun i v => items[items.size - 1 - i]? = some v) acc' items.size → R (.ok (.ret res)) { s with heap := h', toks := tk }) :
    wpAny (model prog w) A.in1 (Builtin.List.listExtendWith (.ref S) (.ref it) res)
      (fun fin s' => match fin with | .done f => R (.ok f) s' | .again c' => c'.quiet = true ∧ codeAny (model prog w) A c' R s') (fun e s' => R (.error e) s') s := by
  have W := (Walks.listRev (prog := prog) (w := w) (A := A.in1) hh it l hne items).toS
  have hSf : S ∉ [it, l] := by simp only [List.mem_cons, List.not_mem_nil, or_false, not_or]; exact ⟨hSi, hSl⟩
  have hT : s.TypeIs (.ref it) "list_reverseiterator" := hit.typeIs
  have h1 : Builtin.List.listSameRef (.ref S) (.ref it) = false := by simp [Builtin.List.listSameRef, hSi]
  unfold Builtin.List.listExtendWith
  refine wpAny_bind (wpAny_typeOf hT ?_)
  rw [if_neg (by rw [h1]; decide)]
  refine wpAny_bind (wpAny_pyIter_revIter hit ?_)
  refine wpAny_bind (wpAny_holding ?_)
  unfold Builtin.List.listLengthHint
  refine wpAny_bind (wpAny_specialOf hT RT.nolen_lri ?_)
  show wpAny _ A.in1 (specialOf (Value.ref it) (Str.ofString "__length_hint__") >>= _) _ _ _
  refine wpAny_bind (wpAny_specialOf hT RT.hint_lri ?_)
  generalize hid : ("list_reverseiterator.__length_hint__" : String) = id0
  wp_delta
  rw [show splitId id0 = some ("list_reverseiterator", "__length_hint__") from by subst hid; decide +kernel]
  subst hid
  refine wpAny_bind (wpAny_isInstance (b := true) hT (by rw [isSubtype_type]; kernel_rfl) ?_)
  refine wpAny_pure ?_
  rw [if_neg (by decide)]
  have e0 : ((items.size : Nat) : Int) - 1 - ((0 : Nat) : Int) = (items.size : Int) - 1 := by omega
  refine wpAny_pure ⟨plainId_quiet F.plain_extend_loop _, codeAny_extend_loopS W hn S hSf res items.size 0 _ #[] c₀ rfl (Nat.zero_le _) ⟨Nat.zero_le _, by rw [e0]; exact hit, hl⟩ hS (ItemsOf.nil _) fun s' acc' c' hm hS' hacc => ?_⟩
  rw [Moved.eq_with hm]
  refine hR s'.heap s'.toks acc' c' (fun b o hb hb' e => hm.heap b o (fun hmem => ?_) e) hS' hacc
  rcases List.mem_cons.mp hmem with e' | hmem
  · exact hb e'
  · exact hb' (List.mem_singleton.mp hmem)
theorem init_rev {R : Result → Shared → Prop} {it l : Addr} {items : Array Value} (hh : A.handled = none) (hit : s.heap.IsRevIter it l ((items.size : Int) - 1)) (hl : s.heap.IsList l items) (hne : l ≠ it) (hn : items.size ≤ sizeLine)
    (S : Addr) (hS : s.heap.get? S = some { cls := .type "list", data := .seq #[] }) (hSi : S ≠ it) (hSl : S ≠ l)
    (hR : ∀ h' tk acc' c', (∀ b o, b ≠ S → b ≠ it → s.heap.get? b = some o → h'.get? b = some o) → h'.get? S = some { cls := .type "list", dict := none, data := .seq acc' c', slots := #[] } →
      ItemsOf (fun i v => items[items.size - 1 - i]? = some v) acc' items.size → R (.ok (.ret .none)) { s with heap := h', toks := tk }) :
    wpAny (model prog w) A.in1 (Builtin.«list.__init__» ⟨[.ref S, .ref it], []⟩)
      (fun fin s' => match fin with | .done f => R (.ok f) s' | .again c' => c'.quiet = true ∧ codeAny (model prog w) A c' R s') (fun e s' => R (.error e) s') s := by
  show wpAny _ A.in1 (do let old ← Builtin.List.listItems (.ref S); Builtin.List.listUpdate (.ref S) (fun _ => #[]); letGo old.toList.reverse; Builtin.List.listExtendWith (.ref S) (.ref it) .none) _ _ s
  refine wpAny_bind ?_
  unfold Builtin.List.listItems
  refine wpAny_bind (wpAny_seqItems hS rfl (wpAny_pure ?_))
  show wpAny _ A.in1 (updateSeq S (fun _ => #[]) >>= fun _ => letGo (#[] : Array Value).toList.reverse >>= fun _ => Builtin.List.listExtendWith (.ref S) (.ref it) .none) _ _ s
  refine wpAny_bind (wpAny_updateSeq hS rfl ?_)
  have hS₂ := Heap.get?_update_self (Obj.mapSeq (fun _ => (#[] : Array Value))) hS rfl
  have oth : ∀ b o, b ≠ S → s.heap.get? b = some o → (s.heap.update S (Obj.mapSeq (fun _ => (#[] : Array Value)))).get? b = some o :=
    fun b o hb e => (Heap.get?_update_other _ _ (Ne.symm hb)).trans e
  refine wpAny_bind (wpAny_letGo ?_)
  refine extend_rev (s := { s with heap := s.heap.update S (Obj.mapSeq (fun _ => (#[] : Array Value))) }) hh (hit.at fun o e => oth it o (Ne.symm hSi) e) (hl.at fun o e => oth l o (Ne.symm hSl) e) hne hn S .none _ hS₂ hSi hSl fun h' tk acc' c' hk hS' hacc => ?_
  exact hR h' tk acc' c' (fun b o hb hb' e => hk b o hb hb' (oth b o hb e)) hS' hacc
theorem call_list_rev {it l : Addr} {items : Array Value} {Q : Value → Shared → Prop} (hh : A.handled = none) (hit : s.heap.IsRevIter it l ((items.size : Int) - 1)) (hl : s.heap.IsList l items) (hne : l ≠ it) (hn : items.size ≤ sizeLine)
    (hQ : ∀ h' tk acc' c', (∀ b o, b ≠ it → s.heap.get? b = some o → h'.get? b = some o) → h'.get? s.heap.objs.size = some { cls := .type "list", dict := none, data := .seq acc' c', slots := #[] } →
      ItemsOf (fun i v => items[items.size - 1 - i]? = some v) acc' items.size → Q (.ref s.heap.objs.size) { s with heap := h', toks := tk }) :
    wpAny (model prog w) A (call (.type "list") [.ref it]) Q E s := by
  obtain ⟨oi, hoi, _⟩ := id hit
  obtain ⟨ol, hol, _⟩ := id hl
  refine callType_codes (Q₁ := fun obj s₁ => obj = .ref s.heap.objs.size ∧ s₁ = { s with heap := s.heap.push { cls := .type "list", data := .seq #[] } }) F.called_list (F.typeCall_list_1 _) F.entry_list_init
    (code_list_new _ ⟨rfl, rfl⟩) fun obj s₁ h₁ => ?_
  obtain ⟨rfl, rfl⟩ := h₁
  have hS : (s.heap.push { cls := .type "list", data := .seq #[] }).get? s.heap.objs.size = some { cls := .type "list", data := .seq #[] } := Heap.get?_push_size _ rfl
  refine ⟨⟨_, hS, rfl⟩, F.args_list_init_2 _ _, init_rev (s := { s with heap := s.heap.push { cls := .type "list", data := .seq #[] } }) (A := A.in1) hh (hit.at fun o e => Heap.get?_push_of_some _ e) (hl.push _) hne hn s.heap.objs.size hS (Nat.ne_of_gt (Heap.lt_size hoi)) (Nat.ne_of_gt (Heap.lt_size hol)) fun h' tk acc' c' hk hS' hacc => ?_⟩
  exact ⟨rfl, hQ h' tk acc' c' (fun b o hb e => hk b o (Nat.ne_of_lt (Heap.lt_size e)) hb (Heap.get?_push_of_some _ e)) hS' hacc⟩
end
/-- list(reversed(x)), x a list: a new list -/
def tLstRev (K : PySem.W.Frag) (te : TE) : TE := fun σ H Q => te σ H fun v H1 => ∃ (a : Addr) (xs : List V), v = .ref a ∧ SqL K H1 a xs ∧ ∀ q, H1 q = none → Q (.ref q) (upd H1 q (.lst xs.reverse))
section
variable {X : Cx}
theorem pe_listRev {e : Expr} {te : TE} {p p2 pos pos2 : Pos} (hc : X.calm = true) (hg : Gl X "list") (hm : X.mg "list" = none) (hg2 : Gl X "reversed") (hm2 : X.mg "reversed" = none) (he : PE X e te)
    (hs : starEach [e] X.env = (false, eval e X.env) :: starEach [] X.env := by rfl)
    (hs2 : starEach [.Call (.Name "reversed" p2) [e] [] pos2] X.env = (false, eval (.Call (.Name "reversed" p2) [e] [] pos2) X.env) :: starEach [] X.env := by rfl) :
    PE X (.Call (.Name "list" p) [.Call (.Name "reversed" p2) [e] [] pos2] [] pos) (tLstRev X.K te) := by
  refine ⟨fun pins s σ H Q I h => ?_⟩
  refine Call_ (ld_blt I hg hm boot_list (PyProof.Rows.callWith_type1 (args_cons (Call_ (ld_blt I hg2 hm2 PyProof.Rows.boot_reversed (PyProof.Rows.callWith_type1 (args_cons (thn (he.run pins s σ H _ I h) fun u s1 ⟨v, H1, I1, r1, q1⟩ => args_nil ?_) hs) hs rfl))) hs2) hs2 rfl))
  obtain ⟨a, xs, ev, hq, q⟩ := q1
  subst ev
  obtain rfl : u = Value.ref a := r1
  obtain ⟨its, rv, p', hz⟩ := I1.list hq
  refine call_reversed_list p'.isList (args_nil ?_)
  have k0 : ∀ b o, s1.heap.get? b = some o → (s1.heap.push (revObj a ((its.toArray.size : Int) - 1))).get? b = some o := fun b o e => Heap.get?_push_of_some _ e
  have I2 : Inv X pins σ H1 { s1 with heap := s1.heap.push (revObj a ((its.toArray.size : Int) - 1)) } := I1.kept (t' := s1.toks) k0
  have ff : FpOk X pins H1 s1.heap.objs.size := I1.fpOk (H' := H1) (b := s1.heap.objs.size) (Nat.le_refl _) (I1.hok.fresh (Nat.le_refl _))
  have hl := p'.isList
  obtain ⟨ol, hol, _⟩ := id hl
  have hne : a ≠ s1.heap.objs.size := Nat.ne_of_lt (Heap.lt_size hol)
  have hn : its.toArray.size ≤ sizeLine := by rw [List.size_toArray, ← rv.length]; exact hz
  refine call_list_rev (s := { s1 with heap := s1.heap.push (revObj a ((its.toArray.size : Int) - 1)) }) (I1.ok.hd hc) ⟨_, Heap.get?_push_size _ rfl, rfl, rfl⟩ (hl.push _) hne hn fun h' tk acc c' hk e' hi => ?_
  have hsz : (s1.heap.push (revObj a ((its.toArray.size : Int) - 1))).objs.size = s1.heap.objs.size + 1 := Heap.size_push ..
  have h0 : H1 (s1.heap.push (revObj a ((its.toArray.size : Int) - 1))).objs.size = none := I2.hok.fresh (Nat.le_refl _)
  refine ⟨.ref (s1.heap.push (revObj a ((its.toArray.size : Int) - 1))).objs.size, upd H1 (s1.heap.push (revObj a ((its.toArray.size : Int) - 1))).objs.size (.lst xs.reverse), ?_, rfl, q _ h0⟩
  refine I2.turnedNew (ch := [s1.heap.objs.size]) (t' := tk) (fun b o hb e => hk b o (fun z => hb (by rw [z]; exact List.mem_singleton.mpr rfl)) e) (fun b hb => ?_) (Nat.le_refl _) (show ObjOk X.prog X.w _ _ _ (.lst xs.reverse) from ⟨by rw [List.length_reverse]; exact hz, acc.toList, c', RT.vals_rev rv hi, ?_⟩)
  · have e : b = s1.heap.objs.size := List.mem_singleton.mp hb
    subst e
    exact ff
  · rw [Array.toArray_toList]; exact e'
end
end LRv
namespace L3
open PySem PySem.Spec PyProof.Rows L2
section
variable {K : PySem.W.Frag} {W : WX}
def dLstRev (da : DE) : DE := fun S Q Ed => da S (fun y S1 => onS ((tree S1 y).bind seqL) fun xs => Q (.own (.lst xs.reverse)) S1) Ed
theorem LE.listRev {ta : TE} {da : DE} (ha : LE K W ta da) : LE K W (LRv.tLstRev K ta) (dLstRev da) := fun F H σ S Q Qd Ed s hd k e =>
  ha F H σ S _ _ Ed s hd (fun v y F1 H1 S1 a r n q => by
    obtain ⟨xs, e0, q⟩ := onS_ok q
    obtain ⟨x, e1, e2⟩ := Option.bind_eq_some_iff.mp e0
    obtain ⟨p, vs, rfl, h1, h2⟩ := (tree_ok a.st r e1).sq a.st.ex e2
    exact ⟨p, vs, rfl, h1, fun q' hq => (res_of (z := .own (.lst xs.reverse)) (Q := Q) a.st (.inr (.inl ⟨_, rfl⟩)) q fun v' y' F' H' S' b r' n' q2 => k v' y' F' H' S' (a.trans b) r' (n'.back a) q2).newL a.st.ex hq h2.reverse⟩) e
section
variable {S : DSt} {d : DE} {E : DErr → DSt → Prop} {Q : TV → DSt → Prop}
instance p_listRev : Step (dLstRev d S Q E) (d S (fun y S1 => onS (tree S1 y) fun x => onS (seqL x) fun xs => Q (.own (.lst xs.reverse)) S1) E) := ⟨fun h => by
  have e : (fun y S1 => onS ((tree S1 y).bind seqL) fun xs => Q (.own (.lst xs.reverse)) S1) = fun y S1 => onS (tree S1 y) fun x => onS (seqL x) fun xs => Q (.own (.lst xs.reverse)) S1 := by
    funext y S1
    cases tree S1 y with
    | none => rfl
    | some x => rfl
  show d S _ E
  rw [e]; exact h⟩
end
end
end L3

/-! L3x: range(a, b, -1); a method of one of several classes. -/
namespace L3
open PySem PySem.Spec PyProof.Rows L2
section
variable {K : PySem.W.Frag} {W : WX} {F : Hp}
theorem rngC_len {lo c : Int} {n : Nat} : (rngC lo c n).length = n := by unfold rngC; rw [List.length_map, List.length_range]
theorem rngC_at {lo c : Int} {n i : Nat} {x : DV} (h : (rngC lo c n)[i]? = some x) : i < n ∧ x = .int (lo + (i : Int) * c) := by
  have hl := (List.getElem?_eq_some_iff.mp h).1
  rw [rngC_len] at hl
  refine ⟨hl, ?_⟩
  unfold rngC at h
  rw [List.getElem?_map, List.getElem?_range hl] at h
  cases h; rfl
theorem wk_rangeC {lo c : Int} {n : Nat} : Wk K F (Itc lo c n) (rngC lo c n) := fun F2 H2 σ2 S2 s2 f2 i => by
  refine ⟨fun hi => ?_, fun x hx => ?_⟩
  · rw [rngC_len] at hi; exact Nat.le_of_eq hi.symm
  · obtain ⟨h1, rfl⟩ := rngC_at hx
    refine ⟨h1, fun v H3 hy => ?_⟩
    obtain ⟨e1, e2⟩ := hy
    subst e1 e2
    exact ⟨F2, Stp.refl s2, .int _⟩
theorem LI.range3 {t t' t2 : TE} {d d' d2 : DE} (h : LE K W t d) (h' : LE K W t' d') (h2 : LE K W t2 d2) : LI K W (iRng3 (tCons t (tCons t' (tCons t2 tNil)))) (iR3 d d' d2) := fun F H σ S R Qd Ed s hd k e =>
  h F H σ S _ _ Ed s hd (fun v y F1 H1 S1 a r n q => h' F1 H1 σ S1 _ _ Ed a.st q (fun v' y' F2 H2 S2 b r' n' q => h2 F2 H2 σ S2 _ _ Ed b.st q (fun v2 y2 F3 H3 S3 c r2 n2 q => by
    obtain ⟨i, ei, q⟩ := intK_ok q
    obtain ⟨j, ej, q⟩ := intK_ok q
    obtain ⟨cc, ec, ⟨e1, h1, h2⟩, q3⟩ := intK_ok q
    subst ei
    subst ej
    subst ec
    subst e1
    cases (show Rp K F1 v (.int i) from r)
    cases (show Rp K F2 v' (.int j) from r')
    cases (show Rp K F3 v2 (.int (-1)) from r2)
    exact ⟨i, j, -1, _, rfl, RgC.neg h1.1 h1.2 h2.1 h2.2, k _ _ F3 H3 S3 ((a.trans b).trans c) wk_rangeC q3⟩) ((e.step a).step b)) (e.step a)) e
/-- o.m(..), o of one of two classes or more -/
def tAlt (t t' : TE) : TE := fun σ H Q => t σ H Q ∨ t' σ H Q
theorem pe_alt {X : Cx} {e : Expr} {t t' : TE} (h : PE X e t) (h' : PE X e t') : PE X e (tAlt t t') := ⟨fun pins s σ H Q I q => q.elim (h.run pins s σ H Q I) (h'.run pins s σ H Q I)⟩
def insC (so : SO) (k : Str → Prop) : Prop := match so with
  | .ins c _ => k c
  | _ => False
def clsV (s : SV) (o : OM) (k : Str → Prop) : Prop := match s with
  | .val (.obj c) => k c
  | .val (.ref a) => onS (o a) fun so => insC so k
  | .rf a => onS (o a) fun so => insC so k
  | _ => False
theorem clsV_any {s : SV} {o : OM} {k : Str → Prop} (h : clsV s o k) : ∃ c, k c := by
  have via : ∀ a, (onS (o a) fun so => insC so k) → ∃ c, k c := fun a h => by
    obtain ⟨so, _, h⟩ := onS_ok h
    cases so with
    | ins c _ => exact ⟨c, h⟩
    | _ => exact (show False from h).elim
  cases s with
  | val x =>
    cases x with
    | obj c => exact ⟨c, h⟩
    | ref a => exact via a h
    | _ => exact (show False from h).elim
  | rf a => exact via a h
  | _ => exact (show False from h).elim
def clsIf (c c' : Str) (A B : Prop) : Prop := if c' = c then A else B
def dAlt (i : Nat) (c : Str) (d d' : DE) : DE := fun S Q E => gx i S.g fun s => clsV s S.o fun c' => clsIf c c' (d S Q E) (d' S Q E)
theorem LE.alt {i : Nat} {c : Str} {t t' : TE} {d d' : DE} (h : LE K W t d) (h' : LE K W t' d') : LE K W (tAlt t t') (dAlt i c d d') := fun F H σ S Q Qd Ed s hd k e => by
  have h0 : gx i S.g fun s => clsV s S.o fun c' => clsIf c c' (d S Qd Ed) (d' S Qd Ed) := hd
  rw [gx_eq] at h0
  split at h0
  · obtain ⟨c', h1⟩ := clsV_any h0
    unfold clsIf at h1
    split at h1
    · exact .inl (h F H σ S Q Qd Ed s h1 k e)
    · exact .inr (h' F H σ S Q Qd Ed s h1 k e)
  · exact h0.elim
section
variable {S : DSt} {g : List (Option SV)} {o : OM} {i : Nat} {c c' : Str} {a : Addr} {fs : List (Str × DV)} {d d' d2 : DE} {E : DErr → DSt → Prop} {Q : TV → DSt → Prop} {QI : List DV → DSt → Prop} {k : Str → Prop} {A B : Prop}
instance p_alt : Step (dAlt i c d d' ⟨g, o⟩ Q E) (gx i g fun s => clsV s o fun c' => clsIf c c' (d ⟨g, o⟩ Q E) (d' ⟨g, o⟩ Q E)) := ⟨fun h => h⟩
instance p_clsV_o : Step (clsV (.val (.obj c)) o k) (k c) := ⟨fun h => h⟩
instance p_clsV_a : Step (clsV (.val (.ref a)) o k) (onS (o a) fun so => insC so k) := ⟨fun h => h⟩
instance p_clsV_r : Step (clsV (.rf a) o k) (onS (o a) fun so => insC so k) := ⟨fun h => h⟩
instance p_insC : Step (insC (.ins c fs) k) (k c) := ⟨fun h => h⟩
instance p_clsIf : Step (clsIf c c A B) A := ⟨fun h => by unfold clsIf; rw [if_pos rfl]; exact h⟩
theorem clsIf_no (h : c' ≠ c) (q : B) : clsIf c c' A B := by unfold clsIf; rw [if_neg h]; exact q
instance p_iR3 : Step (iR3 d d' d2 S QI E) (d S (fun y S1 => d' S1 (fun y' S2 => d2 S2 (fun y2 S3 => intK y fun i => intK y' fun j => intK y2 fun c => (c = -1 ∧ small62 i ∧ small62 j) ∧ QI (rngC i (-1) (i - j).toNat) S3) E) E) E) := ⟨fun h => h⟩
end
end
end L3

/-! L3y: fields of objects; C(..) with __init__. -/
namespace L3
open PySem PySem.Spec PyProof.Rows L2
section
variable {X : Cx} {CX : CXT} {k j : Nat} {f C : Addr} {fd : FuncData} {ps : List Str} {sp : Sp} {E : L2.St → XK} {c x m : Str} {p pos apos : Pos} {e o : Expr} {es : List Expr} {ta : TE} {t : TA} {W : WX}
/-- C(..), C with an __init__ -/
def tMakeS (C : Addr) (sp : Sp) (E : L2.St → XK) (t : TA) : TE := fun σ H Q => t σ H fun vs H1 => ∀ x dx, H1 x = none → H1 dx = none → dx ≠ x →
  sp (.ref x :: vs) (upd (upd H1 dx (.own x)) x (.ins C dx [])) (fun v H2 => v = .non ∧ Q (.ref x) H2) (E σ)
theorem run_makeS {pins : List (Addr × Obj)} {σ : L2.St} {H : Hp} {s : Shared} {Q : VK} {us : List Value} {vs : List V} (M : Mk X.K C f) (F : FnOk X.prog X.w X.K X.mg X.base CX k f fd ps sp) (hr : Room (k + 1) X.A) (hb : Binds X.K fd ps [])
    (hx : PassesAt CX X σ (E σ)) (I : Inv X pins σ H s) (r : Vals vs us)
    (h : ∀ x dx, H x = none → H dx = none → dx ≠ x → sp (.ref x :: vs) (upd (upd H dx (.own x)) x (.ins C dx [])) (fun v H2 => v = .non ∧ Q (.ref x) H2) (E σ)) :
    wpAny (model X.prog X.w) X.A (call (.ref C) us) (EP X pins σ Q) X.xe s := by
  have hq := h (s.heap.objs.size + 1) s.heap.objs.size (I.hok.fresh (Nat.le_succ _)) (I.hok.fresh (Nat.le_refl _)) (Nat.ne_of_lt (Nat.lt_succ_self _))
  have I2 := Inv.made (C := C) I
  have r2 : Vals (V.ref (s.heap.objs.size + 1) :: vs) (Value.ref (s.heap.objs.size + 1) :: us) := .cons rfl r
  have hl : (Value.ref (s.heap.objs.size + 1) :: us).length = ps.length := by
    have e := r2.length
    rw [F.len _ _ _ _ hq] at e
    exact e.symm
  have b := hb _ (Value.ref (s.heap.objs.size + 1) :: us) I2.kIn (by rw [List.append_nil]; exact hl)
  rw [List.append_nil] at b
  refine wpAny_call (make_map (f := f) I.kIn M.makes M.init (beq_iff_eq.mp M.fn) (codeAny_mono (F.run _ X.stack _ _ ⟨Value.ref (s.heap.objs.size + 1) :: us, []⟩ (Value.ref (s.heap.objs.size + 1) :: us) _ _ (E σ) (hr.make C us [])
    (I2.env0.make C us []) b r2 hq) fun r s' hq' => ?_))
  cases r with
  | error e => exact hx pins _ _ e s' I2 hq'
  | ok fl =>
    cases fl with
    | ret u =>
      obtain ⟨v, H', I3, rv, ev, q3⟩ := I2.after hq'
      subst ev
      exact ⟨rv, ⟨V.ref (s.heap.objs.size + 1), H', I3, rfl, q3⟩⟩
    | next => exact False.elim hq'
    | brk => exact False.elim hq'
    | cont => exact False.elim hq'
end
/-- a class that is called -/
structure CalI (P : Program) (w : World) (K : PySem.W.Frag) (mg : Str → Option Value) (base : Heap) (k : Nat) (c : Str) (ps : List Str) (sp : Sp) : Prop where
  ex : ∃ fd, FnOk P w K mg base (L2.CX P w) k (He.ma K (He.ga K c) "__init__") fd ps sp ∧ Binds K fd ps []
  mkr : Mk K (He.ga K c) (He.ma K (He.ga K c) "__init__")
  g : mg c = some (.ref (He.ga K c))
section
variable {X : Cx} {W : WX} {k j : Nat} {c : Str} {ps : List Str} {sp : Sp} {e : Expr} {es : List Expr} {t : TA} {p pos : Pos}
theorem pe_init (c' : CalI X.prog X.w X.K X.mg X.base k c ps sp) (hr : Room j X.A) (tk : Takes X W) (ha : PA X (e :: es) t) (hk : k + 1 ≤ j := by first | decide | omega) (hg : Gl X c := by rfl) (hdb : (c == ("__debug__" : Str)) = false := by decide)
    (he : starEach (e :: es) X.env = (false, eval e X.env) :: starEach es X.env := by rfl) (hpl : (backTo pos (starEach es X.env)).any (·.1) = false := by rfl) :
    PE X (.Call (.Name c p) (e :: es) [] pos) (tMakeS (He.ga X.K c) sp (WE W) t) := by
  obtain ⟨fd, F, b⟩ := c'.ex
  refine ⟨fun pins s σ H Q I h => ?_⟩
  refine wpAny_Call_Name_kw (ld_glob I hg c'.g ?_ hdb)
  refine PySem.W.callWith_K (h₀ := X.base) I.ok.mod.kin c'.mkr.kp (thn (ha.run pos pins s σ H _ I h) fun us s1 ⟨vs, H1, I1, r, q⟩ => ⟨I1.kIn, ?_⟩) he hpl
  exact run_makeS c'.mkr F (hr.mono hk) b (passAt tk σ) I1 r q
theorem pe_init0 (c' : CalI X.prog X.w X.K X.mg X.base k c ps sp) (hr : Room j X.A) (tk : Takes X W) (hk : k + 1 ≤ j := by first | decide | omega) (hg : Gl X c := by rfl) (hdb : (c == ("__debug__" : Str)) = false := by decide) :
    PE X (.Call (.Name c p) [] [] pos) (tMakeS (He.ga X.K c) sp (WE W) tNil) := by
  obtain ⟨fd, F, b⟩ := c'.ex
  refine ⟨fun pins s σ H Q I h => ?_⟩
  refine wpAny_Call_Name_kw (ld_glob I hg c'.g ?_ hdb)
  exact PySem.W.callWith_K0 I.kIn c'.mkr.kp (run_makeS (us := []) c'.mkr F (hr.mono hk) b (passAt tk σ) I .nil h)
end
/-! ### lifts -/
/-- unlike names -/
class NeS (a b : Str) : Prop where
  ne : a ≠ b
instance ne_lm : NeS "labels" "marks" := ⟨by decide⟩
instance ne_ml : NeS "marks" "labels" := ⟨by decide⟩
instance ne_FB : NeS "First" "Busy" := ⟨by decide⟩
instance ne_FR : NeS "First" "Rare" := ⟨by decide⟩
instance ne_FO : NeS "First" "Other" := ⟨by decide⟩
instance ne_BF : NeS "Busy" "First" := ⟨by decide⟩
instance ne_BR : NeS "Busy" "Rare" := ⟨by decide⟩
instance ne_BO : NeS "Busy" "Other" := ⟨by decide⟩
instance ne_RF : NeS "Rare" "First" := ⟨by decide⟩
instance ne_RB : NeS "Rare" "Busy" := ⟨by decide⟩
instance ne_RO : NeS "Rare" "Other" := ⟨by decide⟩
instance ne_OF : NeS "Other" "First" := ⟨by decide⟩
instance ne_OB : NeS "Other" "Busy" := ⟨by decide⟩
instance ne_OR : NeS "Other" "Rare" := ⟨by decide⟩
instance ne_FH : NeS "First" "Halves" := ⟨by decide⟩
instance ne_BH : NeS "Busy" "Halves" := ⟨by decide⟩
instance ne_RH : NeS "Rare" "Halves" := ⟨by decide⟩
instance ne_OH : NeS "Other" "Halves" := ⟨by decide⟩
instance ne_HF : NeS "Halves" "First" := ⟨by decide⟩
instance ne_HO : NeS "Halves" "Other" := ⟨by decide⟩
def dMake (c : Str) (gs : GSp) (da : DA) : DE := fun S Q Ed => da S (fun xs S1 => ∀ p, S1.o p = none → gs (.ref p :: xs) (updO S1.o p (.ins c [])) (fun y O' => y = .val .non ∧ Q (.rf p) ⟨S1.g, O'⟩) (fun e O' => Ed e ⟨S1.g, O'⟩)) Ed
def asFl (x : DV) : TV := match x with
  | .ref a => .rf a
  | x => .val x
def flK (x : DV) (k : TV → Prop) : Prop := k (asFl x)
def fldS (c f : Str) (s : SO) (k : DV → Prop) : Prop := match s with
  | .ins c' fs => c' = c ∧ onS (fs.lookup f) k
  | _ => False
def dFld (c f : Str) (d : DE) : DE := fun S Q E => d S (fun y S1 => mutC S1 y fun s _ => fldS c f s fun x => Q (asFl x) S1) E
def putFl (f : Str) (v : DV) : List (Str × DV) → List (Str × DV)
  | [] => [(f, v)]
  | (g, x) :: r => if g = f then (g, v) :: r else (g, x) :: putFl f v r
def putFk (f : Str) (x : DV) : List (Str × DV) → (List (Str × DV) → Prop) → Prop
  | [], k => k [(f, x)]
  | (g, y) :: r, k => if g = f then k ((g, x) :: r) else putFk f x r fun r' => k ((g, y) :: r')
theorem putFk_ok {f : Str} {x : DV} : ∀ {fs : List (Str × DV)} {k : List (Str × DV) → Prop}, putFk f x fs k → k (putFl f x fs)
  | [], k, h => h
  | (g, y) :: r, k, h => by
    show k (if g = f then _ else _)
    have h' : (if g = f then k ((g, x) :: r) else putFk f x r fun r' => k ((g, y) :: r')) := h
    by_cases q : g = f
    · rw [if_pos q] at h' ⊢; exact h'
    · rw [if_neg q] at h' ⊢; exact putFk_ok h'
def setS (c f : Str) (x : DV) (s : SO) (k : SO → Prop) : Prop := match s with
  | .ins c' fs => c' = c ∧ fs.length < 1000 ∧ putFk f x fs fun fs' => k (.ins c fs')
  | _ => False
def dSetFld (c f : Str) (dv : DX) (dy : DE) : DS := fun S D => dv S (fun x S1 => dy S1 (fun y S2 => mutC S2 y fun s put => setS c f x s fun s' => D.nx (put s')) D.ex) D.ex
section
variable {K : PySem.W.Frag} {F F' H H' F0 H0 : Hp} {σ σ' σ1 σ2 σ0 : L2.St} {S S' S1 S2 S0 : DSt} {F1 F2 H1 H2 : Hp} {p : Addr} {v : V} {W : WX}
theorem flds_some {m : Str} {x : DV} : ∀ {vs : List (Str × V)} {fs : List (Str × DV)}, Rfs K F vs fs → fs.lookup m = some x → ∃ v, vs.lookup m = some v ∧ Rp K F v x
  | _, _, .nil, e => by cases e
  | _, _, @Rfs.cons _ _ k v y vs xs h r, e => by
    rw [List.lookup_cons] at e
    rw [List.lookup_cons]
    split at e
    · cases e
      exact ⟨v, rfl, h⟩
    · exact flds_some r e
theorem Rfs.put {f : Str} {v : V} {x : DV} (h : Rp K F v x) : ∀ {vs : List (Str × V)} {fs : List (Str × DV)}, Rfs K F vs fs → Rfs K F (putF f v vs) (putFl f x fs)
  | _, _, .nil => .cons h .nil
  | _, _, @Rfs.cons _ _ k v' y vs xs h' r => by
    show Rfs K F (if k = f then _ else _) (if k = f then _ else _)
    by_cases q : k = f
    · rw [if_pos q, if_pos q]; exact .cons h r
    · rw [if_neg q, if_neg q]; exact .cons h' (Rfs.put h r)
theorem Rfs.len : ∀ {vs : List (Str × V)} {fs : List (Str × DV)}, Rfs K F vs fs → vs.length = fs.length
  | _, _, .nil => rfl
  | _, _, .cons _ r => congrArg Nat.succ (Rfs.len r)
theorem LE.fld {c f : Str} {te : TE} {d : DE} (hc : Cls K (He.ga K c)) (hn : NoAttr K (He.ga K c) f) (h : LE K W te d) : LE K W (tFld K te f) (dFld c f d) := fun F H σ S Q Qd Ed s hd k e =>
  h F H σ S _ _ Ed s hd (fun v y F1 H1 S1 a r n q => by
    obtain ⟨p, o, put, rfl, ho, h, _⟩ := mutC_ok a r q
    cases o with
    | ins c' fs =>
      obtain ⟨rfl, h⟩ := h
      obtain ⟨x, e1, h⟩ := onS_ok h
      obtain ⟨dx, vs, h3, h4⟩ := ho
      obtain ⟨u, e2, ru⟩ := flds_some h4 e1
      refine ⟨p, _, dx, vs, u, rfl, h3, hc, hn, e2, k u (asFl x) F1 H1 S1 a ?_ ?_ h⟩
      · cases x with
        | ref b => cases ru; rfl
        | _ => exact ru
      · cases x <;> first | exact Nw.rf | exact Nw.val
    | _ => exact (show False from h).elim) e
theorem LS.fld {c f : Str} {tv te : TE} {dv : DX} {dy : DE} (hc : Cls K (He.ga K c)) (hn : NoAttr K (He.ga K c) f) (hv : LX K W tv dv) (hy : LE K W te dy) : LS K W (sFld K te tv f) (dSetFld c f dv dy) := fun F H σ S D Dd s hd k =>
  hv F H σ S _ _ _ s hd (fun v x F1 H1 S1 a r1 q => hy F1 H1 σ S1 _ _ _ a.st q (fun w y F2 H2 S2 b r2 n q => by
    have ab := a.trans b
    obtain ⟨p, o, put, rfl, ho, h, hp⟩ := mutC_ok ab r2 q
    cases o with
    | ins c' fs =>
      obtain ⟨rfl, hl, h⟩ := h
      have h := putFk_ok h
      obtain ⟨dx, vs, h3, h4⟩ := ho
      refine ⟨p, _, dx, vs, rfl, h3, hc, hn, by rw [h4.len]; exact hl, ?_⟩
      exact k.nx F2 _ σ _ (hp _ (.ins c' (putFl f x fs)) upd_off ⟨dx, _, upd_same, h4.put (r1.mono b.fx)⟩) h
    | _ => exact (show False from h).elim) (k.ex.step a)) k.ex
theorem LE.make {c : Str} {gs : GSp} {ta : TA} {da : DA} (ha : LA K W ta da) : LE K W (tMakeS (He.ga K c) (liftG K gs) (WE W) ta) (dMake c gs da) := fun F H σ S Q Qd Ed s hd k e =>
  ha F H σ S _ _ Ed s hd (fun vs xs F1 H1 S1 a r1 q => by
    intro x dx hx hdx ne
    have e1 : Same H1 (upd (upd H1 dx (.own x)) x (.ins (He.ga K c) dx [])) := fun b u q => by
      by_cases c1 : b = x
      · rw [c1, hx] at q; cases q
      · rw [upd_ne c1]
        by_cases c2 : b = dx
        · rw [c2, hdx] at q; cases q
        · rw [upd_ne c2]; exact q
    have nx : ¬ ow σ S1 x := fun z => by
      obtain ⟨_, o, h⟩ := a.st.ow_some z
      exact h.ne hx
    have ox : S1.o x = none := by
      cases z : S1.o x with
      | none => rfl
      | some so => exact absurd (.inr (by rw [z]; exact fun y => by cases y)) nx
    have a2 := a.trans (Stp.grow a.st e1)
    have hw : H x = none ∨ ow σ S x := a.newb (.inl hx)
    have am := to_map (o := .ins c []) a2 (a.st.ex.free hx) ⟨dx, [], upd_same, .nil⟩ nx hw
    refine ⟨F1, updO S1.o x (.ins c []), .ref x :: xs, _, _, am.st.bare, .cons (.ref x) r1, q x ox, fun y O' hy v F' H' b tv n => ?_, fun err O' he cls dd F' H' b er nd => ?_⟩
    · obtain ⟨rfl, hy⟩ := hy
      cases (show Rp K F' v .non from tv)
      exact ⟨rfl, k (.ref x) (.rf x) F' H' _ (am.trans (Stp.frame am.st b)) rfl Nw.rf hy⟩
    · exact (e.step am) cls dd err F' H' σ _ (Stp.frame am.st b) er (fun d hd => (nd d hd).imp id fun z => .inr z) he) e
end
section
variable {S : DSt} {g : List (Option SV)} {o : OM} {c f : Str} {a : Addr} {fs : List (Str × DV)} {x : DV} {b : Bool} {i : Int} {xs : List DV} {d dy : DE} {dv : DX} {da : DA} {gs : GSp} {E : DErr → DSt → Prop} {Q : TV → DSt → Prop} {k : DV → Prop} {ks : SO → Prop} {kt : TV → Prop} {D : DEnds}
instance p_fld : Step (dFld c f d S Q E) (d S (fun y S1 => mutC S1 y fun s _ => fldS c f s fun x => flK x fun z => Q z S1) E) := ⟨fun h => h⟩
instance p_fl_r : Step (flK (.ref a) kt) (kt (.rf a)) := ⟨fun h => h⟩
instance p_fl_i : Step (flK (.int i) kt) (kt (.val (.int i))) := ⟨fun h => h⟩
instance p_fl_b : Step (flK (.bl b) kt) (kt (.val (.bl b))) := ⟨fun h => h⟩
instance p_fl_n : Step (flK .non kt) (kt (.val .non)) := ⟨fun h => h⟩
instance p_fl_s : Step (flK (.str f) kt) (kt (.val (.str f))) := ⟨fun h => h⟩
instance p_fl_l : Step (flK (.lst xs) kt) (kt (.val (.lst xs))) := ⟨fun h => h⟩
instance p_fl_t : Step (flK (.tup xs) kt) (kt (.val (.tup xs))) := ⟨fun h => h⟩
instance p_fl_o : Step (flK (.obj f) kt) (kt (.val (.obj f))) := ⟨fun h => h⟩
instance p_fldS : Step (fldS c f (.ins c fs) k) (onS (fs.lookup f) k) := ⟨fun h => ⟨rfl, h⟩⟩
instance p_lk_y : Step (onS (List.lookup f ((f, x) :: fs)) k) (k x) := ⟨fun h => by rw [List.lookup_cons, beq_self_eq_true]; exact h⟩
instance p_setFld : Step (dSetFld c f dv dy S D) (dv S (fun x S1 => dy S1 (fun y S2 => mutC S2 y fun s put => setS c f x s fun s' => D.nx (put s')) D.ex) D.ex) := ⟨fun h => h⟩
instance p_lk_n [h : NeS f c] : Step (onS (List.lookup f ((c, x) :: fs)) k) (onS (List.lookup f fs) k) := ⟨fun q => by
  rw [List.lookup_cons]
  have e : (f == c) = false := beq_eq_false_iff_ne.mpr h.ne
  rw [e]; exact q⟩
instance p_setS : Step (setS c f x (.ins c fs) ks) (fs.length < 1000 ∧ putFk f x fs fun fs' => ks (.ins c fs')) := ⟨fun h => ⟨rfl, h⟩⟩
instance p_putFk_0 {kf : List (Str × DV) → Prop} : Step (putFk f x [] kf) (kf [(f, x)]) := ⟨fun h => h⟩
instance p_putFk_y {kf : List (Str × DV) → Prop} {y : DV} : Step (putFk f x ((f, y) :: fs) kf) (kf ((f, x) :: fs)) := ⟨fun h => by
  show (if f = f then _ else _)
  rw [if_pos rfl]; exact h⟩
instance p_putFk_n {kf : List (Str × DV) → Prop} {y : DV} [h : NeS c f] : Step (putFk f x ((c, y) :: fs) kf) (putFk f x fs fun r => kf ((c, y) :: r)) := ⟨fun q => by
  show (if c = f then _ else _)
  rw [if_neg h.ne]; exact q⟩
instance p_clsIf_n {A B : Prop} [h : NeS f c] : Step (clsIf c f A B) B := ⟨fun q => clsIf_no h.ne q⟩
instance p_cCons_n {t : Str → Option Bool} {kt : Bool → Prop} [h : NeS f c] : Step (onS (cCons c b t f) kt) (onS (t f) kt) := ⟨fun q => cCons_skip h.ne q⟩
instance p_make : Step (dMake c gs da S Q E) (da S (fun xs S1 => ∀ p, S1.o p = none → gs (.ref p :: xs) (updO S1.o p (.ins c [])) (fun y O' => y = .val .non ∧ Q (.rf p) ⟨S1.g, O'⟩) (fun e O' => E e ⟨S1.g, O'⟩)) E) := ⟨fun h => h⟩
end
end L3

/-! L3z: d.setdefault(k, x), d.get(k, x). -/
namespace L3
open PySem PySem.Spec PyProof.Rows L2
def isDicS (s : SO) : Prop := match s with
  | .dic _ => True
  | _ => False
/-- found, or put -/
def sdK (kvs : List (Key × DV)) (k : Key) (h1 : DV → Prop) (h2 : Prop) : Prop := match valD kvs k with
  | some z => h1 z
  | none => h2
def dSetd (dd dy : DE) (dv : DX) : DE := fun S Q Ed => dd S (fun y S1 => (mutC S1 y fun s _ => isDicS s) ∧ dy S1 (fun i S2 => dv S2 (fun x S3 => keyK i fun k => mutC S3 y fun o put => dicK o fun kvs => kvs.length < sizeLine ∧ sdK kvs k (fun z => Q (asFl z) S3) (Q (asFl x) (put (.dic (putD kvs k x))))) Ed) Ed) Ed
def dDGet2 (dd dy : DE) (dx : DX) : DE := fun S Q Ed => dd S (fun y S1 => onS (tree S1 y) fun x0 => onS (dicL x0) fun _ => dy S1 (fun i S2 => dx S2 (fun z S3 => onS (tree S3 y) fun x => onS (dicL x) fun kvs => keyK i fun k => Q (.val ((valD kvs k).getD z)) S3) Ed) Ed) Ed
section
variable {K : PySem.W.Frag} {F F' H H' F0 H0 : Hp} {σ σ' σ1 σ2 σ0 : L2.St} {S S' S1 S2 S0 : DSt} {F1 F2 H1 H2 : Hp} {p : Addr} {v : V} {W : WX}
theorem asFl_ok {x : DV} (r : Rp K F v x) : TVr K F H σ S v (asFl x) ∧ Nw H0 σ0 S0 v (asFl x) := by
  cases x with
  | ref b => cases r; exact ⟨rfl, Nw.rf⟩
  | _ => exact ⟨r, Nw.val⟩
theorem LE.setd {td ty tx : TE} {dd dy : DE} {dv : DX} (hd' : LE K W td dd) (hy : LE K W ty dy) (hv : LX K W tx dv) : LE K W (tDSetd td ty tx) (dSetd dd dy dv) := fun F H σ S Q Qd Ed s hd k e =>
  hd' F H σ S _ _ Ed s hd (fun w y F1 H1 S1 a r1 n1 ⟨q0, q⟩ => by
    obtain ⟨p, o0, put0, rfl, ho0, h0, _⟩ := mutC_ok a r1 q0
    cases o0 with
    | dic kvs0 =>
      obtain ⟨us0, h1, _⟩ := ho0
      refine ⟨p, rfl, .inl ⟨us0, .inl h1⟩, hy F1 H1 σ S1 _ _ Ed a.st q (fun u i F2 H2 S2 b r2 n2 q => hv F2 H2 σ S2 _ _ Ed b.st q (fun w x F3 H3 S3 c r3 q => ?_) ((e.step a).step b)) (e.step a)⟩
      have abc := (a.trans b).trans c
      cases i with
      | val ky =>
        obtain ⟨kk, e1, q4⟩ := onS_ok (show onS (keyD ky) _ from q)
        obtain ⟨p', o, put, ep, ho, h, hp⟩ := mutC_ok abc ((r1.step b).step c) q4
        cases ep
        cases o with
        | dic kvs =>
          obtain ⟨us, g1, g2⟩ := ho
          obtain ⟨hl, q5⟩ := (show kvs.length < sizeLine ∧ sdK kvs kk _ _ from h)
          unfold sdK at q5
          refine ⟨us, kk, g1, Rp.keyed (r2.mono c.fx) e1, by rw [g2.len]; exact hl, fun v hv => ?_, fun hn => ?_⟩
          · cases q6 : valD kvs kk with
            | none => rw [g2.valN q6] at hv; cases hv
            | some z =>
              rw [q6] at q5
              obtain ⟨v', hv', rz⟩ := g2.val q6
              rw [hv] at hv'
              cases hv'
              obtain ⟨t1, t2⟩ := asFl_ok (H := H3) (σ := σ) (S := S3) (H0 := H) (σ0 := σ) (S0 := S) rz
              exact k v (asFl z) F3 H3 S3 abc t1 t2 q5
          · cases q6 : valD kvs kk with
            | some z => obtain ⟨v', hv', _⟩ := g2.val q6; rw [hn] at hv'; cases hv'
            | none =>
              rw [q6] at q5
              have am := hp (upd H3 p (.dK (putK us kk w))) (.dic (putD kvs kk x)) upd_off ⟨_, upd_same, g2.put kk r3⟩
              obtain ⟨t1, t2⟩ := asFl_ok (H := upd H3 p (.dK (putK us kk w))) (σ := σ) (S := put (.dic (putD kvs kk x))) (H0 := H) (σ0 := σ) (S0 := S) r3
              exact k w (asFl x) F3 _ _ am t1 t2 q5
        | lst xs => exact (show False from h).elim
        | ins _ _ => exact (show False from h).elim
        | dit _ => exact (show False from h).elim
      | _ => exact (show False from q).elim
    | _ => exact (show False from h0).elim) e
theorem LE.dget2 {td ty tx : TE} {dd dy : DE} {dv : DX} (hd' : LE K W td dd) (hy : LE K W ty dy) (hv : LX K W tx dv) : LE K W (tDGet2 td ty tx) (dDGet2 dd dy dv) := fun F H σ S Q Qd Ed s hd k e =>
  hd' F H σ S _ _ Ed s hd (fun w y F1 H1 S1 a r1 n1 q => by
    obtain ⟨x0, e0, q⟩ := onS_ok q
    obtain ⟨kvs0, e00, q⟩ := onS_ok q
    obtain ⟨p, us0, rfl, h1, _⟩ := dic_of (tree_ok a.st r1 e0) a.st.ex e00
    refine ⟨p, rfl, .inl ⟨us0, .inl h1⟩, hy F1 H1 σ S1 _ _ Ed a.st q (fun u i F2 H2 S2 b r2 n2 q => hv F2 H2 σ S2 _ _ Ed b.st q (fun w x F3 H3 S3 c r3 q => ?_) ((e.step a).step b)) (e.step a)⟩
    have abc := (a.trans b).trans c
    obtain ⟨x1, e1, q⟩ := onS_ok q
    obtain ⟨kvs, e2, q⟩ := onS_ok q
    obtain ⟨p', us, ep, g1, g2⟩ := dic_of (tree_ok c.st ((r1.step b).step c) e1) c.st.ex e2
    cases ep
    cases i with
    | val ky =>
      obtain ⟨kk, e3, q4⟩ := onS_ok (show onS (keyD ky) _ from q)
      refine ⟨valV us kk, .inl ⟨us, kk, .inl g1, Rp.keyed (r2.mono c.fx) e3, rfl⟩, ?_⟩
      cases q6 : valD kvs kk with
      | none =>
        rw [g2.valN q6]
        rw [q6] at q4
        exact k w (.val x) F3 H3 S3 abc r3 Nw.val q4
      | some z =>
        obtain ⟨v', hv', rz⟩ := g2.val q6
        rw [hv']
        rw [q6] at q4
        exact k v' (.val z) F3 H3 S3 abc rz Nw.val q4
    | _ => exact (show False from q).elim) e
end
/-- a dict, and then -/
def isDY (S : DSt) (y : TV) (R : Prop) : Prop := (mutC S y fun s _ => isDicS s) ∧ R
def isDK (s : SO) (R : Prop) : Prop := match s with
  | .dic _ => R
  | _ => False
section
variable {g : List (Option SV)} {o : OM} {R : Prop} {a : Addr} {kvs : List (Key × DV)} {i : Nat}
def isDv (v : SV) (o : OM) (R : Prop) : Prop := match v with
  | .own s => isDK s R
  | .rf a => onS (o a) fun s => isDK s R
  | _ => False
theorem isDK_ok {s : SO} (h : isDK s R) : isDicS s ∧ R := by
  cases s with
  | dic _ => exact ⟨trivial, h⟩
  | _ => exact (show False from h).elim
instance p_isDY_s : Step (isDY ⟨g, o⟩ (.slt i) R) (gx i g fun v => isDv v o R) := ⟨fun h => by
  rw [gx_eq] at h
  unfold isDY mutC
  show (match g[i]? with
    | some (some (.own o)) => isDicS o
    | some (some (.rf a)) => onS (o a) fun o => isDicS o
    | _ => False) ∧ R
  split at h
  · rename_i v e
    rw [e]
    cases v with
    | own s => exact isDK_ok h
    | rf a =>
      obtain ⟨s, e, h⟩ := onS_ok (show onS (o a) _ from h)
      obtain ⟨h1, h2⟩ := isDK_ok h
      exact ⟨by show onS (o a) _; rw [e]; exact h1, h2⟩
    | val _ => exact (show False from h).elim
    | err _ _ _ _ => exact (show False from h).elim
  · exact h.elim⟩
instance p_isDY_r : Step (isDY ⟨g, o⟩ (.rf a) R) (onS (o a) fun s => isDK s R) := ⟨fun h => by
  obtain ⟨s, e, h⟩ := onS_ok h
  obtain ⟨h1, h2⟩ := isDK_ok h
  exact ⟨by show onS (o a) _; rw [e]; exact h1, h2⟩⟩
instance p_isDv_o {s : SO} : Step (isDv (.own s) o R) (isDK s R) := ⟨fun h => h⟩
instance p_isDv_r : Step (isDv (.rf a) o R) (onS (o a) fun s => isDK s R) := ⟨fun h => h⟩
instance p_isDK : Step (isDK (.dic kvs) R) R := ⟨fun h => h⟩
end
section
variable {S : DSt} {dd dy : DE} {dv : DX} {E : DErr → DSt → Prop} {Q : TV → DSt → Prop} {kvs : List (Key × DV)} {k : List (Key × DV) → Prop}
instance p_setd : Step (dSetd dd dy dv S Q E) (dd S (fun y S1 => isDY S1 y <| dy S1 (fun i S2 => dv S2 (fun x S3 => keyK i fun k => mutC S3 y fun o put => dicK o fun kvs => kvs.length < sizeLine ∧ sdK kvs k (fun z => flK z fun y => Q y S3) (inS (put (.dic (putD kvs k x))) fun S4 => flK x fun y => Q y S4)) E) E) E) := ⟨fun h => h⟩
instance p_dget2 : Step (dDGet2 dd dy dv S Q E) (dd S (fun y S1 => onS (tree S1 y) fun x0 => onS (dicL x0) fun _ => dy S1 (fun i S2 => dv S2 (fun z S3 => onS (tree S3 y) fun x => onS (dicL x) fun kvs => keyK i fun k => Q (.val ((valD kvs k).getD z)) S3) E) E) E) := ⟨fun h => h⟩
instance p_dicL : Step (onS (dicL (.dic kvs)) k) (k kvs) := ⟨fun h => h⟩
end
end L3

/-! L4a: max(xs, default=d). -/
namespace L3
open PySem PySem.Spec PyProof.Rows L2
/-- the greatest, or d -/
def mxd (d : Int) (ns : List Int) : Int := (maxL ns).getD d
def rMaxDf (K : PySem.W.Frag) : List V → List V → Hp → VK → Prop := fun vs zs H Q => ∃ (a : Addr) (ns : List Int) (d : Int), vs = [V.ref a] ∧ zs = [.int d] ∧ SqL K H a (ns.map V.int) ∧ Q (.int (mxd d ns)) H
theorem maxOf_int (x : Int) (xs : List Int) : PySem.W.maxOf x xs = xs.foldl max x := by
  unfold PySem.W.maxOf
  congr 1
  funext a y
  show (if decide (a < y) = true then y else a) = max a y
  by_cases c : a < y
  · rw [if_pos (decide_eq_true c)]; omega
  · rw [if_neg (by simpa using c)]; omega
section
variable {X : Cx}
theorem cr_maxDf {k : Nat} (hc : X.calm = true) (hr : Room k X.A) : CallRK X (.builtin "max") [Str.ofString "default"] (rMaxDf X.K) := by
  intro pins s σ H vs zs us ws Q I r rz h
  obtain ⟨a, ns, d, rfl, rfl, hs, q⟩ := h
  obtain rfl := Vals.ref1 r
  obtain ⟨w1, rfl, e1⟩ := vals1 rz
  obtain ⟨t1, rfl⟩ := (show ∃ t, w1 = Value.int d t from e1)
  obtain ⟨its, rv, hl, hz⟩ := I.list hs
  have hu : X.A.units + 1 + PySem.W.Datum.depth Int < cLine := by have := hr.un; show _ + 1 + 0 < _; omega
  refine PySem.W.max_list_datum_default (α := Int) (xs := ns) (I.ok.hd hc) hl.isList (PySem.W.HoldAll.of_ints rv.ints) hu (fun e h' tk hk => ?_) fun y ys i v h' tk e hi hv hk => ?_
  · subst e
    exact ⟨.int d, H, I.kept hk, ⟨t1, rfl⟩, q⟩
  · subst e
    obtain ⟨t, rfl⟩ := PySem.W.int_of_holds hv
    refine ⟨.int (PySem.W.maxOf y ys), H, I.kept hk, ⟨t, rfl⟩, ?_⟩
    have e : mxd d (y :: ys) = PySem.W.maxOf y ys := by rw [maxOf_int]; rfl
    rw [← e]
    exact q
end
def dMaxDf (d : Int) (da : DE) : DE := fun S Q Ed => da S (fun y S1 => onS (tree S1 y) fun x => onS (intsOf x) fun ns => Q (.val (.int (mxd d ns))) S1) Ed
section
variable {K : PySem.W.Frag} {W : WX}
theorem LE.maxDf {d : Int} {ta : TE} {da : DE} (ha : LE K W ta da) : LE K W (tCKw (rMaxDf K) (tCons ta tNil) (tCons (tC (.int d)) tNil)) (dMaxDf d da) := fun F H σ S Q Qd Ed s hd k e =>
  ha F H σ S _ _ Ed s hd (fun v y F1 H1 S1 a r n q => by
    obtain ⟨x, e1, q⟩ := onS_ok q
    obtain ⟨ns, e2, q⟩ := onS_ok q
    obtain ⟨p, hp, h⟩ := intsOf_ok (tree_ok a.st r e1) a.st.ex e2
    subst hp
    exact ⟨p, ns, d, rfl, rfl, h, k (.int (mxd d ns)) (.val (.int (mxd d ns))) F1 H1 S1 a (.int _) Nw.val q⟩) e
section
variable {S : DSt} {da : DE} {E : DErr → DSt → Prop} {Q : TV → DSt → Prop} {d : Int} {l : List Int} {k : List Int → Prop}
instance p_maxDf : Step (dMaxDf d da S Q E) (da S (fun y S1 => onS (tree S1 y) fun x => onS (intsOf x) fun ns => Q (.val (.int (mxd d ns))) S1) E) := ⟨fun h => h⟩
instance p_intsOf : Step (onS (intsOf (.lst (zInts l))) k) (k l) := ⟨fun h => by rw [show intsOf (.lst (zInts l)) = some l from unI_z l]; exact h⟩
end
end
/-- .. where several ways lead on (given its own name: the unifier loses itself between dJoin and dSeq) -/
theorem LS.join {K : PySem.W.Frag} {W : WX} {t u : TS} {d e : DS} (h : LS K W t d) (k : LS K W u e) : LS K W (tSeq t u) (dJoin d e) := LS.seq h k
/-! ### no field of the method's name -/
def noF (m : Str) : List (Str × DV) → Prop → Prop
  | [], k => k
  | (g, _) :: r, k => m ≠ g ∧ noF m r k
theorem noF_ok {m : Str} : ∀ {fs : List (Str × DV)} {k : Prop}, noF m fs k → fs.lookup m = none ∧ k
  | [], k, h => ⟨rfl, h⟩
  | (g, _) :: r, k, h => by
    obtain ⟨h1, h2⟩ := noF_ok h.2
    refine ⟨?_, h2⟩
    rw [List.lookup_cons, beq_eq_false_iff_ne.mpr h.1]
    exact h1
section
variable {c m g : Str} {k : Prop} {x : DV} {fs : List (Str × DV)}
instance (priority := high) p_insRF : Step (insR c m (.ins c fs) k) (noF m fs k) := ⟨fun h => ⟨rfl, noF_ok h⟩⟩
instance p_noF0 : Step (noF m [] k) k := ⟨fun h => h⟩
instance p_noF1 [h : NeS m g] : Step (noF m ((g, x) :: fs) k) (noF m fs k) := ⟨fun q => ⟨h.ne, q⟩⟩
end
instance ne_tl : NeS "together" "labels" := ⟨by decide⟩
instance ne_tm : NeS "together" "marks" := ⟨by decide⟩
instance ne_fl : NeS "fits" "labels" := ⟨by decide⟩
instance ne_fm : NeS "fits" "marks" := ⟨by decide⟩
instance ne_gl : NeS "grow" "labels" := ⟨by decide⟩
instance ne_gm : NeS "grow" "marks" := ⟨by decide⟩
end L3

/-! L4b: enumerate of a list that may be an object of the map. -/
namespace L3
open PySem PySem.Spec PyProof.Rows L2
section
variable {K : PySem.W.Frag} {W : WX}
def enK (x : DV) (S : DSt) (Q : List DV → (DSt → Prop) → Prop) : Prop := match x with
  | .ref a => onS (S.o a) fun so => lstK so fun xs => Q (enumD xs) fun S => S.o a = some (.lst xs)
  | x => onS (seqL x) fun xs => Q (enumD xs) fun _ => True
def iEA (d : DX) : DIG := fun S Q Ed => d S (fun x S1 => enK x S1 fun xs G => Q xs G S1) Ed
theorem LIG.enumA {t : TE} {d : DX} (h : LX K W t d) : LIG K W (iEnum K (tCons t tNil)) (iEA d) := fun F H σ S R Qd Ed s hd k e =>
  h F H σ S _ _ _ s hd (fun v x F1 H1 S1 a r q => by
    have val : (onS (seqL x) fun xs => Qd (enumD xs) (fun _ => True) S1) → ∃ a xs, [v] = [.ref a] ∧ SqL K H1 a xs ∧ R (Ite K a) H1 := fun q => by
      obtain ⟨xs, e1, q⟩ := onS_ok q
      obtain ⟨b, vs, rfl, h1, h2⟩ := seq_of r e1
      refine ⟨b, vs, rfl, a.st.ex.seq h1, k _ _ _ F1 H1 S1 a (fun F2 H2 σ2 S2 s2 f2 _ i => ?_) q⟩
      have hb : SqL K H2 b vs := s2.ex.seq (f2.seq h1)
      refine ⟨fun hi => ⟨vs, hb, ?_⟩, fun x hx => ?_⟩
      · rw [h2.len, hi]; unfold enumD; rw [List.length_map, List.length_zipIdx]; exact Nat.le_refl _
      · obtain ⟨y, hy, rfl⟩ := enumD_at hx
        obtain ⟨u, hu, ru⟩ := h2.get hy
        refine ⟨⟨vs, u, hb, hu⟩, fun v H3 hy => ?_⟩
        obtain ⟨T, x', rfl, hT, rfl, hx'⟩ := hy
        have := hx' vs hb
        rw [hu] at this; cases this
        have hF : F2 T = none := s2.ex.free hT
        exact ⟨_, Stp.grw s2 (Grw.newF s2.ex hT), .tup (.inl (.inl upd_same)) (.cons (.int _) (.cons ((ru.mono f2).mono (same_upd hF)) .nil))⟩
    cases x with
    | ref b =>
      cases r
      obtain ⟨so, e1, q⟩ := onS_ok (show onS (S1.o b) _ from q)
      cases so with
      | lst xs =>
        obtain ⟨_, us, h1, h1'⟩ := a.st.ob b _ e1
        refine ⟨b, us, rfl, .inl (.inl h1), k _ _ _ F1 H1 S1 a (fun F2 H2 σ2 S2 s2 f2 g2 i => ?_) q⟩
        obtain ⟨_, vs, h2, h3⟩ := s2.ob b _ g2
        have hb : SqL K H2 b vs := .inl (.inl h2)
        refine ⟨fun hi => ⟨vs, hb, ?_⟩, fun x hx => ?_⟩
        · rw [h3.len, hi]; unfold enumD; rw [List.length_map, List.length_zipIdx]; exact Nat.le_refl _
        · obtain ⟨y, hy, rfl⟩ := enumD_at hx
          obtain ⟨u, hu, ru⟩ := h3.get hy
          refine ⟨⟨vs, u, hb, hu⟩, fun v H3 hy => ?_⟩
          obtain ⟨T, x', rfl, hT, rfl, hx'⟩ := hy
          have := hx' vs hb
          rw [hu] at this; cases this
          have hF : F2 T = none := s2.ex.free hT
          exact ⟨_, Stp.grw s2 (Grw.newF s2.ex hT), .tup (.inl (.inl upd_same)) (.cons (.int _) (.cons (ru.mono (same_upd hF)) .nil))⟩
      | dic xs => exact (show False from q).elim
      | dit xs => exact (show False from q).elim
      | ins c fs => exact (show False from q).elim
    | _ => exact val q) e
section
variable {dX : DX} {S : DSt} {g : List (Option SV)} {o : OM} {p : Addr} {xs : List DV} {Q : List DV → (DSt → Prop) → DSt → Prop} {Qe : List DV → (DSt → Prop) → Prop} {E : DErr → DSt → Prop}
instance p_iEA : Step (iEA dX S Q E) (dX S (fun x S1 => enK x S1 fun xs G => Q xs G S1) E) := ⟨fun h => h⟩
instance p_enK_l : Step (enK (.lst xs) S Qe) (Qe (enumD xs) fun _ => True) := ⟨fun h => h⟩
instance p_enK_s : Step (enK (.seq xs) S Qe) (Qe (enumD xs) fun _ => True) := ⟨fun h => h⟩
instance p_enK_r : Step (enK (.ref p) ⟨g, o⟩ Qe) (onS (o p) fun so => lstK so fun xs => Qe (enumD xs) fun S => S.o p = some (.lst xs)) := ⟨fun h => h⟩
end
end
end L3

/-! L4c: zip of two lists that are objects of the map. -/
namespace L3
open PySem PySem.Spec PyProof.Rows L2
section
variable {K : PySem.W.Frag} {W : WX}
theorem zipD_at {xs ys : List DV} {i : Nat} {x : DV} (h : (zipD xs ys)[i]? = some x) : ∃ y z, xs[i]? = some y ∧ ys[i]? = some z ∧ x = .tup [y, z] := by
  unfold zipD at h
  rw [List.getElem?_map, Option.map_eq_some_iff] at h
  obtain ⟨p, hp, rfl⟩ := h
  rw [List.getElem?_zip_eq_some] at hp
  exact ⟨_, _, hp.1, hp.2, rfl⟩
def zpK (x y : DV) (S : DSt) (Q : List DV → (DSt → Prop) → Prop) : Prop := match x with
  | .ref a => match y with
    | .ref b => onS (S.o a) fun so => lstK so fun xs => onS (S.o b) fun so2 => lstK so2 fun ys => xs.length = ys.length ∧ Q (zipD xs ys) fun S => S.o a = some (.lst xs) ∧ S.o b = some (.lst ys)
    | _ => False
  | _ => False
def iZp (d1 d2 : DX) : DIG := fun S Q Ed => d1 S (fun x S1 => d2 S1 (fun y S2 => zpK x y S2 fun xs G => Q xs G S2) Ed) Ed
theorem LIG.zip {t1 t2 : TE} {d1 d2 : DX} (h1 : LX K W t1 d1) (h2 : LX K W t2 d2) : LIG K W (iZip K (tCons t1 (tCons t2 tNil))) (iZp d1 d2) := fun F H σ S R Qd Ed s hd k e =>
  h1 F H σ S _ _ _ s hd (fun v x F1 H1 S1 a r q => h2 F1 H1 σ S1 _ _ _ a.st q (fun v2 x2 F2 H2 S2 a2 r2 q2 => by
    cases x with
    | ref p =>
      cases x2 with
      | ref p2 =>
        cases r
        cases r2
        obtain ⟨so, e1, q3⟩ := onS_ok (show onS (S2.o p) _ from q2)
        cases so with
        | lst xs =>
          obtain ⟨so2, e2, q4⟩ := onS_ok (show onS (S2.o p2) _ from q3)
          cases so2 with
          | lst ys =>
            obtain ⟨len, q5⟩ := q4
            obtain ⟨_, us, u1, u1'⟩ := a2.st.ob p _ e1
            obtain ⟨_, ws, w1, w1'⟩ := a2.st.ob p2 _ e2
            refine ⟨p, p2, us, ws, rfl, .inl (.inl u1), .inl (.inl w1), k _ _ _ F2 H2 S2 (a.trans a2) (fun F3 H3 σ3 S3 s3 f3 g3 i => ?_) q5⟩
            obtain ⟨_, vs, v1, v1'⟩ := s3.ob p _ g3.1
            obtain ⟨_, zs, z1, z1'⟩ := s3.ob p2 _ g3.2
            have hb : SqL K H3 p vs := .inl (.inl v1)
            have hc : SqL K H3 p2 zs := .inl (.inl z1)
            refine ⟨fun hi => ⟨vs, zs, hb, hc, .inl ?_⟩, fun x hx => ?_⟩
            · rw [v1'.len, hi]; unfold zipD; rw [List.length_map, List.length_zip, len, Nat.min_self]; exact Nat.le_refl _
            · obtain ⟨y, z, hy, hz, rfl⟩ := zipD_at hx
              obtain ⟨u, hu, ru⟩ := v1'.get hy
              obtain ⟨t, ht, rt⟩ := z1'.get hz
              refine ⟨⟨vs, zs, u, t, hb, hc, hu, ht⟩, fun v H4 hyl => ?_⟩
              obtain ⟨T, x', y', rfl, hT, rfl, hx', hy'⟩ := hyl
              have e3 := hx' vs hb
              have e4 := hy' zs hc
              rw [hu] at e3; cases e3
              rw [ht] at e4; cases e4
              have hF : F3 T = none := s3.ex.free hT
              exact ⟨_, Stp.grw s3 (Grw.newF s3.ex hT), .tup (.inl (.inl upd_same)) (.cons (ru.mono (same_upd hF)) (.cons (rt.mono (same_upd hF)) .nil))⟩
          | dic xs => exact (show False from q4).elim
          | dit xs => exact (show False from q4).elim
          | ins c fs => exact (show False from q4).elim
        | dic xs => exact (show False from q3).elim
        | dit xs => exact (show False from q3).elim
        | ins c fs => exact (show False from q3).elim
      | _ => exact (show False from q2).elim
    | _ => exact (show False from q2).elim) (e.step a)) e
section
variable {dX dY : DX} {S : DSt} {g : List (Option SV)} {o : OM} {p p2 : Addr} {xs : List DV} {Q : List DV → (DSt → Prop) → DSt → Prop} {Qe : List DV → (DSt → Prop) → Prop} {E : DErr → DSt → Prop}
instance p_iZp : Step (iZp dX dY S Q E) (dX S (fun x S1 => dY S1 (fun y S2 => zpK x y S2 fun xs G => Q xs G S2) E) E) := ⟨fun h => h⟩
instance p_zpK : Step (zpK (.ref p) (.ref p2) ⟨g, o⟩ Qe) (onS (o p) fun so => lstK so fun xs => onS (o p2) fun so2 => lstK so2 fun ys => xs.length = ys.length ∧ Qe (zipD xs ys) fun S => S.o p = some (.lst xs) ∧ S.o p2 = some (.lst ys)) := ⟨fun h => h⟩
end
end
end L3

/-! L4d: properties. -/
namespace Hf
open PySem PySem.Spec PyProof.Rows L2 He
/-- the property's object, its getter -/
def ppa (K : PySem.W.Frag) (c f : Str) : Addr := match PySem.W.findIn K (.ref (ga K c)) f with
  | some (some (.ref p)) => p
  | _ => 0
def pga (K : PySem.W.Frag) (c f : Str) : Addr := match PySem.W.recIn K (ppa K c f) "property" with
  | some (.ref g :: _) => g
  | _ => 0
/-- a getter: its class, its text -/
structure PrD where
  c : Str
  d : DefD
def fnWA (K : PySem.W.Frag) (a : Addr) : FnW := match K.lookup a with
  | some ⟨_, _, .func fd, _⟩ => some (fd.name, fd.qualname, fd.params, fd.body, fd.scope, fd.globals, fd.closure, fd.builtins)
  | _ => none
def okA (K : PySem.W.Frag) (d : DefD) (a : Addr) : Bool := PySem.W.keepIn K (.ref a) && (match K.lookup a with
  | some ⟨_, _, .func fd, _⟩ => PySem.W.codeIn K fd.code d.qual && (dflB K fd.defaults (d.dvs K) && kwdB K fd.kwdefaults (d.kws K))
  | _ => false)
def prB (K : PySem.W.Frag) (c f : Str) : Bool := decide (PySem.W.findIn K (.ref (ga K c)) f = some (some (.ref (ppa K c f)))) && (decide (PySem.W.specialIn K (.ref (ppa K c f)) "__get__" = some (some (.builtin "property.__get__"))) &&
  (decide (PySem.W.takesIn K (.ref (ppa K c f)) = some true) && (match PySem.W.recIn K (ppa K c f) "property" with
    | some (.ref _ :: _) => true
    | _ => false)))
def PrD.ok (K : PySem.W.Frag) (p : PrD) : Bool := okA K p.d (pga K p.c p.d.name) && prB K p.c p.d.name
section
variable {K : PySem.W.Frag}
theorem funDA {d : DefD} {a : Addr} (e : fnWA K a = d.val) (c : okA K d a = true) : ∃ fd, FunD K d.name d.qual d.params d.body d.scope (d.dvs K) (d.kws K) a fd := by
  obtain ⟨kp, c2⟩ := ba c
  unfold fnWA at e
  cases q : K.lookup a with
  | none =>
    rw [q] at c2
    cases c2
  | some o =>
    obtain ⟨oc, od, dt, osl⟩ := o
    rw [q] at c2 e
    cases dt with
    | func fd =>
      obtain ⟨n1, n2, n3, n4, n5, n6, n7, n8, n9, n10, n11, n12, n13, n14, n15⟩ := fd
      have e2 : (some (n1, n2, n3, n4, n5, n6, n7, n15) : FnW) = some (d.name, d.qual, d.params, .stmts d.body, d.scope, mainGlobals, [], builtinsNs) := e
      simp only [Option.some.injEq, Prod.mk.injEq] at e2
      obtain ⟨h1, h2, h3, h4, h5, h6, h7, h8⟩ := e2
      subst h1 h2 h3 h4 h5 h6 h7 h8
      have c3 : (PySem.W.codeIn K n13 d.qual && (dflB K n8 (d.dvs K) && kwdB K n9 (d.kws K))) = true := c2
      obtain ⟨k1, k2⟩ := ba c3
      obtain ⟨k3, k4⟩ := ba k2
      exact ⟨_, ⟨oc, od, n8, n9, n10, n11, n12, n13, n14, osl, rfl, q, k1, dflB_ok k3, kwdB_ok k4⟩, kp⟩
    | _ => cases c2
theorem prB_ok {c f : Str} (h : prB K c f = true) : PropOf K (ga K c) f (ppa K c f) (pga K c f) := by
  obtain ⟨h1, h⟩ := ba h
  obtain ⟨h2, h⟩ := ba h
  obtain ⟨h3, h4⟩ := ba h
  refine ⟨of_decide_eq_true h1, of_decide_eq_true h2, of_decide_eq_true h3, ?_⟩
  unfold pga
  cases q : PySem.W.recIn K (ppa K c f) "property" with
  | none => rw [q] at h4; cases h4
  | some l =>
    rw [q] at h4
    cases l with
    | nil => cases h4
    | cons v r =>
      cases v with
      | ref g => exact ⟨r, rfl⟩
      | _ => cases h4
end
def obsP (fa : List Fa) (fb : List Fb) (fp : List PrD) (fn : List DefD) (K : PySem.W.Frag) : AlD := ((obsE fa fb fn K).1 && fp.all (fun p => p.ok K), (fp.map fun p => fnWA K (pga K p.c p.d.name)) ++ (obsE fa fb fn K).2)
def valP (fp : List PrD) (fn : List DefD) : AlD := (true, (fp.map fun p => p.d.val) ++ (valD fn).2)
def SaysP (fa : List Fa) (fb : List Fb) (fp : List PrD) (fn : List DefD) (K : PySem.W.Frag) : Prop := obsP fa fb fp fn K = valP fp fn
def obsPG (n : Nat) (fa : List Fa) (fb : List Fb) (fp : List PrD) (fn : List DefD) (g : Addr → Option Obj) : AlD := obsP fa fb fp fn (frG g (asD g n ++ [cStatics, sysModules]))
def hookP (n : Nat) (fa : List Fa) (fb : List Fb) (fp : List PrD) (fn : List DefD) : PySem.W.Hook where
  α := AlD
  obs := fun s => obsPG n fa fb fp fn s.heap.get?
  val := fun _ => valP fp fn
  says := fun _ h => ∃ K : PySem.W.Frag, K.In h ∧ SaysP fa fb fp fn K
  of := fun _ _ e => ⟨_, frG_in, e⟩
  keeps := fun _ _ _ ⟨K, hK, c⟩ k => ⟨K, PySem.W.Frag.In.keeps hK k, c⟩
theorem obsPG_eq {n : Nat} {fa : List Fa} {fb : List Fb} {fp : List PrD} {fn : List DefD} {g : Addr → Option Obj} {s : Shared} (h : ∀ a, g a = s.heap.get? a) : obsPG n fa fb fp fn g = (hookP n fa fb fp fn).obs s := by
  have e : g = s.heap.get? := funext h
  rw [e] <;> rfl
section
variable {fa : List Fa} {fb : List Fb} {fp : List PrD} {fn : List DefD} {K : PySem.W.Frag}
theorem SaysP.parts (c : SaysP fa fb fp fn K) : ((obsE fa fb fn K).1 = true ∧ (fp.all fun p => p.ok K) = true) ∧ (fp.map fun p => fnWA K (pga K p.c p.d.name)) = (fp.map fun p => p.d.val) ∧ (obsE fa fb fn K).2 = (valD fn).2 := by
  have e1 : ((obsE fa fb fn K).1 && fp.all (fun p => p.ok K)) = true := congrArg (fun z : AlD => z.1) c
  have e2 : (fp.map fun p => fnWA K (pga K p.c p.d.name)) ++ (obsE fa fb fn K).2 = (fp.map fun p => p.d.val) ++ (valD fn).2 := congrArg (fun z : AlD => z.2) c
  exact ⟨ba e1, List.append_inj e2 (by rw [List.length_map, List.length_map])⟩
theorem SaysP.e (c : SaysP fa fb fp fn K) : SaysE fa fb fn K := by
  obtain ⟨⟨h1, _⟩, _, h2⟩ := c.parts
  exact Prod.ext h1 h2
theorem SaysP.d (c : SaysP fa fb fp fn K) : SaysD fa fn K := c.e.d
theorem SaysP.own (c : SaysP fa fb fp fn K) (i : Nat) {f : Fb} (h : fb[i]? = some f := by rfl) : f.ok K = true := c.e.own i h
theorem SaysP.prop (c : SaysP fa fb fp fn K) (i : Nat) {p : PrD} (h : fp[i]? = some p := by rfl) : (∃ fd, FunD K p.d.name p.d.qual p.d.params p.d.body p.d.scope (p.d.dvs K) (p.d.kws K) (pga K p.c p.d.name) fd) ∧ PropOf K (ga K p.c) p.d.name (ppa K p.c p.d.name) (pga K p.c p.d.name) := by
  obtain ⟨⟨_, h1⟩, h2, _⟩ := c.parts
  obtain ⟨k1, k2⟩ := ba (List.all_eq_true.mp h1 p (List.mem_of_getElem? h))
  have e2 : (fp.map fun p => fnWA K (pga K p.c p.d.name))[i]? = (fp.map fun p => p.d.val)[i]? := by rw [h2]
  rw [List.getElem?_map, List.getElem?_map, h] at e2
  exact ⟨funDA (Option.some.inj e2) k1, prB_ok k2⟩
end
end Hf
namespace L3
open PySem PySem.Spec PyProof.Rows L2
/-- a property of a class, read -/
structure CalP (P : Program) (w : World) (K : PySem.W.Frag) (mg : Str → Option Value) (base : Heap) (k : Nat) (c m : Str) (ps : List Str) (sp : Sp) : Prop where
  ex : ∃ fd, FnOk P w K mg base (L2.CX P w) k (Hf.pga K c m) fd ps sp ∧ Binds K fd ps []
  cl : Cls K (He.ga K c)
  pr : PropOf K (He.ga K c) m (Hf.ppa K c m) (Hf.pga K c m)
def tPrp (C : Addr) (sp : Sp) (ta : TE) : TE := fun σ H Q => ta σ H fun x H1 => ∃ a dx fs, x = .ref a ∧ H1 a = some (.ins C dx fs) ∧ sp [.ref a] H1 Q (WE (fun _ _ _ _ => False) σ)
section
variable {X : Cx} {k j : Nat} {cn m : Str} {ps : List Str} {sp : Sp} {e : Expr} {ta : TE} {pos : Pos}
theorem pe_prp (he : PE X e ta) (c : CalP X.prog X.w X.K X.mg X.base k cn m ps sp) (hr : Room j X.A) (hk : k + 1 ≤ j := by first | decide | omega) (hab : attributeBase e m X.env (eval e X.env) = eval e X.env := by rfl) :
    PE X (.Attribute e m pos) (tPrp (He.ga X.K cn) sp ta) := by
  obtain ⟨fd, F, b⟩ := c.ex
  refine ⟨fun pins s σ H Q I h => ?_⟩
  refine attr_of hab (thn (he.run pins s σ H _ I h) fun u s1 ⟨x, H1, I1, rx, a, dx, fs, ex, ea, q⟩ => ?_)
  subst ex
  obtain rfl : u = Value.ref a := rx
  exact getprop_ok (k := k) I1 ea c.cl c.pr F (hr.mono hk) b .nil (fun pins σ2 H2 s2 er s' I2 hq => (passAt (takes0 (X := X.nox)) σ2) pins H2 s2 er s' I2 hq) q
end
section
variable {K : PySem.W.Frag} {F F' H H' F0 H0 : Hp} {σ σ' σ1 σ2 σ0 : L2.St} {S S' S1 S2 S0 : DSt} {F1 F2 H1 H2 : Hp} {p : Addr} {v : V} {W : WX}
def prpK (c : Str) (gs : GSp) (x : DV) (S : DSt) (Q : TV → DSt → Prop) : Prop := match x with
  | .ref a => onS (S.o a) fun so => (match so with
    | .ins c' _ => c' = c ∧ gs [.ref a] S.o (fun y O' => Q y ⟨S.g, O'⟩) (fun _ _ => False)
    | _ => False)
  | _ => False
def dPrp (c : Str) (gs : GSp) (dx : DX) : DE := fun S Q Ed => dx S (fun x S1 => prpK c gs x S1 Q) Ed
theorem LE.prp {c : Str} {gs : GSp} {ta : TE} {dx : DX} (h : LX K W ta dx) : LE K W (tPrp (He.ga K c) (liftG K gs) ta) (dPrp c gs dx) := fun F H σ S Q Qd Ed s hd k e =>
  h F H σ S _ _ Ed s hd (fun v x F1 H1 S1 a r1 q => by
    cases x with
    | ref b =>
      cases r1
      obtain ⟨so, e1, q2⟩ := onS_ok (show onS (S1.o b) _ from q)
      cases so with
      | ins c' fs =>
        obtain ⟨rfl, q3⟩ := (show c' = c ∧ gs [.ref b] S1.o (fun y O' => Qd y ⟨S1.g, O'⟩) (fun _ _ => False) from q2)
        obtain ⟨_, dx', vs, h3, h4⟩ := a.st.ob b _ e1
        refine ⟨b, dx', vs, rfl, h3, F1, S1.o, [.ref b], _, _, a.st.bare, .cons (.ref b) .nil, q3, fun y O' hy v F' H' b tv n => ?_, fun err O' he cls dd F' H' b er nd => (show False from he).elim⟩
        have b' := Stp.frame a.st b
        refine k v y F' H' _ (a.trans b') ?_ (Nw.back a fun o p e1 e2 => ?_) hy
        · cases y with
          | val x => exact tv
          | rf b => exact tv
          | slt i => exact absurd (show ([] : L2.St)[i]? = some (some v) from tv) (by simp)
          | own o =>
            obtain ⟨p, rfl, z1, z2, z3⟩ := tv
            refine ⟨p, rfl, z1, z2, fun z => ?_⟩
            rcases z with ⟨i, o', e1, e2⟩ | z
            · obtain ⟨_, o2, h2⟩ := a.st.ow_some (.inl ⟨i, o', e1, e2⟩)
              rcases n o p rfl rfl with w | w
              · exact h2.ne w
              · exact ow0.mp w (a.st.sep i o' p e1 e2)
            · exact z3 (ow0.mpr z)
        · rcases n o p e1 e2 with w | w
          · exact .inl w
          · exact .inr (.inr (ow0.mp w))
      | _ => exact (show False from q2).elim
    | _ => exact (show False from q).elim) e
end
section
variable {c c' : Str} {gs : GSp} {dx : DX} {S : DSt} {g : List (Option SV)} {o : OM} {Q : TV → DSt → Prop} {E : DErr → DSt → Prop} {a : Addr} {fs : List (Str × DV)}
def prpS (c : Str) (gs : GSp) (a : Addr) (so : SO) (S : DSt) (Q : TV → DSt → Prop) : Prop := match so with
  | .ins c' _ => c' = c ∧ gs [.ref a] S.o (fun y O' => Q y ⟨S.g, O'⟩) (fun _ _ => False)
  | _ => False
instance p_dPrp : Step (dPrp c gs dx S Q E) (dx S (fun x S1 => prpK c gs x S1 Q) E) := ⟨fun h => h⟩
instance p_prpK : Step (prpK c gs (.ref a) ⟨g, o⟩ Q) (onS (o a) fun so => prpS c gs a so ⟨g, o⟩ Q) := ⟨fun h => h⟩
instance p_prpS : Step (prpS c gs a (.ins c fs) ⟨g, o⟩ Q) (gs [.ref a] o (fun y O' => Q y ⟨g, O'⟩) (fun _ _ => False)) := ⟨fun h => ⟨rfl, h⟩⟩
end
end L3

/-! L4e: min of a list of tuples of integers (one of its items), sorted of such a list. -/
namespace L3
open PySem PySem.Spec PyProof.Rows L2
open PySem.W (AllAlike Sortable dataLe sorted_data EachIs AlikeAll minD min_list_data dataLt readsAll_at reads_keeps alike)
def rMinT (K : PySem.W.Frag) : List V → Hp → VK → Prop := fun vs H Q => ∃ (a : Addr) (us : List V) (d : PyData) (ds : List PyData), vs = [V.ref a] ∧ SqL K H a us ∧ DpAll K H us (d :: ds) ∧ AlikeAll (d :: ds) ∧ PyData.depthAll (d :: ds) ≤ 60 ∧
  ∀ (i : Nat) (v : V), us[i]? = some v → (d :: ds)[i]? = some (minD d ds) → Q v H
section
variable {X : Cx}
theorem vals_get : ∀ {us : List V} {its : List Value} {i : Nat} {v : Value}, Vals us its → its[i]? = some v → ∃ u, us[i]? = some u ∧ RelV u v
  | _, _, _, _, .nil, e => by simp at e
  | u :: us, w :: its, 0, v, .cons h r, e => by
    have e' := Option.some.inj (show some w = some v from e)
    subst e'
    exact ⟨u, rfl, h⟩
  | u :: us, w :: its, i + 1, v, .cons h r, e => vals_get (i := i) r e
theorem cr_minT {k : Nat} (hc : X.calm = true) (hr : Room k X.A) : CallR X (.builtin "min") (rMinT X.K) := by
  intro pins s σ H vs us Q I r h
  obtain ⟨a, xs, d, ds, rfl, hs, hd, hal, hdp, q⟩ := h
  obtain ⟨its, rv, hl, hz⟩ := I.list hs
  rw [Vals.ref1 r]
  obtain ⟨as, hrd⟩ := Dp.readsAll I _ _ _ hd rv
  have hu : X.A.units + 1 + PyData.depthAll (d :: ds) < cLine := by have := hr.un; omega
  refine min_list_data (I.ok.hd hc) hl.isList (by simpa using hrd) hal hu fun i v h' tk bs hi hv hk => ?_
  have hi' : its[i]? = some v := by simpa using hi
  obtain ⟨u, hu1, hu2⟩ := vals_get rv hi'
  obtain ⟨bs2, r2, l2, _, _⟩ := readsAll_at hrd i v hi'
  have e := ((reads_keeps hk r2).unique _ _ hv).1
  refine ⟨u, H, I.kept hk, hu2, q i u hu1 ?_⟩
  rw [List.getElem?_eq_getElem l2]
  rw [List.getD_eq_getElem?_getD, List.getElem?_eq_getElem l2] at e
  exact congrArg some e
end
/-! ### tuples of integers -/
def zTup (r : List Int) : DV := .tup (zInts r)
def zTups (w : List (List Int)) : List DV := w.map zTup
def encT (r : List Int) : PyData := .tuple (r.map .int)
def unT : List DV → Option (List (List Int))
  | [] => some []
  | .tup xs :: r => match unI xs, unT r with
    | some l, some w => some (l :: w)
    | _, _ => none
  | _ :: _ => none
theorem unT_z : ∀ w : List (List Int), unT (zTups w) = some w
  | [] => rfl
  | r :: w => by
    show (match unI (zInts r), unT (zTups w) with
    | some l, some w => some (l :: w)
    | _, _ => none) = _
    rw [unI_z r, unT_z w]
theorem unT_ok : ∀ {xs : List DV} {w : List (List Int)}, unT xs = some w → xs = zTups w
  | [], w, e => by cases e; rfl
  | .tup ys :: r, w, e => by
    have e' : (match unI ys, unT r with
    | some l, some w => some (l :: w)
    | _, _ => none) = some w := e
    cases q1 : unI ys with
    | none => rw [q1] at e'; cases e'
    | some l =>
      cases q2 : unT r with
      | none => rw [q1, q2] at e'; cases e'
      | some w2 =>
        rw [q1, q2] at e'
        cases e'
        rw [unI_ok q1, unT_ok q2]
        rfl
  | .non :: _, _, e => by cases e
  | .bl _ :: _, _, e => by cases e
  | .int _ :: _, _, e => by cases e
  | .str _ :: _, _, e => by cases e
  | .lst _ :: _, _, e => by cases e
  | .seq _ :: _, _, e => by cases e
  | .dic _ :: _, _, e => by cases e
  | .dit _ :: _, _, e => by cases e
  | .ty _ :: _, _, e => by cases e
  | .ref _ :: _, _, e => by cases e
  | .obj _ :: _, _, e => by cases e
theorem toPys_t : ∀ w : List (List Int), toPys (zTups w) = some (w.map encT)
  | [] => rfl
  | r :: w => by
    show (match (toPys (zInts r)).map PyData.tuple with
      | some d => match toPys (zTups w) with
        | some ds => some (d :: ds)
        | none => none
      | none => none) = _
    rw [toPys_t w, toPys_z r]
    rfl
theorem depth_encT (r : List Int) : (encT r).depth ≤ 60 := by
  have := PySem.W.depth_ints r
  show (PyData.tuple (r.map .int)).depth ≤ 60
  simp only [PyData.depth]
  omega
theorem depth_encTs : ∀ w : List (List Int), PyData.depthAll (w.map encT) ≤ 60
  | [] => by simp [PyData.depthAll]
  | r :: w => by
    have := depth_encTs w
    have := depth_encT r
    show PyData.depthAll (encT r :: w.map encT) ≤ 60
    rw [PyData.depthAll]
    omega
theorem encT_inj {a b : List Int} (e : encT a = encT b) : a = b := by
  have e2 := PyData.tuple.inj e
  have : ∀ (a b : List Int), a.map PyData.int = b.map PyData.int → a = b := by
    intro a
    induction a with
    | nil => intro b h; cases b with
      | nil => rfl
      | cons _ _ => simp at h
    | cons x a ih => intro b h; cases b with
      | nil => simp at h
      | cons y b =>
        rw [List.map_cons, List.map_cons] at h
        injection h with h1 h2
        rw [PyData.int.inj h1, ih b h2]
  exact this a b e2
theorem minD_mem (d : PyData) : ∀ ds : List PyData, minD d ds ∈ d :: ds := by
  have : ∀ (ds : List PyData) (d : PyData), ds.foldl (fun a y => if dataLt y a then y else a) d ∈ d :: ds := by
    intro ds
    induction ds with
    | nil => intro d; exact List.mem_cons_self
    | cons x ds ih =>
      intro d
      show ds.foldl _ (if dataLt x d then x else d) ∈ _
      rcases List.mem_cons.mp (ih (if dataLt x d then x else d)) with h | h
      · rw [h]
        by_cases c : dataLt x d = true
        · rw [if_pos c]; simp
        · rw [if_neg c]; simp
      · exact List.mem_cons_of_mem _ (List.mem_cons_of_mem _ h)
  exact fun ds => this ds d
/-- the item that min finds -/
noncomputable def minT (r : List Int) (w : List (List Int)) : List Int := Classical.epsilon fun m => m ∈ r :: w ∧ encT m = minD (encT r) (w.map encT)
theorem minT_spec (r : List Int) (w : List (List Int)) : minT r w ∈ r :: w ∧ encT (minT r w) = minD (encT r) (w.map encT) := by
  refine Classical.epsilon_spec (p := fun m => m ∈ r :: w ∧ encT m = minD (encT r) (w.map encT)) ?_
  have h := minD_mem (encT r) (w.map encT)
  rw [← List.map_cons (f := encT)] at h
  obtain ⟨m, h1, h2⟩ := List.mem_map.mp h
  exact ⟨m, h1, h2⟩
noncomputable def minTF : List DV → Option TV := one fun x => match x with
  | .lst xs => match unT xs with
    | some (r :: w) => some (.val (zTup (minT r w)))
    | _ => none
  | _ => none
theorem alike_T (w : List (List Int)) : AlikeAll (w.map encT) := by
  refine ⟨fun x hx y hy => ?_, fun x hx => ?_⟩
  · obtain ⟨a, _, rfl⟩ := List.mem_map.mp hx
    obtain ⟨b, _, rfl⟩ := List.mem_map.mp hy
    show alike (.tuple (a.map .int)) (.tuple (b.map .int)) = true
    rw [alike]
    exact PySem.W.alike_ints a b
  · obtain ⟨a, _, rfl⟩ := List.mem_map.mp hx
    intro h; cases h
section
variable {K : PySem.W.Frag} {F H : Hp} {v : V}
theorem rps_get : ∀ {us : List V} {xs : List DV} {i : Nat} {u : V}, Rps K F us xs → us[i]? = some u → ∃ x, xs[i]? = some x ∧ Rp K F u x
  | _, _, _, _, .nil, e => by simp at e
  | a :: us, x :: xs, 0, u, .cons h r, e => by
    have e' := Option.some.inj (show some a = some u from e)
    subst e'
    exact ⟨x, rfl, h⟩
  | a :: us, x :: xs, i + 1, u, .cons h r, e => rps_get (i := i) r e
theorem Gn.minT : Gn K (rMinT K) minTF := fun F H vs xs z Q s r e R => by
  obtain ⟨x, rfl, e⟩ := one_ok e
  obtain ⟨w, rfl, r1⟩ := r.one
  cases x with
  | lst xs =>
    have e' : (match unT xs with
    | some (r :: w) => some (TV.val (zTup (L3.minT r w)))
    | _ => none) = some z := e
    cases q : unT xs with
    | none => rw [q] at e'; cases e'
    | some l =>
      cases l with
      | nil => rw [q] at e'; cases e'
      | cons t0 w2 =>
        rw [q] at e'
        cases e'
        obtain ⟨a, us, rfl, h1, h2⟩ := r1.list s
        have ex := unT_ok q
        subst ex
        refine ⟨a, us, encT t0, w2.map encT, rfl, .inl (.inl h1), toPys_ok s h2 (toPys_t (t0 :: w2)), alike_T (t0 :: w2), depth_encTs (t0 :: w2), fun i u hu hm => ?_⟩
        obtain ⟨y, y1, y2⟩ := rps_get h2 hu
        have m := minT_spec t0 w2
        rw [← m.2] at hm
        have hm' : ((t0 :: w2).map encT)[i]? = some (encT (L3.minT t0 w2)) := hm
        rw [List.getElem?_map] at hm'
        have y1' : ((t0 :: w2).map zTup)[i]? = some y := y1
        rw [List.getElem?_map] at y1'
        cases g : (t0 :: w2)[i]? with
        | none => rw [g] at y1'; cases y1'
        | some t =>
          rw [g] at y1' hm'
          cases y1'
          have := encT_inj (Option.some.inj hm')
          subst this
          exact Res.here R s y2
  | _ => cases e
theorem sortDF_t (w : List (List Int)) (hw : ∀ r ∈ w, r ≠ []) : sortDF [.lst (zTups w)] = some (.own (.lst (zTups (w.mergeSort fun a b => decide (a ≤ b))))) := by
  show (match toPys (zTups w) with
      | some ds => @ite _ (SrtOk ds) (Classical.propDecidable _) (some (TV.own (.lst ((((zTups w).zip ds).mergeSort (dataLe false Prod.snd)).map Prod.fst)))) none
      | none => none) = _
  rw [toPys_t w]
  show @ite _ _ (Classical.propDecidable _) _ _ = _
  rw [if_pos ⟨AllAlike.of fun b b' => by
      show alike (.tuple (b.map .int)) (.tuple (b'.map .int)) = true
      rw [alike]
      exact PySem.W.alike_ints b b', .inl fun d hd => by
      obtain ⟨r, hr, rfl⟩ := List.mem_map.mp hd
      cases r with
      | nil => exact absurd rfl (hw _ hr)
      | cons x r => exact ⟨.int x, r.map .int, rfl⟩, fun d hd => by
    obtain ⟨r, _, rfl⟩ := List.mem_map.mp hd
    exact depth_encT r⟩]
  have z : (zTups w).zip (w.map encT) = w.map fun r => (zTup r, encT r) := by
    unfold zTups
    exact List.zip_map'
  have hd : dataLe false (fun r : List Int => encT r) = fun p q => decide (p ≤ q) := by
    funext p q
    show (!dataLt (.tuple (q.map .int)) (.tuple (p.map .int))) = _
    have e : dataLt (.tuple (q.map PyData.int)) (.tuple (p.map PyData.int)) = dataLt (.list (q.map PyData.int)) (.list (p.map PyData.int)) := by rw [PySem.W.dataLt_tuple, PySem.W.dataLt_list]
    rw [e]
    exact congrFun (congrFun (PySem.W.dataLe_rows (β := List Int) fun x => x) p) q
  have g := List.map_mergeSort (r := dataLe false fun r : List Int => encT r) (s := dataLe false Prod.snd) (f := fun r => (zTup r, encT r)) (l := w) (fun a _ b _ => rfl)
  rw [z, ← g, List.map_map, hd]
  rfl
variable {w : List (List Int)} {k : TV → Prop} {r : List Int}
instance p_sortD_t : Step (onS (sortDF [.lst (zTups w)]) k) ((∀ r ∈ w, r ≠ []) ∧ k (.own (.lst (zTups (w.mergeSort fun a b => decide (a ≤ b)))))) := ⟨fun h => by rw [sortDF_t w h.1]; exact h.2⟩
theorem minTF_t (r : List Int) (w : List (List Int)) : minTF [.lst (zTups (r :: w))] = some (.val (zTup (L3.minT r w))) := by
  show (match unT (zTups (r :: w)) with
    | some (r :: w) => some (TV.val (zTup (L3.minT r w)))
    | _ => none) = _
  rw [unT_z]
theorem minT_go (hw : w ≠ []) (h : ∀ m ∈ w, k (.val (zTup m))) : onS (minTF [.lst (zTups w)]) k := by
  cases w with
  | nil => exact absurd rfl hw
  | cons r w =>
    rw [minTF_t]
    exact h _ (minT_spec r w).1
end
end L3

/-! L4f: exceptions: several except clauses, with and without a name; isinstance and the field of the caught one; exceptions made with a field. -/
namespace L3
open PySem PySem.Spec PyProof.Rows L2
/-! ### the clauses -/
/-- a clause's name is set, is gone -/
def nmSet (n : Option Nat) (a : Addr) (σ : L2.St) : L2.St := match n with
  | none => σ
  | some i => σ.set i (some (.ref a))
def nmGone (n : Option Nat) (σ : L2.St) : L2.St := match n with
  | none => σ
  | some i => σ.set i none
def nmEnds (n : Option Nat) (D : Ends) : Ends := { nx := fun σ H => D.nx (nmGone n σ) H, rt := D.rt, bk := fun σ H => D.bk (nmGone n σ) H, ct := fun σ H => D.ct (nmGone n σ) H }
abbrev Clause := Value × Option Nat × (Addr → Value → Option Addr → TS)
def wMix (K : PySem.W.Frag) (Wo : WX) (D : Ends) : List Clause → WX
  | [] => Wo
  | (c, n, ts) :: r => fun cls d σ H => ∃ b, PySem.W.exmOne K cls c = some b ∧ (b = true → ∀ a, H a = none → ts a cls d (nmEnds n D) (nmSet n a σ) H) ∧ (b = false → wMix K Wo D r cls d σ H)
/-- the clauses and what their suites do -/
inductive Mix (X : Cx) : List ExceptHandler → List Clause → Prop
  | nil : Mix X [] []
  | plain {x : Str} {c : Value} {ts : Addr → Value → Option Addr → TS} {b : Stmt} {su : List Stmt} {p q : Pos} {hs : List ExceptHandler} {l : List Clause} (hc : Names X x c)
      (hu : ∀ (a : Addr) (oe : Obj) (cls : Value) (d : Option Addr) (pn : List (Addr × Obj)), Zc cls d oe → (∃ vs, oe.data = .fields vs) → PSs (X.suite a ((a, oe) :: pn)) (b :: su) (ts a cls d)) (r : Mix X hs l) :
      Mix X (.ExceptHandler (some (.Name x p)) none (b :: su) q :: hs) ((c, none, ts) :: l)
  | as {x n : Str} {i : Nat} {c : Value} {ts : Addr → Value → Option Addr → TS} {b : Stmt} {su : List Stmt} {p q : Pos} {hs : List ExceptHandler} {l : List Clause} (hc : Names X x c) (hN : X.N.Nodup) (hi : X.N[i]? = some n) (hn : X.env.kindOf n = some .local)
      (hu : ∀ (a : Addr) (oe : Obj) (cls : Value) (d : Option Addr) (pn : List (Addr × Obj)), Zc cls d oe → (∃ vs, oe.data = .fields vs) → PSs (X.suite a ((a, oe) :: pn)) (b :: su) (ts a cls d)) (r : Mix X hs l) :
      Mix X (.ExceptHandler (some (.Name x p)) (some n) (b :: su) q :: hs) ((c, some i, ts) :: l)
section
variable {X : Cx} {body : List Stmt} {h0 : ExceptHandler} {hds : List ExceptHandler} {l : List Clause} {pos : Pos} {tb : WX → TS} {Wo : WX}
theorem mix_ok (hs : X.stack = X.env :: X.outer) (hf : X.env.frame = some X.env.locals) (tk : Takes X Wo) {pins : List (Addr × Obj)} {s1 sI : Shared} {σ : L2.St} {H : Hp} {D : Ends} {a : Addr} {cls : Value} {d : Option Addr} {B h3 : Heap} (ok : X.Ok)
    (J : L2.Inv X pins σ H sI) (nb : ∀ b o, sI.heap.get? b = some o → b ∉ frs X.stack → B.get? b = some o) (na : H a = none) (os : s1.os = sI.os) (ag : AllBare s1.gens) (up : sI.heap.UpToSlots h3) (fl : HandSPX.FlyingZ B (X.env :: X.outer) a (Zc cls d) h3) : ∀ {hs' : List ExceptHandler} {l' : List Clause}, Mix X hs' l' → wMix X.K Wo D l' cls d σ H →
      wpAny (model X.prog X.w) X.A (handleBy (.ref a) X.env hs') (SP X pins D) X.xe { s1 with heap := h3 } := by
  have J3 : L2.Inv X pins σ H { s1 with heap := h3 } := J.landed nb fl.1 up os ag
  obtain ⟨o3, v3, he3, hz3, hd3⟩ := fl.there
  have nfr : a ∉ frs (X.env :: X.outer) := fun m => by
    obtain ⟨_, o', e', no⟩ := fl.2.2.1.mem m
    cases he3.symm.trans e'
    exact no _ hd3
  have nL : a ≠ X.env.locals := fun z => nfr (List.mem_filterMap.mpr ⟨X.env, List.mem_cons_self, by rw [hf, z]⟩)
  have nF : a ∉ X.fs := fun m => by
    obtain ⟨e, he, q⟩ := List.mem_filterMap.mp m
    exact nfr (List.mem_filterMap.mpr ⟨e, List.mem_cons_of_mem _ he, q⟩)
  have S3 := J3.suite he3 hd3 na nL nF
  have test : ∀ {x : Str} {c : Value} {p : Pos} {Q : Value → Shared → Prop} {E : Value → Shared → Prop}, Names X x c → Q c { s1 with heap := h3 } → wpAny (model X.prog X.w) (X.A.mark (some (.ref a))) (eval (.Name x p) X.env) Q E { s1 with heap := h3 } := fun {x c p Q E} hc q => by
    obtain ⟨g, db, m | ⟨m, v, nn⟩⟩ := hc
    · exact ld_glob (X := X.suite a ((a, o3) :: (X.pn ++ pins))) S3 g m q db
    · exact ld_blt (X := X.suite a ((a, o3) :: (X.pn ++ pins))) S3 g m v q nn db
  have looks : ∀ {c : Value} {b : Bool}, PySem.W.exmOne X.K cls c = some b → _ := fun {c b} e =>
    PySem.W.exm_one (M := model X.prog X.w) J3.kIn (fun _ _ _ s k q => wpAny_typeOf_ref (k _ _ he3) (by rw [hz3.1]; exact q)) e
  intro hs' l' M
  induction M with
  | nil =>
    intro w
    refine wpAny_handleBy_nil ?_
    obtain ⟨_, _, _, oe, vs, T, _, _, he, _, hd, h1, _⟩ := id fl
    unfold PySem.passOn
    refine wpAny_bind (wpAny_field he hd h1 ?_)
    rw [if_neg (by simp : ¬ ((Value.ref T == Value.none) = true))]
    have fin : wpAny (model X.prog X.w) X.A (setFlight (.ref a) X.env.frame) (fun _ s4 => wpAny (model X.prog X.w) X.A (throw (.ref a) : Sem Flow) (SP X pins D) X.xe s4) X.xe { s1 with heap := h3 } := by
      rw [hf]
      exact HandSPX.setFlight_upZ fl fun h4 z4 up4 => wpAny_throw (tk _ _ ⟨a, B, sI, pins, σ, H, cls, d, rfl, J, nb, up.trans up4, .inr (.inr (by rw [hs]; exact z4)), na, os, ag, w⟩)
    first
      | exact wpAny_bind (wpAny_pure (wpAny_bind fin))
      | exact wpAny_bind fin
  | @plain x c ts b su p q hs2 l2 hc hu r ih =>
    rintro ⟨v, e1, yes, no⟩
    refine wpAny_handleBy_cons (codeAny_handlers_test ?_) (by intro z; cases z)
    refine test hc ((looks e1).here ?_)
    cases v with
    | false => exact ih (no rfl)
    | true =>
      refine codeAny_handlers_suite (HandSPX.lands_againZ fl fun h4 fl4 up4 => ?_)
      obtain ⟨o4, v4, he4, hz4, hd4⟩ := fl4.there
      have S4 := (J.landed nb fl4.1 (up.trans up4) os ag : L2.Inv X pins σ H { s1 with heap := h4 }).suite he4 hd4 na nL nF
      refine wpAny_mono ((hu a o4 cls d (X.pn ++ pins) hz4 ⟨_, hd4⟩).run [] _ _ H _ S4 (yes rfl a na)) (fun f s6 z => ?_) (fun _ _ z => z.elim)
      rcases f with _ | _ | _ | u
      all_goals
        first
          | (obtain ⟨σ6, H6, S6, q6⟩ := z; exact ⟨_, _, S6.unsuite ok, q6⟩)
          | (obtain ⟨v6, σ6, H6, S6, r6, q6⟩ := z; exact ⟨_, _, _, S6.unsuite ok, r6, q6⟩)
  | @as x n i c ts b su p q hs2 l2 hc hN hi hn hu r ih =>
    rintro ⟨v, e1, yes, no⟩
    refine wpAny_handleBy_cons (codeAny_handlers_test ?_) (by intro z; cases z)
    refine test hc ((looks e1).here ?_)
    cases v with
    | false => exact ih (no rfl)
    | true =>
      refine codeAny_handlers_suite_as (HandSPX.lands_againZ fl fun h4 fl4 up4 => ?_)
      obtain ⟨o4, v4, he4, hz4, hd4⟩ := fl4.there
      have S4 := (J.landed nb fl4.1 (up.trans up4) os ag : L2.Inv X pins σ H { s1 with heap := h4 }).suite he4 hd4 na nL nF
      refine store_ok (X := X.suite a ((a, o4) :: (X.pn ++ pins))) (v := .ref a) S4 hN hi (.inl hn) rfl (fun s5 S5 => ?_) (.inr hn)
      refine wpAny_mono ((hu a o4 cls d (X.pn ++ pins) hz4 ⟨_, hd4⟩).run [] s5 _ H _ S5 (yes rfl a na)) (fun f s6 z => ?_) (fun _ _ z => z.elim)
      rcases f with _ | _ | _ | u
      all_goals
        first
          | (obtain ⟨σ6, H6, S6, q6⟩ := z; exact gone_ok (S6.unsuite ok) hN hi hn fun s7 J7 => ⟨_, _, J7, q6⟩)
          | (obtain ⟨v6, σ6, H6, S6, r6, q6⟩ := z; exact gone_ok (S6.unsuite ok) hN hi hn fun s7 J7 => ⟨_, _, _, J7, r6, q6⟩)
/-- try with any except clauses over names of classes -/
theorem ps_try_mix (hs : X.stack = X.env :: X.outer) (hf : X.env.frame = some X.env.locals) (tk : Takes X Wo)
    (hb : ∀ (W : WX) (pn : List (Addr × Obj)) (xe : Value → Shared → Prop), Takes (X.tr pn xe) W → PassesOwn (model X.prog X.w) X.A X.env xe → PSs (X.tr pn xe) body (tb W)) (hh : Mix X (h0 :: hds) l) :
    PS X (.Try body (h0 :: hds) [] [] pos) (fun D σ H => tb (wMix X.K Wo D l) D σ H) := by
  refine ⟨fun pins s σ H D I h => ?_⟩
  have ok := I.ok
  have hfr : X.A.frames = some (X.env :: X.outer) := ok.frames.trans (by rw [hs])
  refine wpAny_Try_except (wpAny_mono ((hb _ (X.pn ++ pins) (fun e s₁ => wpAny (model X.prog X.w) X.A (noteFrame e X.env) (fun _ s₂ => wpAny (model X.prog X.w) X.A (setFlight e none) (fun _ s₃ =>
    wpAny (model X.prog X.w) X.A (handleBy e X.env (h0 :: hds)) (SP X pins D) X.xe s₃) X.xe s₂) X.xe s₁) (fun u s' xx => ?_) PassesOwn.looking).run [] s σ H D (I.toTry _) h) (fun f s1 z => ?_) fun _ _ z => z)
  · obtain ⟨a, B, sI, pins', σ', H', cls, d, rfl, J', nb, up, sky, na, os, ag, w⟩ := xx
    have sky' : Sky B (X.env :: X.outer) a (Zc cls d) X.env.locals s'.heap := by rw [← hs]; exact sky
    show wpAny (model X.prog X.w) X.A (noteFrame (.ref a) X.env) _ _ _
    exact Sky.land Zc.steady hfr hf sky' fun h3 fl up3 => mix_ok hs hf tk ok (J'.ofTry ok : L2.Inv X pins σ' H' sI) nb na os ag (up.trans up3) fl hh w
  · rcases f with _ | _ | _ | u
    · obtain ⟨σ', H', J', q⟩ := z
      exact wpAny_execs_nil ⟨σ', H', J'.ofTry ok, q⟩
    · obtain ⟨σ', H', J', q⟩ := z
      exact ⟨σ', H', J'.ofTry ok, q⟩
    · obtain ⟨σ', H', J', q⟩ := z
      exact ⟨σ', H', J'.ofTry ok, q⟩
    · obtain ⟨v, σ', H', J', r, q⟩ := z
      exact ⟨v, σ', H', J'.ofTry ok, r, q⟩
end
/-! ### lifts: the clauses -/
section
variable {K : PySem.W.Frag} {F F' H H' F0 H0 : Hp} {σ σ' σ1 σ2 σ0 : L2.St} {S S' S1 S2 S0 : DSt} {F1 F2 H1 H2 : Hp} {p : Addr} {v : V} {W : WX}
def DSt.gone (S : DSt) (n : Option Nat) : DSt := match n with
  | none => S
  | some i => ⟨S.g.set i none, S.o⟩
def DSt.held (S : DSt) (n : Option Nat) (a : Addr) (cls : Value) (d : Option Addr) (e : DErr) : DSt := match n with
  | none => S
  | some i => ⟨S.g.set i (some (.err a cls d e)), S.o⟩
def goneEnds (n : Option Nat) (D : DEnds) : DEnds := ⟨fun S => D.nx (S.gone n), D.rt, fun S => D.bk (S.gone n), fun S => D.ct (S.gone n), D.ex⟩
abbrev DClauses := DErr → DSt → DEnds → Prop
def hNil : DClauses := fun e S D => D.ex e S
def hCons (t : Str → Option Bool) (n : Option Nat) (h : Addr → Value → Option Addr → DS) (r : DClauses) : DClauses := fun e S D => exK t e (∀ a cls d, h a cls d (S.held n a cls d e) (goneEnds n D)) (r e S D)
def dTryM (b : DS) (h : DClauses) : DS := fun S D => b S ⟨D.nx, D.rt, D.bk, D.ct, fun e S1 => h e S1 D⟩
/-- the clauses' readings -/
inductive LH (K : PySem.W.Frag) (W : WX) : List Clause → DClauses → Prop
  | nil : LH K W [] hNil
  | cons {c : Value} {n : Option Nat} {ts : Addr → Value → Option Addr → TS} {t : Str → Option Bool} {h : Addr → Value → Option Addr → DS} {l : List Clause} {r : DClauses} (hm : Exm K c t) (hs : ∀ a cls d, LS K W (ts a cls d) (h a cls d)) (hr : LH K W l r) :
      LH K W ((c, n, ts) :: l) (hCons t n h r)
theorem gone_get {i j : Nat} {g : List (Option SV)} {y : SV} (h : (g.set i none)[j]? = some (some y)) : g[j]? = some (some y) ∧ j ≠ i := by
  by_cases hj : j = i
  · subst hj
    by_cases hl : j < g.length
    · rw [List.getElem?_set_self hl] at h; cases h
    · rw [List.getElem?_eq_none (by rw [List.length_set]; omega)] at h; cases h
  · rw [List.getElem?_set_ne (Ne.symm hj)] at h; exact ⟨h, hj⟩
theorem Stp.gone (n : Option Nat) (s : Stt K F H σ S) : Stp K F H σ S F H (nmGone n σ) (S.gone n) := by
  cases n with
  | none => exact Stp.refl s
  | some i =>
    have sg : ∀ {j : Nat} {u : Option V}, j ≠ i → (σ.set i none)[j]? = some u → σ[j]? = some u := fun {j u} hj e => by rw [List.getElem?_set_ne (Ne.symm hj)] at e; exact e
    refine ⟨Same.refl F, fun _ _ h _ => h, fun _ _ _ h => h, fun a h => .inl ?_, ⟨s.ex, ?_, fun j y e => ?_, fun j l o o' q e1 e2 e3 e4 => ?_, fun j o q e1 e2 => ?_, s.ob⟩⟩
    · rcases h with ⟨j, o, e1, e2⟩ | h
      · obtain ⟨z, hj⟩ := gone_get e1
        exact .inl ⟨j, o, z, sg hj e2⟩
      · exact .inr h
    · show (S.g.set i none).length = (σ.set i none).length
      rw [List.length_set, List.length_set]; exact s.len
    · obtain ⟨z, hj⟩ := gone_get e
      obtain ⟨w, e1, r⟩ := s.sl j y z
      exact ⟨w, by show (σ.set i none)[j]? = _; rw [List.getElem?_set_ne (Ne.symm hj)]; exact e1, r⟩
    · obtain ⟨z1, h1⟩ := gone_get e1
      obtain ⟨z2, h2⟩ := gone_get e2
      exact s.inj j l o o' q z1 z2 (sg h1 e3) (sg h2 e4)
    · obtain ⟨z1, h1⟩ := gone_get e1
      exact s.sep j o q z1 (sg h1 e2)
theorem Stp.held {a : Addr} {cls : Value} {d : Option Addr} {e : DErr} (n : Option Nat) (s : Stt K F H σ S) (r : ErrR K F cls d e) : Stp K F H σ S F H (nmSet n a σ) (S.held n a cls d e) := by
  cases n with
  | none => exact Stp.refl s
  | some i =>
    have b := put_rf (i := i) (b := a) s
    have nown : ∀ (j : Nat) o, (S.g.set i (some (.err a cls d e)))[j]? = some (some (.own o)) → (S.put i (.rf a)).g[j]? = some (some (.own o)) := fun j o q => by
      rcases put_get (S := S) (x := .err a cls d e) q with ⟨_, z, _⟩ | ⟨hne, z⟩
      · cases z
      · show (S.g.set i _)[j]? = _
        rw [List.getElem?_set_ne (Ne.symm hne)]; exact z
    refine ⟨b.fx, b.kp, b.nf, fun x h => ?_, ⟨s.ex, ?_, fun j y q => ?_, fun j l o o' q e1 e2 => b.st.inj j l o o' q (nown j o e1) (nown l o' e2), fun j o q e1 => b.st.sep j o q (nown j o e1), s.ob⟩⟩
    · rcases h with ⟨j, o, e1, e2⟩ | h
      · exact b.no x (.inl ⟨j, o, nown j o e1, e2⟩)
      · exact b.no x (.inr h)
    · show (S.g.set i _).length = (σ.set i _).length
      rw [List.length_set, List.length_set]; exact s.len
    · rcases put_get (S := S) (x := .err a cls d e) q with ⟨rfl, rfl, hl⟩ | ⟨hne, z⟩
      · exact ⟨.ref a, List.getElem?_set_self (by rw [← s.len]; exact hl), rfl, r⟩
      · obtain ⟨w, e1, r1⟩ := s.sl j y z
        exact ⟨w, by show (σ.set i _)[j]? = _; rw [List.getElem?_set_ne (Ne.symm hne)]; exact e1, r1⟩
theorem exK_ok {t : Str → Option Bool} {e : DErr} {k k' : Prop} (h : exK t e k k') : ∃ b, t e.c = some b ∧ (b = true → k) ∧ (b = false → k') := by
  unfold exK at h
  cases q : t e.c with
  | none => rw [q] at h; exact h.elim
  | some b =>
    rw [q] at h
    refine ⟨b, rfl, fun z => ?_, fun z => ?_⟩
    · subst z; exact h
    · subst z; exact h
theorem LH.ok {l : List Clause} {r : DClauses} (hl : LH K W l r) {F0 H0 : Hp} {σ0 : L2.St} {S0 : DSt} {D : Ends} {Dd : DEnds} (k : Lnk K W F0 H0 σ0 S0 D Dd) {cls : Value} {d : Option Addr} {e : DErr} (a : Stp K F0 H0 σ0 S0 F H σ S) (er : ErrR K F cls d e) (nd : ∀ x, d = some x → H0 x = none ∨ ow σ0 S0 x)
    (h : r e S Dd) : wMix K W D l cls d σ H := by
  induction hl with
  | nil => exact k.ex cls d e F H σ S a er nd h
  | @cons c n ts t hh l r hm hs hr ih =>
    obtain ⟨b, eb, yes, no⟩ := exK_ok h
    refine ⟨b, by rw [er.1]; exact hm _ _ eb, fun z x _ => ?_, fun z => ih (no z)⟩
    have b2 := Stp.held (a := x) n a.st er
    refine hs x cls d F H _ _ _ _ b2.st (yes z x cls d) ⟨fun F' H' σ' S' c q => ?_, fun v y F' H' σ' S' c tv nw q => ?_, fun F' H' σ' S' c q => ?_, fun F' H' σ' S' c q => ?_, ?_⟩
    · exact k.nx F' H' _ _ (((a.trans b2).trans c).trans (Stp.gone n c.st)) q
    · exact k.rt v y F' H' σ' S' ((a.trans b2).trans c) tv (nw.back (a.trans b2)) q
    · exact k.bk F' H' _ _ (((a.trans b2).trans c).trans (Stp.gone n c.st)) q
    · exact k.ct F' H' _ _ (((a.trans b2).trans c).trans (Stp.gone n c.st)) q
    · exact k.ex.step (a.trans b2)
theorem LS.tryM {tb : WX → TS} {l : List Clause} {b : DS} {r : DClauses} (hb : ∀ W', LS K W' (tb W') b) (hl : LH K W l r) : LS K W (fun D σ H => tb (wMix K W D l) D σ H) (dTryM b r) := fun F H σ S D Dd s hd k =>
  hb _ F H σ S D _ s hd ⟨k.nx, k.rt, k.bk, k.ct, fun cls dd err F' H' σ' S' a er nd q => hl.ok k a er nd q⟩
end
section
variable {t : Str → Option Bool} {b : DS} {n : Option Nat} {i : Nat} {hh : Addr → Value → Option Addr → DS} {r : DClauses} {S : DSt} {D : DEnds} {e : DErr} {g : List (Option SV)} {o : OM} {a : Addr} {cls : Value} {d : Option Addr}
instance p_tryM : Step (dTryM b r S D) (b S ⟨D.nx, D.rt, D.bk, D.ct, fun e S1 => r e S1 D⟩) := ⟨fun h => h⟩
instance p_hNil : Step (hNil e S D) (D.ex e S) := ⟨fun h => h⟩
instance p_hCons0 : Step (hCons t none hh r e S D) (exK t e (∀ a cls d, hh a cls d S (goneEnds none D)) (r e S D)) := ⟨fun h => h⟩
instance p_hCons1 : Step (hCons t (some i) hh r e ⟨g, o⟩ D) (exK t e (∀ a cls d, sx i g (some (.err a cls d e)) fun g' => hh a cls d ⟨g', o⟩ (goneEnds (some i) D)) (r e ⟨g, o⟩ D)) := ⟨fun h => by
  simp only [sx_eq] at h
  exact h⟩
instance p_goneN0 : Step ((goneEnds none D).nx S) (D.nx S) := ⟨fun h => h⟩
instance p_goneN1 : Step ((goneEnds (some i) D).nx ⟨g, o⟩) (sx i g none fun g' => D.nx ⟨g', o⟩) := ⟨fun h => by
  rw [sx_eq] at h
  exact h⟩
end
/-! ### isinstance of the caught exception, its field -/
def rIsX (K : PySem.W.Frag) (a : Addr) (cls : Value) (d : Option Addr) : List V → Hp → VK → Prop := fun xs H Q => ∃ (D : Addr) (c : V) (cv : Value) (b : Bool), cls = .ref D ∧ ExcC K D ∧ (d = none ∨ ∃ dd fs, d = some dd ∧ H dd = some (.xd fs)) ∧
  xs = [.ref a, c] ∧ (∀ u, RelV c u → u = cv) ∧ PySem.W.kitOne K (.ref D) cv = some b ∧ Q (.bl b) H
theorem call_isX {X : Cx} {a : Addr} {cls : Value} {d : Option Addr} {oe : Obj} {pn : List (Addr × Obj)} (hz : Zc cls d oe) (hf : ∃ vs, oe.data = .fields vs) : CallR (X.suite a ((a, oe) :: pn)) (.builtin "isinstance") (rIsX X.K a cls d) := by
  intro pins s σ H xs us Q I r h
  obtain ⟨D, c, cv, b, ec, C, hd, rfl, hcv, e, q⟩ := h
  match us, r with
  | [_, u], .cons rx (.cons rt .nil) =>
    obtain rfl := rx
    obtain rfl := hcv _ rt
    obtain ⟨hget, _⟩ := I.pin (a, oe) (List.mem_append_left _ List.mem_cons_self)
    obtain ⟨vs, hv⟩ := hf
    have J : ∃ od, PySem.W.InstAt s.heap a oe D od := by
      rcases hd with e0 | ⟨dd, fs, e0, e1⟩
      · refine ⟨none, hget, hz.1.trans ec, by unfold PySem.W.notCls; rw [hv] <;> rfl, ?_⟩
        rw [hz.2, e0]
        trivial
      · have hx : ObjOk X.prog X.w H s.heap dd (.xd fs) := I.hok dd _ e1
        obtain ⟨mA, hns, _⟩ := hx
        obtain ⟨od, ho, _⟩ := lookIn_ns hns
        refine ⟨some od, hget, hz.1.trans ec, by unfold PySem.W.notCls; rw [hv] <;> rfl, ?_⟩
        rw [hz.2, e0]
        exact ho
    obtain ⟨od, J⟩ := J
    obtain ⟨cd, hc, _⟩ := PySem.W.any_some C.hd
    exact PySem.W.kia_one (PySem.W.kitx_exc (od := od) (by rw [hc]; rfl) C.hg C.hk C.hs C.ha C.hn C.ht C.hm) I.kIn J e (fun z => nomatch z) fun tk => ⟨.bl b, H, I.kept (t' := tk) fun _ _ z => z, rfl, q⟩
def errV (a : Addr) (cls : Value) (d : Option Addr) (v : SV) (k : DErr → Prop) : Prop := match v with
  | .err a' cls' d' e => (a' = a ∧ cls' = cls ∧ d' = d) ∧ k e
  | _ => False
/-- isinstance(e, C) in a suite -/
def dIsX (a : Addr) (cls : Value) (d : Option Addr) (i : Nat) (t : Str → Option Bool) : DE := fun S Q _ => gx i S.g fun v => errV a cls d v fun e => onS (t e.c) fun b => Q (.val (.bl b)) S
/-- e.thing in a suite -/
def dErF (a : Addr) (cls : Value) (d : Option Addr) (i : Nat) (t : Str → Option Bool) : DE := fun S Q _ => gx i S.g fun v => errV a cls d v fun e => onS (t e.c) fun _ => onS e.fd fun x => Q (.val x) S
/-- what the classes of a table must have -/
def KitE (K : PySem.W.Frag) (cv : Value) (t : Str → Option Bool) : Prop := ∀ x b, t x = some b → PySem.W.kitOne K (.ref (He.ga K x)) cv = some b ∧ ExcC K (He.ga K x)
theorem KitE.nil {K : PySem.W.Frag} {c : Value} : KitE K c cNil := fun x b h => by cases h
theorem KitE.cons {K : PySem.W.Frag} {c : Value} {y : Str} {b : Bool} {t : Str → Option Bool} (h : PySem.W.kitOne K (.ref (He.ga K y)) c = some b) (hc : ExcC K (He.ga K y)) (r : KitE K c t) : KitE K c (cCons y b t) := fun x d e => by
  have e' : (if x = y then some b else t x) = some d := e
  by_cases q : x = y
  · rw [if_pos q] at e'
    cases e'
    rw [q]; exact ⟨h, hc⟩
  · rw [if_neg q] at e'
    exact r x d e'
/-- classes with a field -/
def FldE (K : PySem.W.Frag) (t : Str → Option Bool) : Prop := ∀ x b, t x = some b → Hf.OexF K (He.ga K x) ∧ ExcC K (He.ga K x)
theorem FldE.nil {K : PySem.W.Frag} : FldE K cNil := fun x b h => by cases h
theorem FldE.cons {K : PySem.W.Frag} {y : Str} {b : Bool} {t : Str → Option Bool} (h : Hf.OexF K (He.ga K y)) (hc : ExcC K (He.ga K y)) (r : FldE K t) : FldE K (cCons y b t) := fun x d e => by
  have e' : (if x = y then some b else t x) = some d := e
  by_cases q : x = y
  · rw [q]; exact ⟨h, hc⟩
  · rw [if_neg q] at e'
    exact r x d e'
section
variable {K : PySem.W.Frag} {F F' H H' F0 H0 : Hp} {σ σ' σ1 σ2 σ0 : L2.St} {S S' S1 S2 S0 : DSt} {F1 F2 H1 H2 : Hp} {p : Addr} {v : V} {W : WX}
theorem gx_ok {n : Nat} {g : List (Option SV)} {k : SV → Prop} (h : gx n g k) : ∃ x, g[n]? = some (some x) ∧ k x := by
  rw [gx_eq] at h
  split at h
  · rename_i x e
    exact ⟨x, e, h⟩
  · exact h.elim
theorem errV_ok {a : Addr} {cls : Value} {d : Option Addr} {x : SV} {k : DErr → Prop} (h : errV a cls d x k) : ∃ e, x = .err a cls d e ∧ k e := by
  cases x with
  | err a' c' d' e =>
    obtain ⟨⟨rfl, rfl, rfl⟩, h⟩ := h
    exact ⟨e, rfl, h⟩
  | _ => exact (show False from h).elim
theorem LE.isX {a : Addr} {cls : Value} {d : Option Addr} {i : Nat} {c : V} {cv : Value} {t : Str → Option Bool} (g : KitE K cv t) (hc : ∀ u, RelV c u → u = cv) : LE K W (tCB (rIsX K a cls d) (tCons (tVar i) (tCons (tC c) tNil))) (dIsX a cls d i t) := fun F H σ S Q Qd Ed s hd k e => by
  obtain ⟨x, e1, h1⟩ := gx_ok hd
  obtain ⟨er, rfl, h2⟩ := errV_ok h1
  obtain ⟨b, e2, h3⟩ := onS_ok h2
  obtain ⟨w, e3, rfl, r⟩ := s.sl i _ e1
  obtain ⟨g1, g2⟩ := g _ _ e2
  refine ⟨_, e3, He.ga K er.c, c, cv, b, r.1, g2, ?_, rfl, hc, g1, k _ (.val (.bl b)) F H S (Stp.refl s) (Rp.bl b) Nw.val h3⟩
  cases z : er.fd with
  | none => exact .inl (r.2.1 z)
  | some y =>
    obtain ⟨dd, u, h1, h2, _⟩ := r.2.2 y z
    exact .inr ⟨dd, _, h1, s.ex _ _ h2⟩
/-- the reading of e.f in a suite: the class is one of many -/
def tXfA (K : PySem.W.Frag) (a : Addr) (cls : Value) (d : Option Addr) (f : Str) (te : TE) : TE := fun σ H Q => ∃ C, XfC K C ∧ PySem.W.findIn K (.ref C) f = some none ∧ tXf a cls d C f te σ H Q
theorem pe_xfA {X : Cx} {a : Addr} {oe : Obj} {cls : Value} {d : Option Addr} {pn : List (Addr × Obj)} {e : Expr} {te : TE} {pos : Pos} {n : Str}
    (hz : Zc cls d oe) (hf : ∃ vs, oe.data = .fields vs) (he : PE (X.suite a ((a, oe) :: pn)) e te) (hb : attributeBase e n X.env (eval e X.env) = eval e X.env := by rfl) :
    PE (X.suite a ((a, oe) :: pn)) (.Attribute e n pos) (tXfA X.K a cls d n te) := ⟨fun pins s σ H Q I h => by
  obtain ⟨C, T, no, h⟩ := h
  exact (pe_xf T no hz hf he hb).run pins s σ H Q I h⟩
theorem LE.erF {a : Addr} {cls : Value} {d : Option Addr} {i : Nat} {t : Str → Option Bool} (g : FldE K t) : LE K W (tXfA K a cls d "thing" (tVar i)) (dErF a cls d i t) := fun F H σ S Q Qd Ed s hd k e => by
  obtain ⟨x, e1, h1⟩ := gx_ok hd
  obtain ⟨er, rfl, h2⟩ := errV_ok h1
  obtain ⟨b, e2, h3⟩ := onS_ok h2
  obtain ⟨y, e4, h4⟩ := onS_ok h3
  obtain ⟨w, e3, rfl, r⟩ := s.sl i _ e1
  obtain ⟨g1, g2⟩ := g _ _ e2
  obtain ⟨dd, u, q1, q2, q3⟩ := r.2.2 y e4
  exact ⟨He.ga K er.c, ⟨g2.hg, g2.hk, g2.hs, g2.hd⟩, g1.no, _, e3, rfl, r.1, dd, _, u, q1, s.ex _ _ q2, by simp [List.lookup], k u (.val y) F H S (Stp.refl s) q3 Nw.val h4⟩
end
section
variable {a : Addr} {cls : Value} {d : Option Addr} {i : Nat} {t : Str → Option Bool} {g : List (Option SV)} {o : OM} {Q : TV → DSt → Prop} {E : DErr → DSt → Prop} {e : DErr} {k : DErr → Prop}
instance p_isX : Step (dIsX a cls d i t ⟨g, o⟩ Q E) (gx i g fun v => errV a cls d v fun e => onS (t e.c) fun b => Q (.val (.bl b)) ⟨g, o⟩) := ⟨fun h => h⟩
instance p_erF : Step (dErF a cls d i t ⟨g, o⟩ Q E) (gx i g fun v => errV a cls d v fun e => onS (t e.c) fun _ => onS e.fd fun x => Q (.val x) ⟨g, o⟩) := ⟨fun h => h⟩
instance p_errV : Step (errV a cls d (.err a cls d e) k) (k e) := ⟨fun h => ⟨⟨rfl, rfl, rfl⟩, h⟩⟩
end
/-! ### exceptions made with a field -/
theorem getmeth_cls {prog : Program} {w : World} {A : Around} {E : Value → Shared → Prop} {s : Shared} {K : PySem.W.Frag} {C : Addr} {n : Str} {v : Value} {pl : Sem Bool} {Q : Value × List Value → Shared → Prop} (I : K.In s.heap) (hr : PySem.W.readsIn K C (.type "type") = true)
    (e : PySem.W.findCls K (.ref C) (.type "type") n = some (.val v)) (hh : PySem.W.handedIn v = true) (h : Q (v, []) { s with toks := s.toks + 1 }) : wpAny (model prog w) A (getMethod (.ref C) n pl) Q E s := by
  have e1 := hr
  simp only [PySem.W.readsIn, Bool.and_eq_true, beq_iff_eq] at e1
  have lt : PySem.W.Looks (model prog w) s.heap (typeOf (.ref C)) (.type "type") := PySem.W.looks_typeIn I e1.1.1.1.2
  unfold getMethod specialOf
  refine wpAny_bind (wpAny_bind (lt.here ((PySem.W.looks_findIn I e1.1.1.2).here ?_)))
  dsimp only
  rw [if_pos PySem.W.canon_tga]
  exact wpAny_bind (wpAny_mono (Q := fun v => Q (v, [])) (E := E) (PySem.W.cls_value I hr e hh h) (fun _ _ z => wpAny_pure z) fun _ _ z => z)
/-- Y.__init__(self, ..), Y an own class over ValueError without an __init__ -/
theorem pe_vinit {X : Cx} {y : Str} {C : Addr} {e : Expr} {es : List Expr} {ta : TA} {p1 p2 pos : Pos} {pl : Sem Bool} (hg : Gl X y) (hm : X.mg y = some (.ref C)) (hv : PySem.W.readsIn X.K C (.type "type") = true ∧ PySem.W.findCls X.K (.ref C) (.type "type") "__init__" = some (.val (.builtin "ValueError.__init__"))) (ha : PA X (e :: es) ta)
    (hdb : (y == ("__debug__" : Str)) = false := by decide)
    (ht : eval (.Call (.Attribute (.Name y p1) "__init__" p2) (e :: es) [] pos) X.env = (do
      let ov ← eval (.Name y p1) X.env
      standAt p2.atName
      let (f, first) ← holding [ov] (getMethod ov "__init__" pl)
      callWith pos f first (backTo pos (starEach (e :: es) X.env)) (backToKw pos (keywordEach [] X.env))) := by rfl)
    (he : starEach (e :: es) X.env = (false, eval e X.env) :: starEach es X.env := by rfl) (hpl : (backTo pos (starEach es X.env)).any (·.1) = false := by rfl) :
    PE X (.Call (.Attribute (.Name y p1) "__init__" p2) (e :: es) [] pos) (tVeI X.K ta) := by
  refine ⟨fun pins s σ H Q I h => PySem.W.methodCall_KW (ld_glob I hg hm ?_ hdb) ht⟩
  refine getmeth_cls I.kIn hv.1 hv.2 (by decide +kernel) ?_
  show wpAny _ _ (callWith pos (Value.builtin "ValueError.__init__") [] (backTo pos (starEach (e :: es) X.env)) []) _ _ _
  refine PyProof.Rows.callWith_method1 (thn (ha.run pos pins _ σ H _ (I.tok _) h) fun us s1 ⟨vs, H1, I1, r1, a, C, ws, ev, hl, T, ea, q⟩ => ?_) he hpl
  subst ev
  match us, r1 with
  | u0 :: ur, .cons ra rw' =>
    obtain rfl : u0 = Value.ref a := ra
    exact oinit_ok T I1 ea (by rw [← Paired.length rw', sizeLine_eq]; omega) fun s' J => ⟨.non, H1, J, rfl, q⟩
/-- what the __init__ of such a class keeps -/
def spXi (K : PySem.W.Frag) : Sp := fun vs H Q _ => ∃ (a C : Addr) (x : V), vs = [.ref a, x] ∧ Hf.OexF K C ∧ H a = some (exo a C none) ∧ ∀ dx, H dx = none → dx ≠ a → Q .non (upd (upd H dx (exd dx [("thing", x)])) a (exo a C (some dx)))
section
variable {P : Program} {w : World} {K : PySem.W.Frag} {mg : Str → Option Value} {base : Heap}
theorem xi_fn {qual m : Str} {params : Arguments} {body : List Stmt} {scope : Scope} {f : Addr} {fd : FuncData} (Fd : FunD K "__init__" qual params body scope [] [] f fd) (Sc : FnScope ["self", "thing"] ["self", "thing"] scope)
    (hb : ∀ cdv A outer s H E, PSs (cxOf (L2.CX P w) P w K mg base ["self", "thing"] qual scope f cdv A outer s H E) body (tSeq (tDrop (tVeI K (tCons (tVar 0) (tCons (tC (.str m)) tNil)))) (tOst K "thing" (tVar 0) (tVar 1)))) :
    FnOk P w K mg base (L2.CX P w) 1 f fd ["self", "thing"] (spXi K) := by
  refine Fd.ok (k := 0) Sc (fun vs H Q E h => ?_) fun cdv A outer s H vs Q E hr h => ⟨_, hb cdv A outer s H E, ?_⟩
  · obtain ⟨a, C, x, rfl, _⟩ := h
    rfl
  · obtain ⟨a, C, x, rfl, T, ea, q⟩ := h
    refine ⟨.ref a, rfl, ⟨a, C, [.str m], rfl, (by decide : 1 ≤ 1000), T.oex, ea, ?_⟩⟩
    exact ⟨x, rfl, .ref a, rfl, a, C, rfl, T.oex, T.no, .inl ⟨ea, fun dx n ne => q dx n ne⟩⟩
/-- an exception class that is made with a field -/
structure CalX (P : Program) (w : World) (K : PySem.W.Frag) (mg : Str → Option Value) (base : Heap) (c : Str) : Prop where
  ex : ∃ fd, FnOk P w K mg base (L2.CX P w) 1 (He.ma K (He.ga K c) "__init__") fd ["self", "thing"] (spXi K) ∧ Binds K fd ["self", "thing"] []
  oex : Hf.OexF K (He.ga K c)
  g : mg c = some (.ref (He.ga K c))
end
def tRsF (K : PySem.W.Frag) (W : WX) (c : Str) (ta : TA) : TS := fun _ σ H => tMkO (He.ga K c) (spXi K) [] ta σ H fun cls d H' => W cls d σ H'
theorem ps_raiseF {X : Cx} {W : WX} {c : Str} {j : Nat} {e : Expr} {ta : TA} {p pos pos' : Pos} (hc : X.calm = true) (c0 : CalX X.prog X.w X.K X.mg X.base c) (hr : Room j X.A) (tk : Takes X W) (ha : PA X [e] ta) (hk : 2 ≤ j := by first | decide | omega) (hg : Gl X c := by rfl) (hdb : (c == ("__debug__" : Str)) = false := by decide)
    (he : starEach [e] X.env = (false, eval e X.env) :: starEach [] X.env := by rfl) (hpl : (backTo pos (starEach [] X.env)).any (·.1) = false := by rfl) :
    PS X (.Raise (some (.Call (.Name c p) [e] [] pos)) none pos') (tRsF X.K W c ta) := by
  obtain ⟨fd, F, b⟩ := c0.ex
  exact ps_raise hc tk (pmk_oex c0.oex.oex c0.oex.ini c0.oex.fn F (hr.mono hk) b .nil (passes_call tk fun _ _ _ _ z => z.elim) hg c0.g ha hdb he hpl)
def oneX (xs : List DV) (k : DV → Prop) : Prop := match xs with
  | [x] => k x
  | _ => False
def dRaiseF (c : Str) (da : DA) : DS := fun S D => da S (fun xs S1 => oneX xs fun x => D.ex ⟨c, some x⟩ S1) D.ex
section
variable {K : PySem.W.Frag} {W : WX} {c : Str}
theorem LS.raiseF {ta : TA} {da : DA} (T : Hf.OexF K (He.ga K c)) (h : LA K W ta da) : LS K W (tRsF K W c ta) (dRaiseF c da) := fun F H σ S D Dd s hd k => by
  refine h F H σ S _ _ Dd.ex s hd (fun vs xs F1 H1 S1 a r q => ?_) k.ex
  match xs, r, q with
  | [x], @Rps.cons _ _ v _ _ _ rx .nil, q =>
    refine ⟨(by decide : 1 ≤ 1000), fun b hb => ⟨b, He.ga K c, v, rfl, T, upd_same, fun dx hdx ne => ⟨rfl, dx, [("thing", v)], upd_same, by rw [upd_ne ne]; exact upd_same, by rw [upd_ne ne] at hdx; exact hdx, ?_⟩⟩⟩
    have hd1 : H1 dx = none := by rw [upd_ne ne] at hdx; exact hdx
    have eH : upd (del (upd (upd (upd H1 b (exo b (He.ga K c) none)) dx (exd dx [("thing", v)])) b (exo b (He.ga K c) (some dx))) b) dx (.xd [("thing", v)]) = upd H1 dx (.xd [("thing", v)]) := by
      funext z
      by_cases c1 : z = dx
      · rw [c1, upd_same, upd_same]
      · rw [upd_ne c1, upd_ne c1]
        by_cases c2 : z = b
        · rw [c2, del_same, hb]
        · rw [del_ne c2, upd_ne c2, upd_ne c1, upd_ne c2]
    rw [eH]
    have g : Same H1 (upd H1 dx (.xd [("thing", v)])) := fun z u e => by rw [upd_ne (fun w => by rw [w, hd1] at e; cases e)]; exact e
    have nw : ¬ ow σ S1 dx := fun z => by
      obtain ⟨_, o, h⟩ := a.st.ow_some z
      exact h.ne hd1
    have b1 := frz_new (Stp.grow a.st g) (a.st.ex.free hd1) upd_same nw (.inl hd1)
    refine k.ex (.ref (He.ga K c)) (some dx) ⟨c, some x⟩ _ _ σ S1 (a.trans b1) ⟨rfl, (fun z => by cases z), fun y hy => ?_⟩ (fun y hy => ?_) q
    · cases hy
      exact ⟨dx, v, rfl, upd_same, rx.mono b1.fx⟩
    · cases hy
      exact a.newb (.inl hd1)
end
section
variable {c : Str} {da : DA} {S : DSt} {D : DEnds} {x : DV} {k : DV → Prop}
instance p_raiseF : Step (dRaiseF c da S D) (da S (fun xs S1 => oneX xs fun x => D.ex ⟨c, some x⟩ S1) D.ex) := ⟨fun h => h⟩
instance p_oneX : Step (oneX [x] k) (k x) := ⟨fun h => h⟩
end
/-! ### lengths of lists that are written out -/
class LitB {α : Type} (xs : List α) (k : Nat) : Prop where
  le : xs.length ≤ k
instance lit_nil {α : Type} {k : Nat} : LitB ([] : List α) k := ⟨Nat.zero_le _⟩
instance lit_cons {α : Type} {x : α} {xs : List α} {k : Nat} [h : LitB xs k] : LitB (x :: xs) (k + 1) := ⟨Nat.succ_le_succ h.le⟩
instance lit_app {α : Type} {a b : List α} {k : Nat} [h : LitB a k] [g : LitB b 20] : LitB (a ++ b) (k + 20) := ⟨by rw [List.length_append]; exact Nat.add_le_add h.le g.le⟩
instance p_litL {α : Type} {xs : List α} {R : Prop} [h : LitB xs 60] : Step (xs.length ≤ sizeLine ∧ R) R := ⟨fun r => ⟨Nat.le_trans h.le (by rw [sizeLine_eq]; decide), r⟩⟩
instance p_litL2 {α β : Type} {xs : List α} {ys : List β} {R : Prop} [h : LitB xs 60] [g : LitB ys 60] : Step (xs.length + ys.length ≤ sizeLine ∧ R) R := ⟨fun r => ⟨Nat.le_trans (Nat.add_le_add h.le g.le) (by rw [sizeLine_eq]; decide), r⟩⟩

/-! ### rules whose term names the fragment (for use where the context is a try's) -/
section
variable {X : Cx} {W : WX} {k j : Nat} {c cn m : Str} {ps : List Str} {sp : Sp} {e o : Expr} {es : List Expr} {ta : TE} {t : TA} {p pos apos : Pos}
theorem pe_initK (K : PySem.W.Frag) (hK : X.K = K) (c' : CalI X.prog X.w X.K X.mg X.base k c ps sp) (hr : Room j X.A) (tk : Takes X W) (ha : PA X (e :: es) t) (hk : k + 1 ≤ j := by first | decide | omega) (hg : Gl X c := by rfl) (hdb : (c == ("__debug__" : Str)) = false := by decide)
    (he : starEach (e :: es) X.env = (false, eval e X.env) :: starEach es X.env := by rfl) (hpl : (backTo pos (starEach es X.env)).any (·.1) = false := by rfl) :
    PE X (.Call (.Name c p) (e :: es) [] pos) (tMakeS (He.ga K c) sp (WE W) t) := by
  subst hK; exact pe_init c' hr tk ha hk hg hdb he hpl
theorem pe_init0K (K : PySem.W.Frag) (hK : X.K = K) (c' : CalI X.prog X.w X.K X.mg X.base k c ps sp) (hr : Room j X.A) (tk : Takes X W) (hk : k + 1 ≤ j := by first | decide | omega) (hg : Gl X c := by rfl) (hdb : (c == ("__debug__" : Str)) = false := by decide) :
    PE X (.Call (.Name c p) [] [] pos) (tMakeS (He.ga K c) sp (WE W) tNil) := by
  subst hK; exact pe_init0 c' hr tk hk hg hdb
theorem pe_mcalK {pl : Sem Bool} (K : PySem.W.Frag) (hK : X.K = K) (he : PE X o ta) (c : CalM X.prog X.w X.K X.mg X.base k cn m ps sp) (hr : Room j X.A) (tk : Takes X W) (ha : PA X (e :: es) t) (hk : k ≤ j := by first | decide | omega)
    (hst : starEach (e :: es) X.env = (false, eval e X.env) :: starEach es X.env := by rfl) (hpl : (backTo pos (starEach es X.env)).any (·.1) = false := by rfl)
    (ht : eval (.Call (.Attribute o m apos) (e :: es) [] pos) X.env = (do
      let ov ← eval o X.env
      standAt apos.atName
      let (f, first) ← holding [ov] (getMethod ov m pl)
      callWith pos f first (backTo pos (starEach (e :: es) X.env)) (backToKw pos (keywordEach [] X.env))) := by rfl) :
    PE X (.Call (.Attribute o m apos) (e :: es) [] pos) (tCallS sp (WE W) (tRecv (He.ga K cn) m ta t)) := by
  subst hK; exact pe_mcal he c hr tk ha hk hst hpl ht
theorem pe_mcal0K {pl : Sem Bool} (K : PySem.W.Frag) (hK : X.K = K) (he : PE X o ta) (c : CalM X.prog X.w X.K X.mg X.base k cn m ps sp) (hr : Room j X.A) (tk : Takes X W) (hk : k ≤ j := by first | decide | omega)
    (ht : eval (.Call (.Attribute o m apos) [] [] pos) X.env = (do
      let ov ← eval o X.env
      standAt apos.atName
      let (f, first) ← holding [ov] (getMethod ov m pl)
      callWith pos f first (backTo pos (starEach [] X.env)) (backToKw pos (keywordEach [] X.env))) := by rfl) :
    PE X (.Call (.Attribute o m apos) [] [] pos) (tCallS sp (WE W) (tRecv (He.ga K cn) m ta tNil)) := by
  subst hK; exact pe_mcal0 he c hr tk hk ht
theorem pe_prpK (K : PySem.W.Frag) (hK : X.K = K) (he : PE X e ta) (c : CalP X.prog X.w X.K X.mg X.base k cn m ps sp) (hr : Room j X.A) (hk : k + 1 ≤ j := by first | decide | omega) (hab : attributeBase e m X.env (eval e X.env) = eval e X.env := by rfl) :
    PE X (.Attribute e m pos) (tPrp (He.ga K cn) sp ta) := by
  subst hK; exact pe_prp he c hr hk hab
end
end L3

/-! L4g: walks over a tuple; d.get(k, x) and other small things. -/
namespace L3
open PySem PySem.Spec PyProof.Rows L2
def tupL : DV → Option (List DV)
  | .tup xs => some xs
  | _ => none
def iU (d : DX) : DI := fun S Q Ed => d S (fun x S1 => onS (tupL x) fun xs => Q xs S1) Ed
theorem LI.tup {K : PySem.W.Frag} {W : WX} {t : TE} {d : DX} (h : LX K W t d) : LI K W (iTup K t) (iU d) := fun F H σ S R Qd Ed s hd k e =>
  h F H σ S _ _ _ s hd (fun v x F1 H1 S1 a r q => by
    obtain ⟨xs, e1, q⟩ := onS_ok q
    cases x with
    | tup ys =>
      cases e1
      cases r with
      | @tup b vs _ h1 h2 =>
        refine ⟨b, rfl, ⟨vs, Same.seqT a.st.ex h1⟩, k _ xs F1 H1 S1 a (fun F2 H2 σ2 S2 s2 f2 i => ?_) q⟩
        have hb : SqT K H2 b vs := Same.seqT s2.ex (Same.seqT f2 h1)
        refine ⟨fun hi => ⟨vs, hb, by rw [h2.len, hi]; exact Nat.le_refl _⟩, fun x hx => ?_⟩
        obtain ⟨u, hu, ru⟩ := h2.get hx
        refine ⟨⟨vs, u, hb, hu⟩, fun v H3 hy => ?_⟩
        obtain ⟨e3, hy⟩ := hy
        subst e3
        have := hy vs hb
        rw [hu] at this; cases this
        exact ⟨F2, Stp.refl s2, ru.mono f2⟩
    | _ => cases e1) e
section
variable {dX : DX} {S : DSt} {Q : List DV → DSt → Prop} {E : DErr → DSt → Prop} {xs : List DV} {k : List DV → Prop}
instance p_iU : Step (iU dX S Q E) (dX S (fun x S1 => onS (tupL x) fun xs => Q xs S1) E) := ⟨fun h => h⟩
instance p_tupL : Step (onS (tupL (.tup xs)) k) (k xs) := ⟨fun h => h⟩
end
end L3

/-! L4h: tuple(xs). -/
namespace L3
open PySem PySem.Spec PyProof.Rows L2
section
variable {K : PySem.W.Frag}
def tupF (xs : List DV) : Option TV := match xs with
  | [.lst ys] => some (.val (.tup ys))
  | [.seq ys] => some (.val (.tup ys))
  | _ => none
theorem Gn.tupOf : Gn K (fun xs H Q => ∃ p ys, xs = [.ref p] ∧ ((SqL K H p ys ∧ ∀ l, H l = none → Q (.ref l) (upd H l (.tup ys))) ∨ (SqT K H p ys ∧ Q (.ref p) H))) tupF := fun F H vs xs z Q s r e R => by
  unfold tupF at e
  split at e
  · cases e; obtain ⟨v, rfl, h⟩ := r.one; obtain ⟨a, us, rfl, h1, h2⟩ := h.list s
    exact ⟨a, us, rfl, .inl ⟨.inl (.inl h1), fun l hl => Res.newT R s hl h2⟩⟩
  · cases e; obtain ⟨v, rfl, h⟩ := r.one; obtain ⟨a, us, rfl, h1, h2⟩ := h.seq s
    exact ⟨a, us, rfl, .inl ⟨h1, fun l hl => Res.newT R s hl h2⟩⟩
  · cases e
variable {xs : List DV} {k : TV → Prop}
instance p_tupF_l : Step (onS (tupF [.lst xs]) k) (k (.val (.tup xs))) := ⟨fun h => h⟩
instance p_tupF_q : Step (onS (tupF [.seq xs]) k) (k (.val (.tup xs))) := ⟨fun h => h⟩
end
end L3

/-! L4i: == and != of equal nested lists and dicts. -/
namespace PySem.SeqAt
open PySem.AutoSeq1 (wpAny_loadPart')
open PySem.MeetsSeq PySem.MeetsSeq2
open PySem.MeetsSeq3 PySem.SeqRoads2
section
variable {prog : Program} {w : World}
theorem neL_loop (l b : Addr) (xs ys : Array Value) (n m : Nat) (p q : Option Addr) (sl sr : Array (Option Value)) (sz : xs.size = ys.size) (k : Nat) :
    ∀ i : Nat, xs.size - i = k → MeetsIn prog w (Builtin.«list.__eq__.loop» ⟨[.ref l, .ref b, rawInt i, rawInt 3], []⟩)
      (fun A R s => (s.heap.get? l = some { cls := .type "list", dict := p, data := .seq xs n, slots := sl } ∧ s.heap.get? b = some { cls := .type "list", dict := q, data := .seq ys m, slots := sr }) ∧
        (∀ j (j1 : j < xs.size) (j2 : j < ys.size), EqP prog w A.in1 s xs[j] ys[j] true) ∧ R (.ok (.ret (.bool false))) s) := by
  induction k with
  | zero =>
    intro i hk A R s z
    obtain ⟨hp, g, d, tk, os⟩ := s
    obtain ⟨⟨hl, hb⟩, _, z⟩ := z
    wp_walk using wpAny_loadPart' hl, wpAny_loadPart' hb
    have i1 : xs[((i : Nat) : Int).toNat]? = none := by simp; omega
    have i2 : ys[((i : Nat) : Int).toNat]? = none := by simp; omega
    rw [i1, i2]
    wp_walk using wpAny_loadPart' hl, wpAny_loadPart' hb
    show R (.ok (.ret (.bool (xs.size != ys.size)))) _
    rw [sz]
    simpa using z
  | succ k ih =>
    intro i hk A R s z
    obtain ⟨hp, g, d, tk, os⟩ := s
    obtain ⟨⟨hl, hb⟩, eq, z⟩ := z
    wp_walk using wpAny_loadPart' hl, wpAny_loadPart' hb
    have l1 : i < xs.size := by omega
    have l2 : i < ys.size := by omega
    have i1 : xs[((i : Nat) : Int).toNat]? = some xs[i] := by simp [l1]
    have i2 : ys[((i : Nat) : Int).toNat]? = some ys[i] := by simp [l2]
    rw [i1, i2]
    refine wpAny_bind (eq i l1 l2 _ _ ?_)
    wp_walk
    rw [show ((i : Int) + 1) = ((i + 1 : Nat) : Int) from rfl]
    exact ⟨plainId_quiet plain_eq_loop _, codeAny_builtin entry_eq_loop (by
      rw [Around.under_plainId plain_eq_loop _]; exact ih (i + 1) (by omega) A R _ ⟨⟨hl, hb⟩, eq, z⟩)⟩
theorem neL_list (l b : Addr) (xs ys : Array Value) (n m : Nat) (p q : Option Addr) (sl sr : Array (Option Value)) (sz : xs.size = ys.size) :
    MeetsIn prog w (Builtin.«list.__ne__» ⟨[.ref l, .ref b], []⟩)
      (fun A R s => (s.heap.get? l = some { cls := .type "list", dict := p, data := .seq xs n, slots := sl } ∧ s.heap.get? b = some { cls := .type "list", dict := q, data := .seq ys m, slots := sr }) ∧
        (∀ j (j1 : j < xs.size) (j2 : j < ys.size), EqP prog w A.in1 s xs[j] ys[j] true) ∧ R (.ok (.ret (.bool false))) s) := by
  intro A R s z
  obtain ⟨hp, g, d, tk, os⟩ := s
  obtain ⟨⟨hl, hb⟩, eq, z⟩ := z
  have sub := AutoSeq1.sub_list_list
  have ne : ¬ (xs.size != ys.size) = true := by simp [sz]
  wp_walk using wpAny_loadPart' hl, wpAny_loadPart' hb
  exact ⟨plainId_quiet plain_eq_loop _, codeAny_builtin entry_eq_loop (by
    rw [Around.under_plainId plain_eq_loop _]; exact neL_loop l b xs ys n m p q sl sr sz _ 0 rfl A R _ ⟨⟨hl, hb⟩, eq, z⟩)⟩
theorem neL {A : Around} {s : Shared} {l b : Addr} {xs ys : Array Value} (hl : s.heap.IsList l xs) (hb : s.heap.IsList b ys) (sz : xs.size = ys.size) (hu : A.units < cLine)
    (eq : ∀ j (j1 : j < xs.size) (j2 : j < ys.size), EqP prog w A.in1 s xs[j] ys[j] true) (E Q : Value → Shared → Prop) (z : Q (.bool false) s) : wpAny (model prog w) A (richCompare .NotEq (.ref l) (.ref b)) Q E s := by
  obtain ⟨⟨c1, p, d1, sl⟩, h1, e1, n, f1⟩ := id hl
  obtain ⟨⟨c2, q, d2, sr⟩, h2, e2, m, f2⟩ := id hb
  simp only at e1 f1 e2 f2
  subst e1 f1 e2 f2
  have ta : s.TypeIs (.ref l) "list" := ⟨_, h1, rfl⟩
  have tb : s.TypeIs (.ref b) "list" := ⟨_, h2, rfl⟩
  exact wpAny_richCompare_same_room (op := .NotEq) ta tb F.slot_list_ne (call_meetsIn F.slot_list_ne ta F.entry_list_ne (F.args_list_ne_2 _ _) (neL_list l b xs ys n m p q sl sr sz)
    ⟨⟨h1, h2⟩, eq, show Value.bool false ≠ Value.notImplemented ∧ Q (.bool false) s from ⟨(fun x => nomatch x), z⟩⟩) hu
end
end PySem.SeqAt
namespace PySem.W
open PySem.W
section
variable {prog : Program} {w : World} {K : Type} [DecidableEq K] {knd : KeyKind prog w K} {A : Around} {s : Shared}
theorem neD {a b : Addr} {ka kb : List (K × Value)} (ha : (a == sysModules) = false) (hb : (b == sysModules) = false)
    (da : s.heap.DictOf knd a ka) (db : s.heap.DictOf knd b kb) (hu : A.units < cLine) (len : ka.length = kb.length) (hits : KeqHitsP prog w A.in1 s kb ka true) (E Q : Value → Shared → Prop) (z : Q (.bool false) s) : wpAny (model prog w) A (richCompare .NotEq (.ref a) (.ref b)) Q E s := by
  refine wpAny_richCompare_same_room (op := .NotEq) da.typeIs db.typeIs PySem.F.slot_dict_ne
    (wpAny_call_entry PySem.F.slot_dict_ne da.typeIs PySem.F.entry_dict_ne ?_ (PySem.F.args_dict_ne_2 _ _)) hu
  show wpAny _ _ (Builtin.Dict.dictSlotArgs "__ne__" ⟨[.ref a, .ref b], []⟩
    >>= _) _ _ s
  refine wpAny_bind ?_
  unfold Builtin.Dict.dictSlotArgs
  refine wpAny_bind
    (wpAny_notOrdered_dict da.typeIs ?_)
  show wpAny _ _
    (pure (Value.ref a, Value.ref b)) _ _ s
  refine wpAny_pure ?_
  refine wpAny_bind
    (wpAny_isInstance (T := "dict") db.typeIs PySem.F.sub_dict_dict ?_)
  simp only [Bool.not_true,
    Bool.false_eq_true, if_false]
  refine wpAny_bind
    (wpAny_pure (wpAny_bind (wpAny_pure ?_)))
  refine wpAny_bind (samePairsP ha hb da db (fun _ => hits) ?_)
  refine wpAny_pure ⟨_, rfl, ?_, ?_⟩
  · exact fun x => nomatch x
  · rw [len]; simpa using z
end
end PySem.W
namespace L2
open PySem PySem.Spec PyProof.Rows
section
variable {X : Cx}
/-- != of two lists or two dicts that are equal -/
def rNeV (K : PySem.W.Frag) : R2 := fun x y H Q => ∃ n, n ≤ 60 ∧ EqR K H (EqV K H n) x y ∧ Q (.bl false) H
theorem op_neV (hu : X.A.units + 64 < cLine) : OpR X (compareOp .NotEq) (rNeV X.K) := by
  intro pins s σ H x y v u Q I rx ry h
  obtain ⟨n, hn, h, q⟩ := h
  have ih := eqV_run I n X.A.in1 (by show X.A.units + 1 + n < cLine; omega)
  rcases h with ⟨a, b, xs, ys, rfl, rfl, ha, hb, hp⟩ | ⟨a, b, ks, ls, rfl, rfl, ha, hb, hl, hp⟩
  · cases (show v = Value.ref a from rx)
    cases (show u = Value.ref b from ry)
    obtain ⟨us, r1, p1, _⟩ := I.list ha
    obtain ⟨ws, r2, p2, _⟩ := I.list hb
    have sz : us.toArray.size = ws.toArray.size := by
      rw [List.size_toArray, List.size_toArray, ← r1.length, ← r2.length]; exact Paired.length hp
    refine SeqAt.neL p1.isList p2.isList sz (by omega) (fun j j1 j2 => ?_) _ _ ⟨.bl false, H, I, rfl, q⟩
    have k := items_run ih hp r1 r2 j (by simpa using j1) (by simpa using j2)
    simpa using k
  · cases (show v = Value.ref a from rx)
    cases (show u = Value.ref b from ry)
    obtain ⟨_, ya, va, ra, da⟩ := (show ObjOk X.prog X.w H s.heap a (.dK ks) from I.hok a _ ha)
    obtain ⟨_, yb, vb, rb, db⟩ := (show ObjOk X.prog X.w H s.heap b (.dK ls) from I.hok b _ hb)
    exact PySem.W.neD (knd := mixKind X.prog X.w) ya yb da db (by omega) (by rw [← ra.length, ← rb.length]; exact hl) (hits_run ih rb ra hp) _ _ ⟨.bl false, H, I, rfl, q⟩
end
end L2
namespace L3
open PySem PySem.Spec PyProof.Rows L2
section
variable {K : PySem.W.Frag} {F H : Hp}
/-- plain data of lists and dicts, of nesting below n -/
def ed : Nat → DV → Bool
  | 0, _ => false
  | _ + 1, .non => true
  | _ + 1, .bl _ => true
  | _ + 1, .int _ => true
  | _ + 1, .str _ => true
  | n + 1, .lst xs => xs.all (ed n)
  | n + 1, .dic kvs => decide (kvs.map (·.1)).Nodup && kvs.all fun p => ed n p.2
  | _ + 1, _ => false
theorem Rks.look {vs : List (Key × V)} {xs : List (Key × DV)} (r : Rks K F vs xs) : vs.map (·.1) = xs.map (·.1) := by
  induction xs generalizing vs with
  | nil => cases r; rfl
  | cons x xs ih =>
    cases r with
    | cons h r => rw [List.map_cons, List.map_cons, ih r]
/-- two readings of the same items -/
theorem rps_pair {E : V → V → Prop} {vs us : List V} {xs : List DV} (h : ∀ x ∈ xs, ∀ v u, Rp K F v x → Rp K F u x → E v u) (r : Rps K F vs xs) (q : Rps K F us xs) : Paired E vs us := by
  induction xs generalizing vs us with
  | nil => cases r; cases q; exact .nil
  | cons x xs ih =>
    cases r with
    | cons a r => cases q with
      | cons b q => exact .cons (h x List.mem_cons_self _ _ a b) (ih (fun y hy => h y (List.mem_cons_of_mem _ hy)) r q)
theorem rks_pair {E : V → V → Prop} {vs us : List (Key × V)} {xs : List (Key × DV)} (h : ∀ p ∈ xs, ∀ v u, Rp K F v p.2 → Rp K F u p.2 → E v u) (r : Rks K F vs xs) (q : Rks K F us xs) : ∀ p ∈ vs, ∃ u, (p.1, u) ∈ us ∧ E p.2 u := by
  induction xs generalizing vs us with
  | nil => cases r; exact fun p hp => (List.not_mem_nil hp).elim
  | cons x xs ih =>
    cases r with
    | cons a r => cases q with
      | cons b q =>
        intro p hp
        rcases List.mem_cons.mp hp with rfl | hp
        · exact ⟨_, List.mem_cons_self, h _ List.mem_cons_self _ _ a b⟩
        · obtain ⟨u, hu, e⟩ := ih (fun y hy => h y (List.mem_cons_of_mem _ hy)) r q p hp
          exact ⟨u, List.mem_cons_of_mem _ hu, e⟩
theorem ed_dic {n : Nat} {kvs : List (Key × DV)} (h : ed (n + 1) (.dic kvs) = true) : (kvs.map (·.1)).Nodup ∧ ∀ p ∈ kvs, ed n p.2 = true := by
  have h' : (decide (kvs.map (·.1)).Nodup && kvs.all fun p => ed n p.2) = true := h
  rw [Bool.and_eq_true, decide_eq_true_iff, List.all_eq_true] at h'
  exact h'
theorem ed_lst {n : Nat} {xs : List DV} (h : ed (n + 1) (.lst xs) = true) : ∀ x ∈ xs, ed n x = true := List.all_eq_true.mp h
theorem eqV_of (s : Same F H) : ∀ (n : Nat) (x : DV) (v u : V), ed n x = true → Rp K F v x → Rp K F u x → EqV K H n v u
  | 0, x, v, u, h, _, _ => by cases x <;> cases h
  | n + 1, .non, v, u, _, r, q => by cases r; cases q; exact .inl ⟨rfl, rfl⟩
  | n + 1, .bl b, v, u, _, r, q => by cases r; cases q; exact .inl ⟨rfl, rfl⟩
  | n + 1, .int i, v, u, _, r, q => by cases r; cases q; exact .inl ⟨rfl, rfl⟩
  | n + 1, .str i, v, u, _, r, q => by cases r; cases q; exact .inl ⟨rfl, rfl⟩
  | n + 1, .lst xs, v, u, h, r, q => by
    cases r with
    | lst r1 r2 => cases q with
      | lst q1 q2 =>
        exact .inr (.inr (.inl ⟨_, _, _, _, rfl, rfl, .inl (.inl (s _ _ r1)), .inl (.inl (s _ _ q1)), rps_pair (fun x hx v u a b => eqV_of s n x v u (ed_lst h x hx) a b) r2 q2⟩))
  | n + 1, .dic kvs, v, u, h, r, q => by
    obtain ⟨nd, hk⟩ := ed_dic h
    cases r with
    | dic r1 r2 => cases q with
      | dic q1 q2 =>
        refine .inr (.inr (.inr ⟨_, _, _, _, rfl, rfl, s _ _ r1, s _ _ q1, by rw [r2.len, q2.len], fun p hp => ?_⟩))
        obtain ⟨w, hw, e⟩ := rks_pair (fun p hp v u a b => eqV_of s n p.2 v u (hk p hp) a b) r2 q2 p hp
        exact ⟨w, val_nodup (by rw [Rks.look q2]; exact nd) _ hw, e⟩
  | n + 1, .seq _, v, u, h, _, _ => by cases h
  | n + 1, .tup _, v, u, h, _, _ => by cases h
  | n + 1, .ty _, v, u, h, _, _ => by cases h
  | n + 1, .ref _, v, u, h, _, _ => by cases h
  | n + 1, .obj _, v, u, h, _, _ => by cases h
  | n + 1, .dit _, v, u, h, _, _ => by cases h
def isCon : DV → Bool
  | .lst _ => true
  | .dic _ => true
  | _ => false
theorem eqR_of (s : Same F H) {x : DV} {v u : V} (c : isCon x = true) (h : ed 60 x = true) (r : RpB K F H v x) (q : RpB K F H u x) : EqR K H (EqV K H 59) v u := by
  cases x with
  | lst xs =>
    obtain ⟨a, vs, rfl, h1, h2⟩ := r.list s
    obtain ⟨b, us, rfl, h3, h4⟩ := q.list s
    exact .inl ⟨_, _, _, _, rfl, rfl, .inl (.inl h1), .inl (.inl h3), rps_pair (fun x hx v u a b => eqV_of s 59 x v u (ed_lst h x hx) a b) h2 h4⟩
  | dic kvs =>
    obtain ⟨nd, hk⟩ := ed_dic h
    obtain ⟨a, vs, rfl, h1, h2⟩ := dic_of r s (show dicL (.dic kvs) = some kvs from rfl)
    obtain ⟨b, us, rfl, h3, h4⟩ := dic_of q s (show dicL (.dic kvs) = some kvs from rfl)
    refine .inr ⟨_, _, _, _, rfl, rfl, h1, h3, by rw [h2.len, h4.len], fun p hp => ?_⟩
    obtain ⟨w, hw, e⟩ := rks_pair (fun p hp v u a b => eqV_of s 59 p.2 v u (hk p hp) a b) h2 h4 p hp
    exact ⟨w, val_nodup (by rw [Rks.look h4]; exact nd) _ hw, e⟩
  | _ => cases c
open Classical in
noncomputable def eqEF (x y : DV) : Option TV := if x = y ∧ isCon x = true ∧ ed 60 x = true then some (.val (.bl true)) else eqF x y
open Classical in
noncomputable def neEF (x y : DV) : Option TV := if x = y ∧ isCon x = true ∧ ed 60 x = true then some (.val (.bl false)) else neF x y
abbrev rEqE (K : PySem.W.Frag) : R2 := fun x y H Q => rEqA K x y H Q ∨ rEqV K x y H Q
abbrev rNeE (K : PySem.W.Frag) : R2 := fun x y H Q => rNeA K x y H Q ∨ rNeV K x y H Q
theorem G2.eqE : G2 K (rEqE K) eqEF := fun F H v w x y z Q s rx ry e R => by
  unfold eqEF at e
  by_cases c : x = y ∧ isCon x = true ∧ ed 60 x = true
  · rw [if_pos c] at e
    cases e
    obtain ⟨rfl, c1, c2⟩ := c
    exact .inr ⟨59, by decide, eqR_of s c1 c2 rx ry, Res.here R s (.bl _)⟩
  · rw [if_neg c] at e
    exact .inl (G2.eq F H v w x y z Q s rx ry e R)
theorem G2.neE : G2 K (rNeE K) neEF := fun F H v w x y z Q s rx ry e R => by
  unfold neEF at e
  by_cases c : x = y ∧ isCon x = true ∧ ed 60 x = true
  · rw [if_pos c] at e
    cases e
    obtain ⟨rfl, c1, c2⟩ := c
    exact .inr ⟨59, by decide, eqR_of s c1 c2 rx ry, Res.here R s (.bl _)⟩
  · rw [if_neg c] at e
    exact .inl (G2.ne F H v w x y z Q s rx ry e R)
end
section
variable {X : Cx}
theorem opE_eq {k : Nat} (hr : Room k X.A) : OpR X (compareOp .Eq) (rEqE X.K) := (opA_eq hr).or (op_eqV hr.units)
theorem opE_ne {k : Nat} (hr : Room k X.A) : OpR X (compareOp .NotEq) (rNeE X.K) := (opA_ne hr).or (op_neV hr.units)
end
section
variable {x y : DV} {k : TV → Prop} {b : Bool}
theorem eqE_same (c : isCon x = true) (h : ed 60 x = true) (q : k (.val (.bl true))) : onS (eqEF x x) k := by
  unfold eqEF; rw [if_pos ⟨rfl, c, h⟩]; exact q
theorem neE_same (c : isCon x = true) (h : ed 60 x = true) (q : k (.val (.bl false))) : onS (neEF x x) k := by
  unfold neEF; rw [if_pos ⟨rfl, c, h⟩]; exact q
theorem eqE_of (h : eqF x y = some (.val (.bl b))) (hb : x = y → b = true) (q : k (.val (.bl b))) : onS (eqEF x y) k := by
  unfold eqEF
  by_cases c : x = y ∧ isCon x = true ∧ ed 60 x = true
  · rw [if_pos c]; rw [hb c.1] at q; exact q
  · rw [if_neg c, h]; exact q
theorem neE_of (h : neF x y = some (.val (.bl b))) (hb : x = y → b = false) (q : k (.val (.bl b))) : onS (neEF x y) k := by
  unfold neEF
  by_cases c : x = y ∧ isCon x = true ∧ ed 60 x = true
  · rw [if_pos c]; rw [hb c.1] at q; exact q
  · rw [if_neg c, h]; exact q
end
end L3

/-! L4j: xs[-2::-1], all but the last one, backwards. -/
namespace L3
open PySem PySem.Spec PyProof.Rows L2
theorem back_run {α : Type} : ∀ (r b : List α), (List.range r.length).filterMap (fun k => (r.reverse ++ b)[r.length - 1 - k]?) = r
  | [], b => rfl
  | x :: r, b => by
    rw [List.length_cons, List.range_succ_eq_map, List.filterMap_cons]
    have e0 : ((x :: r).reverse ++ b)[r.length + 1 - 1 - 0]? = some x := by
      rw [List.reverse_cons, List.append_assoc, List.getElem?_append_right (by rw [List.length_reverse]; omega), List.length_reverse]
      rw [show r.length + 1 - 1 - 0 - r.length = 0 by omega]
      rfl
    rw [e0]
    show x :: _ = x :: r
    congr 1
    rw [List.filterMap_map]
    have key := back_run r ([x] ++ b)
    refine Eq.trans (congrArg (fun f => List.filterMap f (List.range r.length)) ?_) key
    funext k
    show ((x :: r).reverse ++ b)[r.length + 1 - 1 - (k + 1)]? = _
    rw [List.reverse_cons, List.append_assoc, show r.length + 1 - 1 - (k + 1) = r.length - 1 - k by omega]
theorem pick_back (its : List Value) : slicePick its.toArray (some (-2)) none (some (-1)) = its.dropLast.reverse.toArray := by
  unfold slicePick
  congr 1
  have hb : sliceRange (sliceBounds (some (-2)) none (some (-1)) its.toArray.size).1 (sliceBounds (some (-2)) none (some (-1)) its.toArray.size).2.1 (sliceBounds (some (-2)) none (some (-1)) its.toArray.size).2.2 = (List.range (its.length - 1)).map fun k => its.length - 2 - k := by
    rw [List.size_toArray]
    have b : sliceBounds (some (-2)) none (some (-1)) its.length = (max (-1) ((its.length : Int) - 2), -1, -1) := by
      simp only [sliceBounds, Option.getD_some, show ¬ ((-1 : Int) > 0) by decide, if_false, show (-2 : Int) < 0 by decide, if_true]
      congr 1
      omega
    rw [b]
    unfold sliceRange
    simp only [show ¬ ((-1 : Int) > 0) by decide, if_false]
    by_cases c : 2 ≤ its.length
    · rw [if_pos (by omega), show (max (-1 : Int) ((its.length : Int) - 2) - -1 - -1 - 1) / (- -1) = ((its.length - 1 : Nat) : Int) by rw [show (- -1 : Int) = 1 by decide, Int.ediv_one]; omega, Int.toNat_natCast]
      refine List.map_congr_left fun k hk => ?_
      have := List.mem_range.mp hk
      omega
    · rw [if_neg (by omega), show its.length - 1 = 0 by omega]
      rfl
  rw [hb, List.filterMap_map]
  rcases List.eq_nil_or_concat its with rfl | ⟨l, a, rfl⟩
  · rfl
  · rw [List.concat_eq_append, List.length_append, List.dropLast_append_cons, List.dropLast_singleton, List.append_nil]
    have key := back_run l.reverse [a]
    rw [List.length_reverse, List.reverse_reverse] at key
    refine Eq.trans (congrArg (fun f => List.filterMap f (List.range l.length)) ?_) key
    funext k
    show (l ++ [a]).toArray[l.length + [a].length - 2 - k]? = _
    rw [List.getElem?_toArray, show l.length + [a].length - 2 - k = l.length - 1 - k by show l.length + 1 - 2 - k = _; omega]
def tBk (K : PySem.W.Frag) (te : TE) (tl th : TO) : TE := fun σ H Q => te σ H fun x H1 => tl σ H1 fun l H2 => th σ H2 fun u H3 => ∃ a xs, x = .ref a ∧ l = some (-2) ∧ u = some (-1) ∧ SqL K H3 a xs ∧ ∀ p, H3 p = none → Q (.ref p) (upd H3 p (.lst xs.dropLast.reverse))
section
variable {X : Cx} {e : Expr} {te : TE} {lo st : Expr} {tl th : TO} {pos p2 : Pos}
/-- xs[lo::st], lo = -2, st = -1 -/
theorem pe_back (he : PE X e te) (hl : PO X (some lo) tl) (hs : PO X (some st) th) : PE X (.Subscript e (.Slice (some lo) none (some st) p2) pos) (tBk X.K te tl th) := by
  refine ⟨fun pins s σ H Q I h => ?_⟩
  refine Subscript_ (thn (he.run pins s σ H _ I h) fun v s1 ⟨x, H1, I1, r1, q1⟩ => ?_)
  refine wpAny_Slice (thn (hl.run pins s1 σ H1 _ I1 q1) fun vl s2 ⟨l, H2, I2, pl, q2⟩ => ?_)
  rw [evalPart_none]
  refine wpAny_pure (thn (hs.run pins s2 σ H2 _ I2 q2) fun vk s3 ⟨u, H3, I3, pk, q3⟩ => ?_)
  obtain ⟨a, xs, rfl, rfl, rfl, hx, q⟩ := q3
  cases r1
  have I4 : Inv X pins σ H3 { s3 with heap := s3.heap.push { cls := .type "slice", data := .fields #[vl, .none, vk] } } := I3.kept (t' := s3.toks) fun b ob z => Heap.get?_push_of_some _ z
  obtain ⟨its, r, ht, hz⟩ := I4.list hx
  have hlen := r.length
  have g : wpAny (model X.prog X.w) X.A (getItem (.ref a) (.ref s3.heap.objs.size)) (EP X pins σ Q) X.xe { s3 with heap := s3.heap.push { cls := .type "slice", data := .fields #[vl, .none, vk] } } := by
    refine wpAny_getItem_list_slice ht.isList (Heap.IsSliceOf.new ..) pl .none pk (by decide) ?_ (by rw [List.size_toArray]; omega)
    rw [pick_back]
    refine ⟨.ref _, _, I4.laid (t' := s3.toks) (o := .lst xs.dropLast.reverse) (fun b ob z => Heap.get?_push_of_some _ z) (Nat.le_refl _) ?_, rfl, q _ (I4.hok.fresh (Nat.le_refl _))⟩
    exact ⟨by rw [List.length_reverse, List.length_dropLast]; omega, _, 0, Vals.reverse (by rw [List.dropLast_eq_take, List.dropLast_eq_take, hlen]; exact Vals.take _ r), Heap.get?_push_size _ rfl⟩
  exact tail_any (ops := [.ref a, .ref s3.heap.objs.size]) ht.isList.typeIs slot_list_getitem.lookup g (by with_unfolding_all rfl)
end
section
variable {K : PySem.W.Frag} {W : WX}
def dBk (da : DE) (dl dh : DO) : DE := fun S Q Ed => da S (fun y S1 => dl S1 (fun l S2 => dh S2 (fun h S3 => l = some (-2) ∧ h = some (-1) ∧ onS ((tree S3 y).bind seqL) fun xs => Q (.own (.lst xs.dropLast.reverse)) S3) Ed) Ed) Ed
theorem Rps.back {vs : List V} {xs : List DV} {F : Hp} (r : Rps K F vs xs) : Rps K F vs.dropLast.reverse xs.dropLast.reverse := by
  rw [List.dropLast_eq_take, List.dropLast_eq_take, r.len]
  exact (r.take _).reverse
theorem LE.back {ta : TE} {tl th : TO} {da : DE} {dl dh : DO} (ha : LE K W ta da) (hl : LO K W tl dl) (hh : LO K W th dh) : LE K W (tBk K ta tl th) (dBk da dl dh) := fun F H σ S Q Qd Ed s hd k e =>
  ha F H σ S _ _ Ed s hd (fun v y F1 H1 S1 a r n q => hl F1 H1 σ S1 _ _ Ed a.st q (fun l F2 H2 S2 b q => hh F2 H2 σ S2 _ _ Ed b.st q (fun h F3 H3 S3 c q => by
    obtain ⟨l2, h1, q⟩ := q
    obtain ⟨xs, e1, q⟩ := onS_ok q
    cases q2 : tree S3 y with
    | none => rw [q2] at e1; cases e1
    | some x =>
      rw [q2] at e1
      have rb := tree_ok c.st ((r.step b).step c) q2
      have abc := (a.trans b).trans c
      obtain ⟨p, vs, rfl, g1, g2⟩ : ∃ p vs, v = .ref p ∧ SqL K H3 p vs ∧ Rps K F3 vs xs := by
        cases x with
        | lst ys => cases e1; obtain ⟨p, vs, e2, g1, g2⟩ := rb.list c.st.ex; exact ⟨p, vs, e2, .inl (.inl g1), g2⟩
        | seq ys => cases e1; exact rb.seq c.st.ex
        | _ => cases e1
      exact ⟨p, vs, rfl, l2, h1, g1, fun p' hp => (res_of (z := .own (.lst xs.dropLast.reverse)) (Q := Q) c.st (.inr (.inl ⟨_, rfl⟩)) q fun v' y' F' H' S' d r' n' q' => k v' y' F' H' S' (abc.trans d) r' (n'.back abc) q').newL c.st.ex hp g2.back⟩) ((e.step a).step b)) (e.step a)) e
instance p_bk {da : DE} {dl dh : DO} {S : DSt} {Q : TV → DSt → Prop} {Ed : DErr → DSt → Prop} : Step (dBk da dl dh S Q Ed) (da S (fun y S1 => dl S1 (fun l S2 => dh S2 (fun h S3 => l = some (-2) ∧ h = some (-1) ∧ onS ((tree S3 y).bind seqL) fun xs => Q (.own (.lst xs.dropLast.reverse)) S3) Ed) Ed) Ed) := ⟨fun h => h⟩
end
end L3

/-! L4k: repr of data; promises for callers whom no text in the making guards. -/
namespace L3
open PySem PySem.Spec PyProof.Rows L2
/-! ### data with dicts -/
def keyPd : Key → PyData
  | .inl i => .int i
  | .inr x => .str x
mutual
def toPx : DV → Option PyData
  | .non => some .none
  | .bl b => some (.bool b)
  | .int i => some (.int i)
  | .str s => some (.str s)
  | .lst xs => (toPxs xs).map .list
  | .tup xs => (toPxs xs).map .tuple
  | .dic kvs => (toPxk kvs).map .dict
  | _ => none
def toPxs : List DV → Option (List PyData)
  | [] => some []
  | x :: xs => (toPx x).bind fun d => (toPxs xs).map fun ds => d :: ds
def toPxk : List (Key × DV) → Option (List (PyData × PyData))
  | [] => some []
  | (k, x) :: r => (toPx x).bind fun d => (toPxk r).map fun ds => (keyPd k, d) :: ds
end
/-- the dict of the modules stands in the fragment that is observed -/
def SysD (K : PySem.W.Frag) : Prop := ∃ o, K.lookup sysModules = some o ∧ o.cls = .type "dict"
theorem sysd_ok {K : PySem.W.Frag} (c : Hf.Fb.sysd.ok K = true) : SysD K := by
  have c' : (match K.lookup sysModules with
    | some o => decide (o.cls = .type "dict")
    | none => false) = true := c
  cases q : K.lookup sysModules with
  | none => rw [q] at c'; cases c'
  | some o => rw [q] at c'; exact ⟨o, q, of_decide_eq_true c'⟩
section
variable {X : Cx} {pins : List (Addr × Obj)} {σ : L2.St} {H F : Hp} {s : Shared}
theorem no_sys {a : Addr} {its : Array Value} (I : Inv X pins σ H s) (sd : SysD X.K) (p : PlainL s.heap a its) : sysModules ≠ a := fun e => by
  obtain ⟨o, n, ho, hc, _⟩ := p
  obtain ⟨o', h1, h2⟩ := sd
  have k := I.kIn _ _ h1
  rw [e, ho] at k
  cases k
  rw [hc] at h2
  injection h2 with z
  exact absurd z (by decide)
mutual
theorem rdX (I : Inv X pins σ H s) (sd : SysD X.K) (sm : Same F H) : ∀ {v : V} {x : DV} {d : PyData} {u : Value}, Rp X.K F v x → toPx x = some d → RelV v u → ∃ as, Reads s.heap u d as ∧ sysModules ∉ as
  | _, _, d, u, .non, e, r => by
    cases (show some PyData.none = some d from e)
    cases r
    exact ⟨_, .none, by simp⟩
  | _, _, d, u, .bl b, e, r => by
    cases (show some (PyData.bool b) = some d from e)
    cases r
    exact ⟨_, .bool b, by simp⟩
  | _, _, d, u, .int i, e, r => by
    cases (show some (PyData.int i) = some d from e)
    obtain ⟨t, rfl⟩ := r
    exact ⟨_, .int i t, by simp⟩
  | _, _, d, u, .str x, e, r => by
    cases (show some (PyData.str x) = some d from e)
    obtain ⟨t, rfl⟩ := r
    exact ⟨_, .str x t, by simp⟩
  | _, _, d, u, .ty n, e, r => by cases (show (none : Option PyData) = some d from e)
  | _, _, d, u, .ref n, e, r => by cases (show (none : Option PyData) = some d from e)
  | _, _, d, u, .seq h n, e, r => by cases (show (none : Option PyData) = some d from e)
  | _, _, d, u, .obj h, e, r => by cases (show (none : Option PyData) = some d from e)
  | _, _, d, u, .dit h n, e, r => by cases (show (none : Option PyData) = some d from e)
  | _, _, d, u, .lst (xs := xs) h q, e, r => by
    have e' : (toPxs xs).map PyData.list = some d := e
    obtain ⟨ds, hds, rfl⟩ := Option.map_eq_some_iff.mp e'
    cases r
    obtain ⟨its, rv, p, _⟩ := I.list (.inl (.inl (sm _ _ h)))
    obtain ⟨as, h1, h2⟩ := rdXs I sd sm q hds rv
    have ns := no_sys I sd p
    obtain ⟨o, n, ho, hc, _, hd⟩ := p
    exact ⟨_, .list ho hc hd h1, fun z => by
      rcases List.mem_cons.mp z with z | z
      · exact ns z
      · exact h2 z⟩
  | _, _, d, u, .tup (xs := xs) h q, e, r => by
    have e' : (toPxs xs).map PyData.tuple = some d := e
    obtain ⟨ds, hds, rfl⟩ := Option.map_eq_some_iff.mp e'
    cases r
    obtain ⟨its, rv, ⟨o, ho, hc, n, hd⟩, _⟩ := I.tuple (Same.seqT sm h)
    obtain ⟨as, h1, h2⟩ := rdXs I sd sm q hds rv
    exact ⟨_, .tuple ho hc hd h1, h2⟩
  | _, _, d, u, .dic (xs := kvs) h q, e, r => by
    have e' : (toPxk kvs).map PyData.dict = some d := e
    obtain ⟨ds, hds, rfl⟩ := Option.map_eq_some_iff.mp e'
    cases r
    obtain ⟨_, ns, ws, kv, o, es, ep, ho, hx, hd, _, pr, _⟩ := I.hok _ _ (sm _ _ h)
    obtain ⟨as, bs, h1, h2, h3, h4⟩ := rdXk I sd sm q hds kv pr
    exact ⟨_, .dict ho hx.1 hd h1 h2, fun z => by
      rcases List.mem_append.mp z with z | z
      · rcases List.mem_cons.mp z with z | z
        · rw [← z] at ns
          exact absurd ns (by simp)
        · exact h3 z
      · exact h4 z⟩
theorem rdXs (I : Inv X pins σ H s) (sd : SysD X.K) (sm : Same F H) : ∀ {vs : List V} {xs : List DV} {ds : List PyData} {us : List Value}, Rps X.K F vs xs → toPxs xs = some ds → Vals vs us → ∃ as, ReadsAll s.heap us ds as ∧ sysModules ∉ as
  | _, _, ds, us, .nil, e, r => by
    cases (show some ([] : List PyData) = some ds from e)
    cases r
    exact ⟨_, .nil, by simp⟩
  | _, _, ds, us, .cons (x := x) (xs := xs) h q, e, r => by
    have e' : ((toPx x).bind fun d => (toPxs xs).map fun ds => d :: ds) = some ds := e
    obtain ⟨d, hd, e'⟩ := Option.bind_eq_some_iff.mp e'
    obtain ⟨ds', hds, rfl⟩ := Option.map_eq_some_iff.mp e'
    cases r with
    | cons r1 r2 =>
      obtain ⟨as, h1, h2⟩ := rdX I sd sm h hd r1
      obtain ⟨bs, h3, h4⟩ := rdXs I sd sm q hds r2
      exact ⟨_, .cons h1 h3, fun z => (List.mem_append.mp z).elim h2 h4⟩
theorem rdXk (I : Inv X pins σ H s) (sd : SysD X.K) (sm : Same F H) : ∀ {vs : List (Key × V)} {xs : List (Key × DV)} {ds : List (PyData × PyData)} {ws : List (Key × Value)} {es : List DictEntry}, Rks X.K F vs xs → toPxk xs = some ds → KV vs ws → PySem.Pairs (mixKind X.prog X.w) es ws →
    ∃ as bs, ReadsAll s.heap (es.map (·.key)) (ds.map (·.1)) as ∧ ReadsAll s.heap (es.map (·.val)) (ds.map (·.2)) bs ∧ sysModules ∉ as ∧ sysModules ∉ bs
  | _, _, ds, ws, es, .nil, e, r, p => by
    cases (show some ([] : List (PyData × PyData)) = some ds from e)
    cases r
    cases p
    exact ⟨_, _, .nil, .nil, by simp, by simp⟩
  | _, _, ds, ws, es, .cons (k := k) (x := x) (xs := xs) h q, e, r, p => by
    have e' : ((toPx x).bind fun d => (toPxk xs).map fun ds => (keyPd k, d) :: ds) = some ds := e
    obtain ⟨d, hd, e'⟩ := Option.bind_eq_some_iff.mp e'
    obtain ⟨ds', hds, rfl⟩ := Option.map_eq_some_iff.mp e'
    cases r with
    | cons r1 r2 =>
      cases p with
      | @cons en kv es' ws' p1 p2 p3 =>
        obtain ⟨ek, rv⟩ := r1
        obtain ⟨bs, h1, h2⟩ := rdX I sd sm h hd rv
        obtain ⟨as', bs', h3, h4, h5, h6⟩ := rdXk I sd sm q hds r2 p3
        obtain ⟨as, k1, k2⟩ : ∃ as, Reads s.heap en.key (keyPd k) as ∧ sysModules ∉ as := by
          rcases keyIs_shape p1 with ⟨i, t, e1, e2⟩ | ⟨i, t, e1, e2⟩
          · have : k = .inl i := ek.trans e1
            subst this
            rw [e2]
            exact ⟨_, .int i t, by simp⟩
          · have : k = .inr i := ek.trans e1
            subst this
            rw [e2]
            exact ⟨_, .str i t, by simp⟩
        rw [← p2] at h1
        exact ⟨_, _, .cons k1 h3, .cons h1 h4, fun z => (List.mem_append.mp z).elim k2 h5, fun z => (List.mem_append.mp z).elim h2 h6⟩
end
theorem rdXB (I : Inv X pins σ H s) (sd : SysD X.K) (sm : Same F H) {v : V} {x : DV} {d : PyData} {u : Value} (r : RpB X.K F H v x) (e : toPx x = some d) (ru : RelV v u) : ∃ as, Reads s.heap u d as ∧ sysModules ∉ as := by
  cases r with
  | of r => exact rdX I sd sm r e ru
  | lst h q =>
    rename_i a vs xs
    have e' : (toPxs xs).map PyData.list = some d := e
    obtain ⟨ds, hds, rfl⟩ := Option.map_eq_some_iff.mp e'
    cases ru
    obtain ⟨its, rv, p, _⟩ := I.list (.inl (.inl h))
    obtain ⟨as, h1, h2⟩ := rdXs I sd sm q hds rv
    have ns := no_sys I sd p
    obtain ⟨o, n, ho, hc, _, hd⟩ := p
    exact ⟨_, .list ho hc hd h1, fun z => by
      rcases List.mem_cons.mp z with z | z
      · exact ns z
      · exact h2 z⟩
  | dic h q =>
    rename_i a vs kvs
    have e' : (toPxk kvs).map PyData.dict = some d := e
    obtain ⟨ds, hds, rfl⟩ := Option.map_eq_some_iff.mp e'
    cases ru
    obtain ⟨_, ns, ws, kv, o, es, ep, ho, hx, hd, _, pr, _⟩ := I.hok _ _ h
    obtain ⟨as, bs, h1, h2, h3, h4⟩ := rdXk I sd sm q hds kv pr
    exact ⟨_, .dict ho hx.1 hd h1 h2, fun z => by
      rcases List.mem_append.mp z with z | z
      · rcases List.mem_cons.mp z with z | z
        · rw [← z] at ns
          exact absurd ns (by simp)
        · exact h3 z
      · exact h4 z⟩
  | dit h q => cases (show (none : Option PyData) = some d from e)
/-! ### repr -/
def rRep (K : PySem.W.Frag) (vs : List V) (H : Hp) (Q : VK) : Prop := ∃ (v : V) (F : Hp) (x : DV) (d : PyData), vs = [v] ∧ Same F H ∧ RpB K F H v x ∧ toPx x = some d ∧ d.showable = true ∧ d.depth ≤ 60 ∧ d.shown.length ≤ sizeLine ∧ Q (.str d.shown) H
theorem call_repX {k : Nat} (sd : SysD X.K) (hg : X.A.guards = some []) (hr : Room k X.A) : CallR X (.builtin "repr") (rRep X.K) := by
  intro pins s σ H xs us Q I r h
  obtain ⟨v, F, x, d, rfl, sm, rx, e, h1, h2, h3, q⟩ := h
  have hu := hr.units
  cases r with
  | cons r1 r2 =>
  cases r2
  obtain ⟨as, rd, ns⟩ := rdXB I sd sm rx e r1
  have fin : ∀ (h' : Heap) (u tk : Nat), (∀ b o, s.heap.get? b = some o → h'.get? b = some o) → EP X pins σ Q (.str d.shown u) { s with heap := h', toks := tk } := fun h' u tk kp => ⟨.str _, H, I.kept kp, ⟨_, rfl⟩, q⟩
  have ref_ : ∀ {a : Addr}, Reads s.heap (.ref a) d as → wpAny (model X.prog X.w) X.A (call (.builtin "repr") [.ref a]) (EP X pins σ Q) X.xe s := fun rd =>
    repr_of_reads' rd h1 (fun _ => ns) hg (by omega) (fun _ _ z => z) (fun h' u tk kp => fin h' u tk kp) h3
  cases rd with
  | none => exact PySem.P.repr_of_none (fin s.heap _ _ fun _ _ z => z)
  | bool b => exact PySem.P.repr_of_bool (fin s.heap _ _ fun _ _ z => z)
  | int i t => exact PySem.P.repr_of_int (of_decide_eq_true h1) (fin s.heap _ _ fun _ _ z => z)
  | str y t => exact PySem.P.repr_of_str (fin s.heap _ _ fun _ _ z => z) h3
  | list a1 a2 a3 a4 => exact ref_ (.list a1 a2 a3 a4)
  | tuple a1 a2 a3 a4 => exact ref_ (.tuple a1 a2 a3 a4)
  | dict a1 a2 a3 a4 a5 => exact ref_ (.dict a1 a2 a3 a4 a5)
end
/-- the text of a value -/
noncomputable def shw (x : DV) : Str := match toPx x with
  | some d => d.shown
  | none => Str.empty
def reprF : List DV → Option TV
  | [x] => match toPx x with
    | some d => if d.showable = true ∧ d.depth ≤ 60 ∧ d.shown.length ≤ sizeLine then some (.val (.str d.shown)) else none
    | none => none
  | _ => none
theorem Gn.rep {K : PySem.W.Frag} : Gn K (rRep K) reprF := fun F H vs xs z Q s r e R => by
  cases r with
  | nil => cases e
  | cons r1 r2 =>
    cases r2 with
    | cons r2 r3 => cases e
    | nil =>
      rename_i v x
      have e' : (match toPx x with
        | some d => if d.showable = true ∧ d.depth ≤ 60 ∧ d.shown.length ≤ sizeLine then some (TV.val (.str d.shown)) else none
        | none => none) = some z := e
      cases q : toPx x with
      | none => rw [q] at e'; cases e'
      | some d =>
        simp only [q] at e'
        by_cases c : d.showable = true ∧ d.depth ≤ 60 ∧ d.shown.length ≤ sizeLine
        · rw [if_pos c] at e'
          cases e'
          exact ⟨v, F, x, d, rfl, s, r1, q, c.1, c.2.1, c.2.2, Res.here R s (.str _)⟩
        · rw [if_neg c] at e'; cases e'
/-! ### how long a text is -/
/-- a value that can be shown: nested at most k deep, at most n signs -/
def ShB (x : DV) (k n : Nat) : Prop := ∃ d, toPx x = some d ∧ d.showable = true ∧ d.depth ≤ k ∧ d.shown.length ≤ n
def ShBs (xs : List DV) (k n : Nat) : Prop := ∃ ds, toPxs xs = some ds ∧ PyData.showableAll ds = true ∧ PyData.depthAll ds ≤ k ∧ piled (PyData.shownAll ds) ≤ n ∧ (PyData.shownAll ds).length = xs.length
theorem ShB.mono {x : DV} {k n k' n' : Nat} (h : ShB x k n) (hk : k ≤ k') (hn : n ≤ n') : ShB x k' n' := by
  obtain ⟨d, h1, h2, h3, h4⟩ := h
  exact ⟨d, h1, h2, Nat.le_trans h3 hk, Nat.le_trans h4 hn⟩
theorem ShBs.nil {k : Nat} : ShBs [] k 0 := ⟨[], rfl, rfl, Nat.zero_le _, Nat.le_refl _, rfl⟩
theorem ShBs.cons {x : DV} {xs : List DV} {k n m : Nat} (h : ShB x k n) (t : ShBs xs k m) : ShBs (x :: xs) k (n + 2 + m) := by
  obtain ⟨d, h1, h2, h3, h4⟩ := h
  obtain ⟨ds, t1, t2, t3, t4, t5⟩ := t
  refine ⟨d :: ds, ?_, ?_, ?_, ?_, ?_⟩
  · show ((toPx x).bind fun d => (toPxs xs).map fun ds => d :: ds) = _
    rw [h1, t1]; rfl
  · show (PyData.showable d && PyData.showableAll ds) = true
    rw [h2, t2]; rfl
  · simp only [PyData.depthAll]
    omega
  · show piled (PyData.shown d :: PyData.shownAll ds) ≤ _
    rw [piled_cons]; omega
  · show (PyData.shownAll ds).length + 1 = xs.length + 1
    rw [t5]
theorem ShBs.app {xs ys : List DV} {k n m : Nat} (h : ShBs ys k m) : ∀ {xs : List DV} {n : Nat}, ShBs xs k n → ShBs (xs ++ ys) k (n + m) := by
  intro xs
  induction xs with
  | nil => intro n _; obtain ⟨ds, h1, h2, h3, h4, h5⟩ := h; exact ⟨ds, h1, h2, h3, by omega, h5⟩
  | cons x xs ih =>
    intro n hx
    obtain ⟨ds, t1, t2, t3, t4, t5⟩ := hx
    have t1' : ((toPx x).bind fun d => (toPxs xs).map fun ds => d :: ds) = some ds := t1
    obtain ⟨d, hd, t1'⟩ := Option.bind_eq_some_iff.mp t1'
    obtain ⟨ds', hds, rfl⟩ := Option.map_eq_some_iff.mp t1'
    have t2' : (PyData.showable d && PyData.showableAll ds') = true := t2
    simp only [Bool.and_eq_true] at t2'
    simp only [PyData.depthAll] at t3
    have t4' : piled (PyData.shown d :: PyData.shownAll ds') ≤ n := t4
    rw [piled_cons] at t4'
    have t5' : (PyData.shownAll ds').length + 1 = xs.length + 1 := t5
    have := ih (n := n - (d.shown.length + 2)) ⟨ds', hds, t2'.2, by omega, by omega, by omega⟩
    have c := ShBs.cons (n := d.shown.length) (⟨d, hd, t2'.1, by omega, Nat.le_refl _⟩ : ShB x k _) this
    obtain ⟨es, c1, c2, c3, c4, c5⟩ := c
    exact ⟨es, c1, c2, c3, by omega, c5⟩
theorem ShBs.all {k n : Nat} : ∀ {xs : List DV}, (∀ x ∈ xs, ShB x k n) → ShBs xs k (xs.length * (n + 2))
  | [], _ => by rw [List.length_nil, Nat.zero_mul]; exact .nil
  | x :: xs, h => by
    have := ShBs.cons (h x List.mem_cons_self) (ShBs.all fun y hy => h y (List.mem_cons_of_mem _ hy))
    rw [List.length_cons, Nat.add_mul, Nat.one_mul, Nat.add_comm]
    exact this
theorem ShBs.mono {xs : List DV} {k n k' n' : Nat} (h : ShBs xs k n) (hk : k ≤ k') (hn : n ≤ n') : ShBs xs k' n' := by
  obtain ⟨d, h1, h2, h3, h4, h5⟩ := h
  exact ⟨d, h1, h2, Nat.le_trans h3 hk, Nat.le_trans h4 hn, h5⟩
theorem listText_le : ∀ ts : List Str, (listText ts).length ≤ piled ts + 2
  | [] => by decide
  | t :: r => by
    have h := textFrom_length_pos r 1 (("[" : Str) ++ (if (0 : Nat) > 0 then ", " else "" : String) ++ t) (Nat.succ_pos 0)
    have e : ((("[" : Str) ++ (if (0 : Nat) > 0 then ", " else "" : String) ++ t)).length = 1 + t.length := by
      rw [strLen_append, strLen_append]; rfl
    have e1 : (listText (t :: r)).length = (textFrom 1 (("[" : Str) ++ (if (0 : Nat) > 0 then ", " else "" : String) ++ t) r).length + 1 := by
      unfold listText
      rw [strLen_append]; rfl
    rw [e1, h, e, piled_cons]; omega
theorem join_le (ts : List Str) : (Str.join ", " ts).length ≤ piled ts := by
  by_cases h : ts = []
  · subst h; exact Nat.le_refl _
  · have := join_length_add ts h; omega
theorem tupleText_le (ts : List Str) : (tupleText ts).length ≤ piled ts + 3 := by
  unfold tupleText
  rw [strLen_append, strLen_append]
  have e1 : ((("(" : String) : Str)).length = 1 := rfl
  have e3 : (((if ts.length == 1 then ",)" else ")" : String) : Str)).length ≤ 2 := by split <;> decide
  have := join_le ts
  omega
theorem ShB.lst {xs : List DV} {k n : Nat} (h : ShBs xs k n) : ShB (.lst xs) (k + 1) (n + 2) := by
  obtain ⟨ds, h1, h2, h3, h4, h5⟩ := h
  refine ⟨.list ds, ?_, ?_, ?_, ?_⟩
  · show (toPxs xs).map PyData.list = _
    rw [h1]; rfl
  · exact h2
  · simp only [PyData.depth]; omega
  · show (listText (PyData.shownAll ds)).length ≤ _
    have := listText_le (PyData.shownAll ds)
    omega
theorem ShB.tup {xs : List DV} {k n : Nat} (h : ShBs xs k n) : ShB (.tup xs) (k + 1) (n + 3) := by
  obtain ⟨ds, h1, h2, h3, h4, h5⟩ := h
  refine ⟨.tuple ds, ?_, ?_, ?_, ?_⟩
  · show (toPxs xs).map PyData.tuple = _
    rw [h1]; rfl
  · exact h2
  · simp only [PyData.depth]; omega
  · show (tupleText (PyData.shownAll ds)).length ≤ _
    have := tupleText_le (PyData.shownAll ds)
    omega
theorem ShB.non {k : Nat} : ShB .non k 10 := ⟨.none, rfl, rfl, Nat.zero_le _, by decide⟩
theorem ShB.bl {b : Bool} {k : Nat} : ShB (.bl b) k 10 := ⟨.bool b, rfl, rfl, Nat.zero_le _, by cases b <;> decide⟩
theorem ShB.int {i : Int} {k : Nat} (h : i.natAbs < 10 ^ 40) : ShB (.int i) k 50 := by
  refine ⟨.int i, rfl, ?_, Nat.zero_le _, ?_⟩
  · show decide (i.natAbs.log2 < 1920) = true
    rw [decide_eq_true_iff]
    by_cases c : i.natAbs = 0
    · rw [c]; decide
    · exact (Nat.log2_lt c).mpr (Nat.lt_of_lt_of_le h (by decide +kernel))
  · show (Str.ofString (toString i)).length ≤ 50
    have e := int_text_length_le10 (k := 40) (by decide) h
    rw [PySem.ofString_length]
    omega
theorem shb_str {s : Str} {k n : Nat} (h : (reprText s).length ≤ n) : ShB (.str s) k n := ⟨.str s, rfl, rfl, Nat.zero_le _, h⟩
theorem shb_dic0 {k : Nat} : ShB (.dic []) (k + 1) 10 := ⟨.dict [], rfl, rfl, by simp [PyData.depth, PyData.depthKv], by decide⟩
theorem ShB.rep {x : DV} {k n : Nat} (h : ShB x k n) (hk : k ≤ 60) (hn : n ≤ sizeLine) : reprF [x] = some (.val (.str (shw x))) := by
  obtain ⟨d, h1, h2, h3, h4⟩ := h
  unfold shw
  show (match toPx x with
    | some d => if d.showable = true ∧ d.depth ≤ 60 ∧ d.shown.length ≤ sizeLine then some (TV.val (.str d.shown)) else none
    | none => none) = _
  simp only [h1]
  rw [if_pos ⟨h2, Nat.le_trans h3 hk, Nat.le_trans h4 hn⟩]
theorem ShB.tr {x : DV} {k n : Nat} (h : ShB x k n) (hk : k ≤ 60) (hn : n ≤ 10000000) {kt : TV → Prop} (q : kt (.val (.str (shw x)))) : onS (reprF [x]) kt := by
  rw [h.rep hk (by show n ≤ 2 ^ 24; omega)]; exact q
/-! ### promises for callers whom nothing guards -/
structure FnG (P : Program) (w : World) (K : PySem.W.Frag) (mg : Str → Option Value) (base : Heap) (k : Nat) (f : Addr) (fd : FuncData) (ps : List Str) (sp : Sp) : Prop where
  le : ∀ {vs : List V} {H : Hp} {Q : VK} {E : XK}, sp vs H Q E → vs.length = ps.length
  go : ∀ {A : Around} {out : List Env} {s : Shared} {H : Hp} {xs : Args} {us : List Value} {vs : List V} {Q : VK} {E : XK},
    A.guards = some [] → Room k A → Env0 P w K mg base A out s H → BindsTo s fd xs (ps.zip us) → Vals vs us → sp vs H Q E →
    codeAny (model P w) A (.call (.ref f) xs) (CR (L2.CX P w) out P w H s Q E) s
section
variable {P : Program} {w : World} {K : PySem.W.Frag} {mg : Str → Option Value} {base : Heap} {x qual : Str} {params : Arguments} {body : List Stmt} {scope : Scope} {f : Addr} {fd : FuncData}
/-- a def runs from here, by its body -/
theorem body_at {N ps : List Str} {k : Nat} (Fd : FunD K x qual params body scope [] [] f fd) (Sc : FnScope N ps scope)
    {A : Around} {out : List Env} {s : Shared} {H : Hp} {xs : Args} {us : List Value} {vs : List V} {Q : VK} {E : XK} (rm : Room (k + 1) A) (e0 : Env0 P w K mg base A out s H) (bt : BindsTo s fd xs (ps.zip us)) (rv : Vals vs us) (hl : vs.length = ps.length)
    (hb : ∀ cdv : Value, ∃ t, PSs (cxOf (L2.CX P w) P w K mg base N qual scope f cdv A out s H E) body t ∧ t { nx := fun _ H' => Q .non H', rt := Q } (start N vs) H) :
    codeAny (model P w) A (.call (.ref f) xs) (CR (L2.CX P w) out P w H s Q E) s := by
  obtain ⟨oc, od, dV, kV, doc, pm, an, cdv, ct, osl, rfl, lk, hcd, _, _⟩ := Fd.ex
  have kin : K.In s.heap := PySem.W.Frag.In.keeps e0.mod.kin fun b o z => (e0.bs b o z).1
  have nol : s.heap.NoLimit := Heap.NoLimit.keeps e0.mod.nolimit fun b o z => (e0.bs b o z).1
  have kinds : ∀ q ∈ ps.zip us, scope.names.lookup q.1 = some .local ∨ (scope.names.lookup q.1 = some .cell ∧ ((cellsFrom (s.heap.objs.size + 1) scope.names []).lookup q.1).isSome = true) := fun q hq => by
    obtain ⟨n, v⟩ := q
    exact (Sc.par n (List.of_mem_zip hq).1).imp id fun z => ⟨z, PySem.W.cellsFrom_some _ _ _ (.inl z)⟩
  obtain ⟨t, pt, ht⟩ := hb cdv
  have start_ : ∀ s1 : Shared, InCallC s s.heap.objs.size (bindL (envOfC qual scope s.heap.objs.size f cdv).kindOf (ps.zip us) fun _ => none) (cellsFrom (s.heap.objs.size + 1) scope.names []) (bindC (envOfC qual scope s.heap.objs.size f cdv).kindOf (ps.zip us) fun _ => none) s1 →
      L2.Inv (cxOf (L2.CX P w) P w K mg base N qual scope f cdv A out s H E) [] (start N vs) H s1 := fun s1 z => inv_start Sc rm.hd e0 hl rv z
  refine codeAny_call_function rm.depth (kin _ _ lk) rfl Sc.co Sc.gen rfl (PySem.W.codeRec_of kin hcd) (bt _ _ _ _ (wpAny_newFunctionEnv_cells Sc.kind kinds fun env he s1 z => ?_))
  subst he
  refine ⟨nol.keeps z.toInCall.keep, codeAny_func (wpAny_mono (pt.run [] s1 _ H _ (start_ s1 z) ht) ?_ fun _ _ y => y)⟩
  intro fl s' y
  cases fl with
  | ret u =>
    obtain ⟨v, _, H', J, rvu, q⟩ := y
    exact ⟨v, H', J.os, J.bare, J.base, J.hok, rvu, q⟩
  | next =>
    obtain ⟨_, H', J, q⟩ := y
    exact ⟨V.non, H', J.os, J.bare, J.base, J.hok, rfl, q⟩
  | brk => obtain ⟨_, _, _, q⟩ := y; exact q.elim
  | cont => obtain ⟨_, _, _, q⟩ := y; exact q.elim
theorem fn_pureG {N ps : List Str} {k : Nat} {sp : PSp} {d : DS} (Fd : FunD K x qual params body scope [] [] f fd) (Sc : FnScope N ps scope) (len : ∀ xs Q E, sp xs Q E → xs.length = ps.length)
    (hb : ∀ (cdv : Value) (A : Around) (outer : List Env) (s : Shared) (H : Hp) (E : XK), (A.deeper (envOfC qual scope s.heap.objs.size f cdv)).guards = some [] → Room k (A.deeper (envOfC qual scope s.heap.objs.size f cdv)) →
      Ctx k (cxOf (L2.CX P w) P w K mg base N qual scope f cdv A outer s H E) (fun cls dd _ H' => E cls dd H') →
      ∃ t, SsJ (cxOf (L2.CX P w) P w K mg base N qual scope f cdv A outer s H E) (fun cls dd _ H' => E cls dd H') body t d)
    (hd : ∀ xs Q E, sp xs Q E → d (gSt N xs) (ends Q E)) : FnG P w K mg base (k + 1) f fd ps (liftP K sp) := by
  have le : ∀ {vs : List V} {H : Hp} {Q : VK} {E : XK}, liftP K sp vs H Q E → vs.length = ps.length := fun {vs H Q E} h => by
    obtain ⟨F, xs, Qd, Ed, _, r, h, _⟩ := h
    rw [r.len]; exact len _ _ _ h
  refine ⟨le, fun {A outer s H args us vs Q E} hg hr e0 bt rv h => body_at Fd Sc hr e0 bt rv (le h) fun cdv => ?_⟩
  have hr := hr.deeper (envOfC qual scope s.heap.objs.size f cdv)
  obtain ⟨F, xs, Qd, Ed, sm, r, h, kq, ke⟩ := h
  obtain ⟨t, j⟩ := hb cdv A outer s H E hg hr ⟨rfl, takes_of rfl rfl rfl rfl, passes_of rfl, hr⟩
  refine ⟨t, j.p, j.l F H _ (gSt N xs) _ _ (gSt_ok sm r) (hd xs _ _ h) ⟨fun F' H' σ' S' a q => ?_, fun v y F' H' σ' S' a tv n q => ?_, fun F' H' σ' S' a q => q.elim, fun F' H' σ' S' a q => q.elim, fun cls dd err F' H' σ' S' a er nd q => ?_⟩⟩
  · exact kq _ q .non F' H' (a.grow0 fun p => gSt_ow) .non
  · exact ret_ok a (fun p => gSt_ow) tv n q kq
  · exact ke _ q cls dd F' H' (a.grow0 fun p => gSt_ow) er fun d e => (nd d e).resolve_right gSt_ow
end
structure CalG (P : Program) (w : World) (K : PySem.W.Frag) (mg : Str → Option Value) (base : Heap) (k : Nat) (x : Str) (ps : List Str) (sp : Sp) : Prop where
  ex : ∃ fd, FnG P w K mg base k (He.ga K x) fd ps sp ∧ Binds K fd ps []
  g : mg x = some (.ref (He.ga K x))
  kp : PySem.W.keepIn K (.ref (He.ga K x)) = true
section
variable {X : Cx} {W : WX} {k j : Nat} {x : Str} {ps : List Str} {sp : Sp} {e : Expr} {es : List Expr} {t : TA} {p pos : Pos}
theorem run_g {f : Addr} {fd : FuncData} {pins : List (Addr × Obj)} {σ : L2.St} {H : Hp} {s : Shared} {Q : VK} {us : List Value} {vs : List V} (F : FnG X.prog X.w X.K X.mg X.base k f fd ps sp) (hg : X.A.guards = some []) (hr : Room k X.A) (hb : Binds X.K fd ps []) (tk : Takes X W)
    (I : L2.Inv X pins σ H s) (r : Vals vs us) (h : sp vs H Q (WE W σ)) : wpAny (model X.prog X.w) X.A (call (.ref f) us) (EP X pins σ Q) X.xe s := by
  have b := hb s us I.kIn (by rw [List.append_nil, ← r.length]; exact F.le h)
  rw [List.append_nil] at b
  refine wpAny_call (codeAny_mono (F.go (xs := ⟨us, []⟩) hg hr I.env0 b r h) fun res s' y => ?_)
  cases res with
  | error z => exact passAt tk σ pins H s z s' I y
  | ok fl => cases fl <;> first | exact I.after y | exact y.elim
theorem pe_calg (c : CalG X.prog X.w X.K X.mg X.base k x ps sp) (gd : X.A.guards = some []) (hr : Room j X.A) (tk : Takes X W) (ha : PA X (e :: es) t) (hk : k ≤ j := by first | decide | omega) (hg : Gl X x := by rfl) (hdb : (x == ("__debug__" : Str)) = false := by decide)
    (he : starEach (e :: es) X.env = (false, eval e X.env) :: starEach es X.env := by rfl) (hpl : (backTo pos (starEach es X.env)).any (·.1) = false := by rfl) :
    PE X (.Call (.Name x p) (e :: es) [] pos) (tCallS sp (WE W) t) := by
  obtain ⟨fd, F, b⟩ := c.ex
  refine ⟨fun pins s σ H Q I h => wpAny_Call_Name_kw (ld_glob I hg c.g ?_ hdb)⟩
  refine PySem.W.callWith_K (h₀ := X.base) I.ok.mod.kin c.kp ?_ he hpl
  refine thn (ha.run pos pins s σ H _ I h) fun us s1 y => ?_
  obtain ⟨vs, H1, I1, r, q⟩ := y
  exact ⟨I1.kIn, run_g F gd (hr.mono hk) b tk I1 r q⟩
end
/-! ### a law's end, nothing guarding -/
section
variable {P : Program} {w : World} {K : PySem.W.Frag} {mg mb : Str → Option Value} {k : Nat} {fa a : Addr} {fd : FuncData} {x : Str} {sp : Sp} {s₁ : Shared} {vs : List Value} {ns : List Int}
/-- what the law's call ends in -/
abbrev LawEnd (s₁ : Shared) (r : Result) (s' : Shared) : Prop := r = .ok (.ret (.bool true)) ∧ OldK s₁.heap s'.heap ∧ s'.os = s₁.os ∧ AllBare s'.gens
/-- the law's call, at an abstract heap that holds the script alone -/
theorem law_at {H : Hp} (G : ∀ base : Heap, K.In base → base.Ns mainGlobals mg → FnG P w K mg base k fa fd [x] sp) (KX : K.In s₁.heap)
    (nsG : s₁.heap.Ns mainGlobals mg) (nsB : s₁.heap.Ns builtinsNs mb) (std : ∀ x : Str, x ≠ "__name__" → mb x = bootBuiltins x) (nol : s₁.heap.NoLimit) (gens : s₁.gens = #[])
    (lst : s₁.heap.get? a = some { cls := .type "list", data := .seq vs.toArray }) (rm : Room k callerA) (bt : ∀ (s : Shared) (u : Value), BindsTo s fd ⟨[u], []⟩ [(x, u)])
    (only : Only H) (wish : sp [.ref a] H (fun v _ => v = .bl true) fun _ _ _ => False) (hok : HOk P w H s₁.heap) (one : ∀ b, H b ≠ none → b = a) (nK : H a ≠ none → K.lookup a = none) :
    codeAny (model P w) callerA (.call (.ref fa) ⟨[.ref a], []⟩) (LawEnd s₁) s₁ := by
  have keepN : ∀ {b : Addr}, (b = a → False) → H b = none := fun {b} n => by
    cases q : H b with
    | none => rfl
    | some u => exact (n (one b (by rw [q]; exact fun z => by cases z))).elim
  have ns' : ∀ {b : Addr} {m : Str → Option Value}, s₁.heap.Ns b m → (hidT s₁.heap H).Ns b m := fun {b m} h => by
    obtain ⟨o, es, ep, e, d, r⟩ := h
    refine ⟨o, es, ep, hidT_get e (keepN fun z => ?_), d, r⟩
    rw [z, lst] at e
    cases e
    have d' : Data.seq vs.toArray _ = Data.dict es ep := d
    cases d'
  have kin : K.In (hidT s₁.heap H) := fun b o e => hidT_get (KX b o e) (by
    cases q : H b with
    | none => rfl
    | some u =>
      have ba := one b (by rw [q]; exact fun z => by cases z)
      rw [ba] at e q
      rw [nK (by rw [q]; exact fun z => by cases z)] at e
      cases e)
  obtain ⟨mc, m1, m2⟩ := nol
  have md : Mod K mg (hidT s₁.heap H) := ⟨kin, ns' nsG, ⟨mb, ns' nsB, std⟩, ⟨mc, ns' m1, m2⟩⟩
  have e0 : Env0 P w K mg (hidT s₁.heap H) callerA [] s₁ H := by
    refine ⟨rfl, md, fun b o z => of_hidT z, Nat.le_of_eq (hidT_size _ _), trivial, fun b z => ?_, hok, .of_eq gens⟩
    have z' : b ∈ ([] : List Addr) := z
    cases z'
  refine codeAny_mono ((G _ kin (ns' nsG)).go (us := [.ref a]) rfl rm e0 (bt s₁ (.ref a)) (show Vals [V.ref a] [Value.ref a] from .cons rfl .nil) wish) fun r s' y => ?_
  cases r with
  | error e => exact (cx_no H s₁ e s' y).elim
  | ok fl =>
    cases fl with
    | ret u =>
      obtain ⟨v, H', os, bare, un, hok', rv, q⟩ := y
      have q : v = .bl true := q
      rw [q] at rv
      cases (show u = Value.bool true from rv)
      refine ⟨rfl, .of_keep fun b o e => ?_, os, bare⟩
      cases z : H b with
      | none => exact un.keep b o e z (fun m => by have m' : b ∈ ([] : List Addr) := m; cases m') (by simp)
      | some u =>
        rcases only b with y | ⟨ob, xs, y⟩
        · rw [z] at y; cases y
        · have k1 := (hok b _ y).1
          rw [e] at k1
          cases k1
          exact (hok' b _ (un.frzs b _ _ y)).1
    | next => exact y.elim
    | brk => exact y.elim
    | cont => exact y.elim
theorem law_g (G : ∀ base : Heap, K.In base → base.Ns mainGlobals mg → FnG P w K mg base k fa fd [x] sp) (KX : K.In s₁.heap)
    (nsG : s₁.heap.Ns mainGlobals mg) (nsB : s₁.heap.Ns builtinsNs mb) (std : ∀ x : Str, x ≠ "__name__" → mb x = bootBuiltins x) (nol : s₁.heap.NoLimit) (gens : s₁.gens = #[])
    (lst : s₁.heap.get? a = some { cls := .type "list", data := .seq vs.toArray }) (hi : IntsAre vs ns) (hl : ns.length ≤ sizeLine) (rm : Room k callerA) (bt : ∀ (s : Shared) (u : Value), BindsTo s fd ⟨[u], []⟩ [(x, u)])
    (wish : ∀ H : Hp, Only H → SqL K H a (ns.map V.int) → sp [.ref a] H (fun v _ => v = .bl true) fun _ _ _ => False) :
    codeAny (model P w) callerA (.call (.ref fa) ⟨[.ref a], []⟩) (LawEnd s₁) s₁ := by
  have rv := vals_ints hi
  have len := hi.length
  cases q : K.lookup a with
  | some o =>
    have e := KX a o q
    rw [lst] at e
    cases e
    have sq : SqL K (fun _ => none) a (ns.map V.int) := .inr ⟨_, vs.toArray, _, q, rfl, rfl, rfl, by rw [List.size_toArray, len]; exact hl, by simpa using rv⟩
    exact law_at (H := fun _ => none) G KX nsG nsB std nol gens lst rm bt (fun _ => .inl rfl) (wish _ (fun _ => .inl rfl) sq) (fun b u z => by cases (show (none : Option HO) = some u from z)) (fun b z => (z rfl).elim) fun z => (z rfl).elim
  | none =>
    let Hs : Hp := fun b => if b = a then some (.frz { cls := .type "list", data := .seq vs.toArray } (.lst (ns.map V.int))) else none
    have at_ : Hs a = some (.frz { cls := .type "list", data := .seq vs.toArray } (.lst (ns.map V.int))) := if_pos rfl
    have no_ : ∀ {b : Addr}, b ≠ a → Hs b = none := fun n => if_neg n
    have only : Only Hs := fun b => by
      by_cases c : b = a
      · rw [c]; exact .inr ⟨_, _, at_⟩
      · exact .inl (no_ c)
    refine law_at (H := Hs) G KX nsG nsB std nol gens lst rm bt only (wish _ only (.inl (.inr ⟨_, at_⟩))) (fun b u z => ?_) (fun b z => ?_) fun _ => q
    · by_cases c : b = a
      · subst c
        rw [at_] at z
        cases z
        exact ⟨lst, by rw [List.length_map]; exact hl, vs, _, rv, lst⟩
      · rw [no_ c] at z; cases z
    · exact Classical.byContradiction fun c => z (no_ c)
end
theorem walk_ofG {l : PySem.W.OpenLaw} {n k : Nat} {q : Program} {loose : List Str} {XP : (Str → Option Value) → Heap → Prop} {YP : World → Heap → Prop} {d : DefRec} {x : Str} (hn : l.most = some n) (hn2 : n ≤ sizeLine) (hdf : d.params.defaults = []) (hr : Room k callerA)
    (F : ∀ (w : World) (mg : Str → Option Value) (fa : Addr) (h : Heap), YP w h → h.Ns mainGlobals mg → mg d.name = some (.ref fa) →
      ∃ (K : PySem.W.Frag) (fd : FuncData) (sp : Sp), K.In h ∧ (∀ (s : Shared) (u : Value), BindsTo s fd ⟨[u], []⟩ [(x, u)]) ∧
        (∀ (H : Hp) (a : Addr) (ns : List Int), ns.length ≤ n → Only H → SqL K H a (ns.map V.int) → sp [.ref a] H (fun v _ => v = .bl true) fun _ _ _ => False) ∧
        ∀ base : Heap, K.In base → base.Ns mainGlobals mg → FnG l.prog w K mg base k fa fd [x] sp) :
    PySem.W.WalkO q loose XP YP l.row.toRowW d [] (fun f vs => PySem.call f vs) := by
  refine Att.attach_call hn hdf fun w s₀ s₁ mg mb fa o pm cd doc a vs ns G Y ho hd hcd hmg hobj hints hlen hg => ?_
  obtain ⟨K, fd, sp, KX, hb, hsp, hF⟩ := F w mg fa _ Y G.T.g hmg
  exact law_g hF KX G.T.g G.T.b G.T.builtins G.T.nolimit hg hobj hints (Nat.le_trans hlen hn2) hr hb fun H hO hS => hsp H a ns hlen hO hS
end L3

/-! L4l: len(o) and walks over o, o of an own class with __len__ and __iter__. -/
namespace L3
open PySem PySem.Spec PyProof.Rows L2
/-- what len wants of the class's __len__ -/
def rLenO (C : Addr) (sp : Sp) : List V → Hp → VK → Prop := fun xs H Q => ∃ a dx fs, xs = [.ref a] ∧ H a = some (.ins C dx fs) ∧ sp [.ref a] H (fun v H2 => ∃ n : Int, v = .int n ∧ 0 ≤ n ∧ n < 2 ^ 63 ∧ Q (.int n) H2) fun _ _ _ => False
section
variable {X : Cx} {k j : Nat} {cn f : Str} {ps : List Str} {sp : Sp} {e : Expr} {ta : TE} {pos : Pos}
theorem call_lenO (c : CalM X.prog X.w X.K X.mg X.base k cn "__len__" ps sp) (hr : Room j X.A) (hk : k + 1 ≤ j := by first | decide | omega) : CallR X (.builtin "len") (rLenO (He.ga X.K cn) sp) := by
  intro pins s σ H xs us Q I r h
  obtain ⟨a, dx, fs, rfl, ea, q⟩ := h
  obtain ⟨u, rfl, ru⟩ := vals1 r
  obtain rfl : u = Value.ref a := ru
  obtain ⟨fd, F, b⟩ := c.ex
  obtain ⟨mA, J, _⟩ := ins_get I.hok ea
  obtain ⟨od, J, _⟩ := J.look
  refine Calls.call_function_entry kind_len plain_len entry_len (args_len1 _) ?_
  unfold Builtin.«len»
  refine wpAny_bind (m := oneArg "len" _) (wpAny_pure ?_)
  have hl := F.len _ _ _ _ q
  refine wpAny_bind (m := callSpecial? (.ref a) (PySem.Str.ofString "__len__")) (PySem.W.special_fn (args := []) I.kIn J c.mt.at_ (beq_iff_eq.mp c.mt.fn) (wpAny_call (codeAny_mono (F.run X.A.in1 X.stack s H ⟨[.ref a], []⟩ [.ref a] [.ref a] _ _ (hr.mono hk).in1 I.env0.in1 (by
    have := b s [.ref a] I.kIn (by simpa using hl)
    simpa using this) (.cons rfl .nil) q) fun r s' hq => ?_)))
  cases r with
  | error er => obtain ⟨_, _, _, _, _, _, _, _, _, _, _, _, z⟩ := hq; exact z.elim
  | ok fl =>
    cases fl with
    | ret u =>
      obtain ⟨v, H', I', rv, n, rfl, n0, n1, q⟩ := I.after hq
      obtain ⟨t, rfl⟩ := rv
      refine wpAny_bind (wpAny_holding (wpAny_pure ?_))
      refine wpAny_bind (wpAny_letGo ?_)
      show wpAny _ _ (if (n : Int) < 0 then _ else _) _ _ _
      rw [if_neg (by omega)]
      show wpAny _ _ (if (n : Int) ≥ 2 ^ 63 then _ else _) _ _ _
      rw [if_neg (by omega)]
      exact wpAny_bind (wpAny_mkInt (wpAny_pure ⟨_, rfl, ⟨.int n, H', I'.tok _, ⟨_, rfl⟩, q⟩⟩))
    | next => exact False.elim hq
    | brk => exact False.elim hq
    | cont => exact False.elim hq
end
/-! ### a walk over o -/
/-- a class whose __iter__ hands out the iterator of the list in a field -/
structure CalO (P : Program) (w : World) (K : PySem.W.Frag) (mg : Str → Option Value) (base : Heap) (c f : Str) : Prop where
  ex : ∃ (fd : FuncData) (x qual : Str) (params : Arguments) (body : List Stmt) (scope : Scope) (N : List Str), FunD K x qual params body scope [] [] (He.ma K (He.ga K c) "__iter__") fd ∧ FnScope N ["self"] scope ∧ Binds K fd ["self"] [] ∧
    ∀ (cdv : Value) (A : Around) (out : List Env) (s : Shared) (H : Hp) (E : XK), ∃ t, PSs (cxOf (L2.CX P w) P w K mg base N qual scope (He.ma K (He.ga K c) "__iter__") cdv A out s H E) body t ∧
      ∀ (D : Ends) (a l : Addr) (dx : Addr) (fs : List (Str × V)) (zs : List V), H a = some (.ins (He.ga K c) dx fs) → fs.lookup f = some (.ref l) → SqL K H l zs → (∀ it, H it = none → s.heap.objs.size ≤ it → D.rt (.ref it) (upd H it (ItO l it 0))) → t D (start N [.ref a]) H
  cl : Cls K (He.ga K c)
  na : NoAttr K (He.ga K c) f
  mt : Meth K (He.ga K c) "__iter__" (He.ma K (He.ga K c) "__iter__")
def iOwn (K : PySem.W.Frag) (C : Addr) (f : Str) (ta : TE) : TI := fun σ H R => ta σ H fun x H1 => ∃ a dx fs l xs, x = .ref a ∧ H1 a = some (.ins C dx fs) ∧ fs.lookup f = some (.ref l) ∧ SqL K H1 l xs ∧ R (Itl K l) H1
section
variable {X : Cx} {k j : Nat} {cn f : Str} {tg e : Expr} {ta : TE} {pos : Pos}
theorem pi_ownO (he : PE X e ta) (c : CalO X.prog X.w X.K X.mg X.base cn f) (hr : Room j X.A) (hk : 1 ≤ j := by first | decide | omega) : PI X tg e (iOwn X.K (He.ga X.K cn) f ta) := by
  obtain ⟨fd, x, qual, params, body, scope, N, Fd, Sc, b, hb⟩ := c.ex
  refine ⟨fun pins s σ H R I h => ?_⟩
  refine thn (he.run pins s σ H _ I h) fun u s1 ⟨v, H1, I1, rv, a, dx, fs, l, xs, ev, ea, el, hz, q⟩ => ?_
  subst ev
  obtain rfl : u = Value.ref a := rv
  obtain ⟨mA, J, _⟩ := ins_get I1.hok ea
  obtain ⟨od, J, _⟩ := J.look
  obtain ⟨m, hF⟩ := I1.fr
  refine PySem.W.owit_iter hF I1.ok.mod.kin J c.mt.at_ c.mt.fn ?_
  have n1 : X.s_0.heap.objs.size ≤ s1.heap.objs.size := I1.sz
  refine wpAny_call (codeAny_mono (body_at (k := 0) (vs := [.ref a]) (us := [.ref a]) (Q := fun v H2 => ∃ it, v = .ref it ∧ H1 it = none ∧ s1.heap.objs.size ≤ it ∧ H2 = upd H1 it (ItO l it 0)) (E := fun _ _ _ => False) Fd Sc (hr.mono hk) I1.env0 (b s1 [.ref a] I1.kIn rfl) (.cons rfl .nil) rfl (fun cdv => ?_)) fun r s' hq => ?_)
  · obtain ⟨t, pt, ht⟩ := hb cdv X.A X.stack s1 H1 (fun _ _ _ => False)
    exact ⟨t, pt, ht _ a l dx fs xs ea el hz fun it h1 h2 => ⟨it, rfl, h1, h2, rfl⟩⟩
  · cases r with
    | error er => obtain ⟨_, _, _, _, _, _, _, _, _, _, _, _, z⟩ := hq; exact z.elim
    | ok fl =>
      cases fl with
      | ret u =>
        obtain ⟨v, H', I', rv, it, rfl, h1, h2, rfl⟩ := I1.after hq
        obtain rfl : u = Value.ref it := rv
        have eo := itO_get I' upd_same
        unfold PySem.W.OwitIt
        refine wpAny_specialOf (name := PySem.Str.ofString "__next__") (T := "list_iterator") ⟨_, eo, rfl⟩ slot_listiter_next.lookup ?_
        have st : s'.heap.IsListIter it l 0 := ⟨_, eo, rfl, rfl⟩
        have hi : upd H1 it (ItO l it 0) it = some (ItO l it 0) := upd_same
        have hi' := hi
        unfold ItO at hi'
        have dr : ItX.dropH (upd H1 it (ItO l it 0)) it = H1 := ItX.dropH_upd h1
        have I2 := ItX.inv_drop I' hi'
        have fp := ItX.inv_fp I' hi (Nat.le_trans n1 h2)
        rw [dr] at I2 fp
        refine ⟨it, [it], _, _, H1, rfl, I2, turn_list l it, st, fun b hb => ?_, q⟩
        have e : b = it := by simpa using hb
        rw [e]
        exact fp
      | next => exact False.elim hq
      | brk => exact False.elim hq
      | cont => exact False.elim hq
end
/-! ### lifts -/
section
variable {K : PySem.W.Frag} {F F' H H' F0 H0 : Hp} {σ σ' σ1 σ2 σ0 : L2.St} {S S' S1 S2 S0 : DSt} {F1 F2 H1 H2 : Hp} {p : Addr} {v : V} {W : WX}
def lenOk (y : TV) (k : Int → Prop) : Prop := match y with
  | .val (.int n) => 0 ≤ n ∧ n < 2 ^ 63 ∧ k n
  | _ => False
def lenOS (c : Str) (gs : GSp) (a : Addr) (so : SO) (S : DSt) (Q : TV → DSt → Prop) : Prop := match so with
  | .ins c' _ => c' = c ∧ gs [.ref a] S.o (fun y O' => lenOk y fun n => Q (.val (.int n)) ⟨S.g, O'⟩) (fun _ _ => False)
  | _ => False
def lenOK (c : Str) (gs : GSp) (x : DV) (S : DSt) (Q : TV → DSt → Prop) : Prop := match x with
  | .ref a => onS (S.o a) fun so => lenOS c gs a so S Q
  | _ => False
def dLenO (c : Str) (gs : GSp) (dx : DX) : DE := fun S Q Ed => dx S (fun x S1 => lenOK c gs x S1 Q) Ed
theorem LE.lenO {c : Str} {gs : GSp} {ta : TE} {dx : DX} (h : LX K W ta dx) : LE K W (tCB (rLenO (He.ga K c) (liftG K gs)) (tCons ta tNil)) (dLenO c gs dx) := fun F H σ S Q Qd Ed s hd k e =>
  h F H σ S _ _ Ed s hd (fun v x F1 H1 S1 a r1 q => by
    cases x with
    | ref b =>
      cases r1
      obtain ⟨so, e1, q2⟩ := onS_ok (show onS (S1.o b) _ from q)
      cases so with
      | ins c' fs =>
        obtain ⟨rfl, q3⟩ := (show c' = c ∧ gs [.ref b] S1.o (fun y O' => lenOk y fun n => Qd (.val (.int n)) ⟨S1.g, O'⟩) (fun _ _ => False) from q2)
        obtain ⟨_, dx', vs, h3, h4⟩ := a.st.ob b _ e1
        refine ⟨b, dx', vs, rfl, h3, F1, S1.o, [.ref b], _, _, a.st.bare, .cons (.ref b) .nil, q3, fun y O' hy v F' H' b tv n => ?_, fun err O' he cls dd F' H' b er nd => (show False from he).elim⟩
        have b' := Stp.frame a.st b
        cases y with
        | val x =>
          cases x with
          | int m =>
            cases (show Rp K F' v (.int m) from tv)
            obtain ⟨m0, m1, hy⟩ := hy
            exact ⟨m, rfl, m0, m1, k (.int m) (.val (.int m)) F' H' _ (a.trans b') (.int m) Nw.val hy⟩
          | _ => exact (show False from hy).elim
        | _ => exact (show False from hy).elim
      | _ => exact (show False from q2).elim
    | _ => exact (show False from q).elim) e
def itOS (c f : Str) (so : SO) (S : DSt) (Q : List DV → (DSt → Prop) → DSt → Prop) : Prop := match so with
  | .ins c' fs => c' = c ∧ onS (fs.lookup f) fun y => refK y S fun a xs => Q xs (fun S2 => S2.o a = some (.lst xs)) S
  | _ => False
def itOK (c f : Str) (x : DV) (S : DSt) (Q : List DV → (DSt → Prop) → DSt → Prop) : Prop := match x with
  | .ref b => onS (S.o b) fun so => itOS c f so S Q
  | _ => False
def iOw (c f : Str) (d : DX) : DIG := fun S Q Ed => d S (fun x S1 => itOK c f x S1 Q) Ed
theorem LIG.own {c f : Str} {t : TE} {d : DX} (h : LX K W t d) : LIG K W (iOwn K (He.ga K c) f t) (iOw c f d) := fun F H σ S R Qd Ed s hd k e =>
  h F H σ S _ _ _ s hd (fun v x F1 H1 S1 a r q => by
    cases x with
    | ref b0 =>
      cases r
      obtain ⟨so, e1, q⟩ := onS_ok (show onS (S1.o b0) _ from q)
      cases so with
      | ins c' fs =>
        obtain ⟨rfl, q9⟩ := (show c' = c ∧ onS (fs.lookup f) (fun y => refK y S1 fun a xs => Qd xs (fun S2 => S2.o a = some (.lst xs)) S1) from q)
        obtain ⟨y, e2, q⟩ := onS_ok q9
        obtain ⟨_, dx', vs, h3, h4⟩ := a.st.ob b0 _ e1
        obtain ⟨w, e3, rw_⟩ := flds_some h4 e2
        cases y with
        | ref b =>
          cases rw_
          obtain ⟨so, e1, q⟩ := onS_ok (show onS (S1.o b) _ from q)
          cases so with
          | lst xs =>
            obtain ⟨_, us, h1, _⟩ := a.st.ob b _ e1
            refine ⟨b0, dx', vs, b, us, rfl, h3, e3, .inl (.inl h1), k _ xs _ F1 H1 S1 a (fun F2 H2 σ2 S2 s2 f2 g2 i => ?_) q⟩
            obtain ⟨_, vs, h2, h3⟩ := s2.ob b _ g2
            have hb : SqL K H2 b vs := .inl (.inl h2)
            refine ⟨fun hi => ⟨vs, hb, by rw [h3.len, hi]; exact Nat.le_refl _⟩, fun x hx => ?_⟩
            obtain ⟨u, hu, ru⟩ := h3.get hx
            refine ⟨⟨vs, u, hb, hu⟩, fun w H3 hy => ?_⟩
            obtain ⟨e3, hy⟩ := hy
            subst e3
            have := hy vs hb
            rw [hu] at this; cases this
            exact ⟨F2, Stp.refl s2, ru⟩
          | dic xs => exact (show False from q).elim
          | dit xs => exact (show False from q).elim
          | ins c fs => exact (show False from q).elim
        | _ => exact (show False from q).elim
      | dic xs => exact (show False from q).elim
      | dit xs => exact (show False from q).elim
      | lst xs => exact (show False from q).elim
    | _ => exact (show False from q).elim) e
end
section
variable {c c' f : Str} {gs : GSp} {dx : DX} {S : DSt} {g : List (Option SV)} {o : OM} {Q : TV → DSt → Prop} {Qi : List DV → (DSt → Prop) → DSt → Prop} {E : DErr → DSt → Prop} {a : Addr} {fs : List (Str × DV)} {n : Int} {k : Int → Prop}
instance p_dLenO : Step (dLenO c gs dx S Q E) (dx S (fun x S1 => lenOK c gs x S1 Q) E) := ⟨fun h => h⟩
instance p_lenOK : Step (lenOK c gs (.ref a) ⟨g, o⟩ Q) (onS (o a) fun so => lenOS c gs a so ⟨g, o⟩ Q) := ⟨fun h => h⟩
instance p_lenOS : Step (lenOS c gs a (.ins c fs) ⟨g, o⟩ Q) (gs [.ref a] o (fun y O' => lenOk y fun n => Q (.val (.int n)) ⟨g, O'⟩) (fun _ _ => False)) := ⟨fun h => ⟨rfl, h⟩⟩
instance p_lenOk : Step (lenOk (.val (.int n)) k) ((0 ≤ n ∧ n < 2 ^ 63) ∧ k n) := ⟨fun h => ⟨h.1.1, h.1.2, h.2⟩⟩
instance p_iOw : Step (iOw c f dx S Qi E) (dx S (fun x S1 => itOK c f x S1 Qi) E) := ⟨fun h => h⟩
instance p_itOK : Step (itOK c f (.ref a) ⟨g, o⟩ Qi) (onS (o a) fun so => itOS c f so ⟨g, o⟩ Qi) := ⟨fun h => h⟩
instance p_itOS : Step (itOS c f (.ins c fs) ⟨g, o⟩ Qi) (onS (fs.lookup f) fun y => refK y ⟨g, o⟩ fun a xs => Qi xs (fun S2 => S2.o a = some (.lst xs)) ⟨g, o⟩) := ⟨fun h => ⟨rfl, h⟩⟩
end
end L3

/-! L4m: == and != of lists whose items are objects of the map (lent as trees). -/
namespace L3
open PySem PySem.Spec PyProof.Rows L2
def twoK (xs : List DV) (k : DV → DV → Prop) : Prop := match xs with
  | [x, y] => k x y
  | _ => False
def flB (z : TV) (k : Bool → Prop) : Prop := match z with
  | .val (.bl b) => k b
  | _ => False
def d2L (f : DV → DV → Option TV) (da db : DE) : DE := fun S Q Ed => da S (fun y S1 => db S1 (fun y' S2 => onS (treeAll S2 [y, y']) fun xs => lendK xs S2 fun zs => twoK zs fun x x' => onS (f x x') fun z => flB z fun b => Q (.val (.bl b)) S2) Ed) Ed
section
variable {K : PySem.W.Frag} {F F' H H' F0 H0 : Hp} {σ σ' σ1 σ2 σ0 : L2.St} {S S' S1 S2 S0 : DSt} {F1 F2 H1 H2 : Hp} {p : Addr} {v : V} {W : WX}
theorem LE.bL {r : R2} {f : DV → DV → Option TV} {ta tb : TE} {da db : DE} (g : G2 K r f) (ha : LE K W ta da) (hb : LE K W tb db) : LE K W (tOp r ta tb) (d2L f da db) := fun F H σ S Q Qd Ed s hd k e =>
  ha F H σ S _ _ Ed s hd (fun v y F1 H1 S1 a r1 n q => hb F1 H1 σ S1 _ _ Ed a.st q (fun w y' F2 H2 S2 b r2 n2 q => by
    obtain ⟨xs, e1, m, hm, q⟩ := onS_ok q
    have ab := a.trans b
    have sm := b.st.ex
    have tv : TVs K F2 H2 σ S2 [v, w] [y, y'] := .cons (r1.step b) (.cons r2 .nil)
    have sub : Same F2 (plusA F2 H2 m (vAd [v, w])) := fun b u e => by unfold plusA; rw [e]
    have inH : Same (plusA F2 H2 m (vAd [v, w])) H2 := fun c u e => by
      unfold plusA at e
      cases z : F2 c with
      | some w => rw [z] at e; cases e; exact sm c _ z
      | none =>
        rw [z] at e
        have e' : (if c ∈ vAd [v, w] ∨ (m c).isSome = true then H2 c else none) = some u := e
        split at e'
        · exact e'
        · cases e'
    have at_ : ∀ c xs, m c = some xs → ∃ us, plusA F2 H2 m (vAd [v, w]) c = some (.lst us) ∧ Rps K (plusA F2 H2 m (vAd [v, w])) us xs := fun c xs z => by
      obtain ⟨h1, us, h2, h3⟩ := b.st.ob c _ (hm c xs z)
      refine ⟨us, ?_, h3.mono sub⟩
      unfold plusA
      rw [h1]
      show (if c ∈ vAd [v, w] ∨ (m c).isSome = true then H2 c else none) = _
      rw [if_pos (.inr (by rw [z]; rfl))]
      exact h2
    have rp := lend_ok sm at_ (fun a h => vAd_mem h) (treeAll_ok b.st tv e1)
    generalize fzs m xs = zs at rp q
    cases rp with
    | cons rx rp =>
      cases rp with
      | cons ry rp =>
        cases rp with
        | nil =>
          obtain ⟨z, e3, q⟩ := onS_ok q
          cases z with
          | val zz =>
            cases zz with
            | bl bb =>
              have R := res_of (Q := Q) (z := .val (.bl bb)) b.st (.inr (.inr fun _ _ _ _ => trivial)) q fun v' y' F' H' S' c r' n' q' => k v' y' F' H' S' (ab.trans c) r' (n'.back ab) q'
              exact g _ H2 v w _ _ _ Q inH (.of rx) (.of ry) e3 fun v F' H' gr r => R v _ H' (plus_grw sm gr) (flat_any (x := .bl bb) rfl r)
            | _ => exact (show False from q).elim
          | _ => exact (show False from q).elim) (e.step a)) e
end
section
variable {f : DV → DV → Option TV} {da db : DE} {S : DSt} {Q : TV → DSt → Prop} {E : DErr → DSt → Prop} {b : Bool} {k : Bool → Prop} {x y : DV} {k2 : DV → DV → Prop}
instance p_d2L : Step (d2L f da db S Q E) (da S (fun y S1 => db S1 (fun y' S2 => onS (treeAll S2 [y, y']) fun xs => lendK xs S2 fun zs => twoK zs fun x x' => onS (f x x') fun z => flB z fun b => Q (.val (.bl b)) S2) E) E) := ⟨fun h => h⟩
instance p_flB : Step (flB (.val (.bl b)) k) (k b) := ⟨fun h => h⟩
instance p_twoK : Step (twoK [x, y] k2) (k2 x y) := ⟨fun h => h⟩
end
end L3

/-! L4n: xs.clear(); a method with one keyword-only parameter that has a default. -/
namespace L3
open PySem PySem.Spec PyProof.Rows L2
section
variable {K : PySem.W.Frag} {xs : List DV} {kr : List DV × DV → Prop}
def clrF (xs as : List DV) : Option (List DV × DV) := match as with
  | [] => some ([], .non)
  | _ => none
theorem ML.clear : ML K rClear clrF := fun F H p us xs vs as ys z Q s hp r ra e k => by
  unfold clrF at e
  split at e
  · cases e
    cases ra
    exact ⟨p, us, rfl, rfl, hp, k _ .non .nil .non⟩
  · cases e
instance p_clr : Step (onS (clrF xs []) kr) (kr ([], .non)) := ⟨fun h => h⟩
end
/-- a method m(self, *, kn=dv) -/
structure CalMK (P : Program) (w : World) (K : PySem.W.Frag) (mg : Str → Option Value) (base : Heap) (k : Nat) (c m : Str) (ps : List Str) (kn : Str) (dv : Int) (sp : Sp) : Prop where
  ex : ∃ fd, FnOk P w K mg base (L2.CX P w) k (He.ma K (He.ga K c) m) fd ps sp ∧ (∃ ds, Vals [V.int dv] ds ∧ Binds K fd ps ds) ∧ ∃ mv : List Value, KBn K fd ps 1 [kn] (fun us ws => us ++ ws) (fun vs zs => vs ++ zs)
  cl : Cls K (He.ga K c)
  mt : Meth K (He.ga K c) m (He.ma K (He.ga K c) m)
section
variable {X : Cx} {W : WX} {k j : Nat} {cn m kn : Str} {dv : Int} {ps : List Str} {sp : Sp} {o : Expr} {kws : List Keyword} {ta : TE} {tk_ : TA} {pos apos : Pos}
theorem run_fnKW {f : Addr} {fd : FuncData} {pins : List (Addr × Obj)} {σ : L2.St} {H : Hp} {s : Shared} {Q : VK} {E : L2.St → XK} {a : Addr} {ws : List Value} {zs : List V} (F : FnOk X.prog X.w X.K X.mg X.base (L2.CX X.prog X.w) k f fd ps sp) (hr : Room k X.A) (hb : KBn X.K fd ps 1 [kn] (fun us ws => us ++ ws) (fun vs zs => vs ++ zs))
    (hx : PassesAt (L2.CX X.prog X.w) X σ (E σ)) (I : Inv X pins σ H s) (r : Vals zs ws) (hz : zs.length = 1) (h : sp (.ref a :: zs) H Q (E σ)) : wpAny (model X.prog X.w) X.A (call (.ref f) [.ref a] ([kn].zip ws)) (EP X pins σ Q) X.xe s := by
  have r2 : Vals (V.ref a :: zs) (Value.ref a :: ws) := .cons rfl r
  refine wpAny_call (codeAny_mono (F.run X.A X.stack s H ⟨[.ref a], [kn].zip ws⟩ (Value.ref a :: ws) (.ref a :: zs) Q (E σ) hr I.env0 (hb.to s [.ref a] ws I.kIn rfl (by rw [← r.length, hz]; rfl)) r2 h) fun r s' hq => ?_)
  cases r with
  | error e => exact hx pins H s e s' I hq
  | ok fl =>
    cases fl with
    | ret u => exact I.after hq
    | next => exact False.elim hq
    | brk => exact False.elim hq
    | cont => exact False.elim hq
/-- o.m(kn=e) -/
theorem pe_mcalW {pl : Sem Bool} (he : PE X o ta) (c : CalMK X.prog X.w X.K X.mg X.base k cn m ps kn dv sp) (hr : Room j X.A) (tk : Takes X W) {e : Expr} {te : TE} {nm : Option Str} {kpos : Pos} (hkw : PE X e te) (hk : k ≤ j := by first | decide | omega)
    (hall : (backToKw pos (keywordEach [⟨nm, e, kpos⟩] X.env)).all (·.1.isSome) = true := by rfl) (hks : (backToKw pos (keywordEach [⟨nm, e, kpos⟩] X.env)).filterMap (·.1) = [kn] := by rfl)
    (hpl : ((backTo pos (starEach [] X.env)).any (·.1) || (backToKw pos (keywordEach [⟨nm, e, kpos⟩] X.env)).any (·.1.isNone)) = false := by rfl)
    (ht : eval (.Call (.Attribute o m apos) [] [⟨nm, e, kpos⟩] pos) X.env = (do
      let ov ← eval o X.env
      standAt apos.atName
      let (f, first) ← holding [ov] (getMethod ov m pl)
      callWith pos f first (backTo pos (starEach [] X.env)) (backToKw pos (keywordEach [⟨nm, e, kpos⟩] X.env))) := by rfl) :
    PE X (.Call (.Attribute o m apos) [] [⟨nm, e, kpos⟩] pos) (tCallS sp (WE W) (tRecv (He.ga X.K cn) m ta (tCons te tNil))) := by
  obtain ⟨fd, F, _, _, b⟩ := c.ex
  refine ⟨fun pins s σ H Q I h => ?_⟩
  refine PySem.W.methodCall_KW (pl := pl) (thn (he.run pins s σ H _ I h) fun u s1 ⟨x, H1, I1, rx, ⟨a, dx, fs, ex, ea, l⟩, q⟩ => ?_) ht
  subst ex
  obtain rfl : u = Value.ref a := rx
  refine getmeth_ok I1 ea c.cl c.mt l ?_
  refine PySem.W.callWith_KW0 (first := [.ref a]) (h₀ := X.base) I.ok.mod.kin c.mt.kp hall ?_ hpl
  show wpAny _ _ (evalAll ((do let v ← eval e X.env; standAt pos; pure v) :: [])) _ _ s1
  refine wpAny_evalAll_cons (wpAny_bind (thn (hkw.run pins s1 σ H1 _ I1 q) fun u s2 ⟨y, H2, I2, ry, q2⟩ => wpAny_bind (wpAny_standAt (wpAny_pure (wpAny_evalAll_nil ⟨I2.kIn, ?_⟩)))))
  rw [hks]
  exact run_fnKW (E := WE W) (zs := [y]) F (hr.mono hk) b (passAt tk σ) I2 (.cons ry .nil) rfl q2
/-- o.m() -/
theorem pe_mcalD {pl : Sem Bool} (he : PE X o ta) (c : CalMK X.prog X.w X.K X.mg X.base k cn m ps kn dv sp) (hr : Room j X.A) (tk : Takes X W) (hk : k ≤ j := by first | decide | omega)
    (ht : eval (.Call (.Attribute o m apos) [] [] pos) X.env = (do
      let ov ← eval o X.env
      standAt apos.atName
      let (f, first) ← holding [ov] (getMethod ov m pl)
      callWith pos f first (backTo pos (starEach [] X.env)) (backToKw pos (keywordEach [] X.env))) := by rfl) :
    PE X (.Call (.Attribute o m apos) [] [] pos) (tCallS sp (WE W) (tRecv (He.ga X.K cn) m ta (tCons (tC (.int dv)) tNil))) := by
  obtain ⟨fd, F, ⟨ds, hd, b⟩, _⟩ := c.ex
  refine ⟨fun pins s σ H Q I h => ?_⟩
  refine PySem.W.methodCall_KW (pl := pl) (thn (he.run pins s σ H _ I h) fun u s1 ⟨x, H1, I1, rx, ⟨a, dx, fs, ex, ea, l⟩, q⟩ => ?_) ht
  subst ex
  obtain rfl : u = Value.ref a := rx
  refine getmeth_ok I1 ea c.cl c.mt l ?_
  exact PySem.W.callWith_K0 (first := [.ref a]) I1.kIn c.mt.kp (run_fnSD (us := [.ref a]) (vs := [.ref a]) (E := WE W) F (hr.mono hk) b hd (passAt tk σ) I1 (.cons rfl .nil) q)
theorem pe_mcalWK {pl : Sem Bool} (K : PySem.W.Frag) (hK : X.K = K) (he : PE X o ta) (c : CalMK X.prog X.w X.K X.mg X.base k cn m ps kn dv sp) (hr : Room j X.A) (tk : Takes X W) {e : Expr} {te : TE} {nm : Option Str} {kpos : Pos} (hkw : PE X e te) (hk : k ≤ j := by first | decide | omega)
    (hall : (backToKw pos (keywordEach [⟨nm, e, kpos⟩] X.env)).all (·.1.isSome) = true := by rfl) (hks : (backToKw pos (keywordEach [⟨nm, e, kpos⟩] X.env)).filterMap (·.1) = [kn] := by rfl)
    (hpl : ((backTo pos (starEach [] X.env)).any (·.1) || (backToKw pos (keywordEach [⟨nm, e, kpos⟩] X.env)).any (·.1.isNone)) = false := by rfl)
    (ht : eval (.Call (.Attribute o m apos) [] [⟨nm, e, kpos⟩] pos) X.env = (do
      let ov ← eval o X.env
      standAt apos.atName
      let (f, first) ← holding [ov] (getMethod ov m pl)
      callWith pos f first (backTo pos (starEach [] X.env)) (backToKw pos (keywordEach [⟨nm, e, kpos⟩] X.env))) := by rfl) :
    PE X (.Call (.Attribute o m apos) [] [⟨nm, e, kpos⟩] pos) (tCallS sp (WE W) (tRecv (He.ga K cn) m ta (tCons te tNil))) := by
  subst hK; exact pe_mcalW he c hr tk hkw hk hall hks hpl ht
theorem pe_mcalDK {pl : Sem Bool} (K : PySem.W.Frag) (hK : X.K = K) (he : PE X o ta) (c : CalMK X.prog X.w X.K X.mg X.base k cn m ps kn dv sp) (hr : Room j X.A) (tk : Takes X W) (hk : k ≤ j := by first | decide | omega)
    (ht : eval (.Call (.Attribute o m apos) [] [] pos) X.env = (do
      let ov ← eval o X.env
      standAt apos.atName
      let (f, first) ← holding [ov] (getMethod ov m pl)
      callWith pos f first (backTo pos (starEach [] X.env)) (backToKw pos (keywordEach [] X.env))) := by rfl) :
    PE X (.Call (.Attribute o m apos) [] [] pos) (tCallS sp (WE W) (tRecv (He.ga K cn) m ta (tCons (tC (.int dv)) tNil))) := by
  subst hK; exact pe_mcalD he c hr tk hk ht
end
section
variable {K : PySem.W.Frag} {x qual kn m2 : Str} {dv : Int} {params : Arguments} {body : List Stmt} {scope : Scope} {f : Addr} {fd : FuncData}
theorem noKw {kws : List (Str × V)} (F : FunD K x qual params body scope [] kws f fd) : FunD K x qual params body scope [] [] f fd := by
  obtain ⟨oc, od, dV, kV, doc, pm, an, cdv, ct, osl, e, lk, hcd, hD, _⟩ := F.ex
  exact ⟨⟨oc, od, dV, kV, doc, pm, an, cdv, ct, osl, e, lk, hcd, hD, .inl rfl⟩, F.kp⟩
theorem kw_ds {p1 p2 : Str} (F : FunD K x qual params body scope [] [(kn, .int dv)] f fd)
    (h : ∀ (D : Addr) (doc pm : Value) (an : Option Addr) (cdv ct u v : Value), KwChain D [(kn, v)] (bindArgs (PySem.W.fnOf x qual params body scope .none (.ref D) doc pm an cdv ct) ⟨[u], []⟩) [(p1, u), (p2, v)]) : ∃ ds, Vals [V.int dv] ds ∧ Binds K fd [p1, p2] ds :=
  FunD.binds0 F 1 (fun z => by cases z) rfl fun D doc pm an cdv ct us ks h1 h2 => match us, ks, h1, h2 with
    | [u], [v], _, _ => h D doc pm an cdv ct u v
theorem kw_bn {p1 p2 : Str} (F : FunD K x qual params body scope [] [(kn, .int dv)] f fd)
    (h : ∀ (D : Addr) (doc pm : Value) (an : Option Addr) (cdv ct u v : Value), bindArgs (PySem.W.fnOf x qual params body scope .none (.ref D) doc pm an cdv ct) ⟨[u], [(kn, v)]⟩ = pure [(p1, u), (p2, v)]) : ∃ mv : List Value, KBn K fd [p1, p2] 1 [kn] (fun us ws => us ++ ws) (fun vs zs => vs ++ zs) :=
  FunD.kbinds0 F 1 [kn] [] (fun us _ ws => us ++ ws) (fun z => by cases z) (fun q hq => (List.not_mem_nil hq).elim) (fun r1 _ r3 => r1.append r3) fun D doc pm an cdv ct us mv ws h1 h2 h3 => match us, ws, h1, h3 with
    | [u], [v], _, _ => h D doc pm an cdv ct u v
end
end L3

/-! L4o: comprehensions with two clauses. -/
namespace L3
open PySem PySem.Spec PyProof.Rows L2
/-- the outer turns -/
def lcO (g : DG) (c : DT) (di1 : DI) (g1 : DG) (c1 : DT) (d : DX) (ks ks1 : List Nat) : List DV → List DV → DSt → (List DV → DSt → Prop) → Prop
  | [], acc, S, Q => Q acc S
  | x :: xs, acc, S, Q => g x S fun S1 => c S1 (fun b S2 => if b = true then di1 S2 (fun ys S3 => lcP g1 c1 d ks1 ys acc (S3.wipe ks1) fun acc S4 => lcO g c di1 g1 c1 d ks ks1 xs acc (S4.wipe ks) Q) (fun _ _ => False) else lcO g c di1 g1 c1 d ks ks1 xs acc (S2.wipe ks) Q) (fun _ _ => False)
def dLc2 (di : DI) (g : DG) (c : DT) (di1 : DI) (g1 : DG) (c1 : DT) (d : DX) (ks ks1 : List Nat) : DE := fun S Q Ed => di S (fun xs S1 => lcO g c di1 g1 c1 d ks ks1 xs [] (S1.wipe ks) fun acc S2 => Q (.own (.lst acc)) S2) Ed
theorem LE.lc2 {K : PySem.W.Frag} {W : WX} {wi wi1 : TI} {di di1 : DI} {g g1 : TG} {dg dg1 : DG} {tt tt1 : TT} {dt dt1 : DT} {te : TE} {dx : DX} {vs vs1 : List Nat} (hi : LI K W wi di) (hg : LG K g dg) (gw : GW g vs) (ht : LT K W0 tt dt)
    (hi1 : LI K W0 wi1 di1) (hg1 : LG K g1 dg1) (gw1 : GW g1 vs1) (ht1 : LT K W0 tt1 dt1) (he : LX K W0 te dx) :
    LE K W (tLc2 wi g tt wi1 g1 tt1 te vs vs1) (dLc2 di dg dt di1 dg1 dt1 dx vs vs1) := fun F H σ S Q Qd Ed s hd k e => by
  refine hi F H σ S _ _ _ s hd (fun J xs F1 H1 S1 a w q => ?_) e
  intro D hD
  have s1 : Stp K F1 H1 σ S1 F1 H1 σ (S1.wipe vs) := Stp.wipe vs a.st
  have ag : ∀ {S : DSt}, Agr (L2.wipe σ vs) σ (S.wipe vs) := agr_wipe
  have b0 : Stp K F1 H1 (L2.wipe σ vs) (S1.wipe vs) F1 H1 (L2.wipe σ vs) (S1.wipe vs) := Stp.refl (ag.sym.stt s1.st)
  have hF1 : F1 D = none := a.st.ex.free hD
  have nD : ¬ ow (L2.wipe σ vs) (S1.wipe vs) D := fun z => by
    obtain ⟨_, o, h⟩ := (ag.sym.stt s1.st).ow_some z
    exact h.ne hD
  refine ⟨fun i m H2 => i ≤ xs.length ∧ m = xs.length - i ∧ ∃ F2 S2 acc, Stp K F1 H1 (L2.wipe σ vs) (S1.wipe vs) F2 H2 (L2.wipe σ vs) (DSt.wipe S2 vs) ∧ TVr K F2 H2 (L2.wipe σ vs) (DSt.wipe S2 vs) (.ref D) (.own (.lst acc)) ∧
    lcO dg dt di1 dg1 dt1 dx vs vs1 (xs.drop i) acc (DSt.wipe S2 vs) fun acc S2 => Qd (.own (.lst acc)) S2, ⟨xs.length, Nat.zero_le _, by simp, F1, S1, [], b0.hid hD hF1 nD, ⟨D, rfl, hF1, ⟨[], upd_same, .nil⟩, nD⟩, by simpa using q⟩, ?_⟩
  rintro i m H2 ⟨hil, rfl, F2, S2, acc, b, tv, q⟩
  obtain ⟨w1, w2⟩ := w F2 H2 _ _ b.st b.fx i
  obtain ⟨D', eD, hFD, ⟨us, hDu, ru⟩, hnD⟩ := id tv
  cases eD
  by_cases hlt : i < xs.length
  · obtain ⟨w3, w4⟩ := w2 xs[i] (List.getElem?_eq_getElem hlt)
    refine .inr ⟨w3, fun H3 => ∃ F3 S3 acc, Stp K F1 H1 (L2.wipe σ vs) (S1.wipe vs) F3 H3 (L2.wipe σ vs) (DSt.wipe S3 vs) ∧ TVr K F3 H3 (L2.wipe σ vs) (DSt.wipe S3 vs) (.ref D) (.own (.lst acc)) ∧
      lcO dg dt di1 dg1 dt1 dx vs vs1 (xs.drop (i + 1)) acc (DSt.wipe S3 vs) fun acc S2 => Qd (.own (.lst acc)) S2, fun H3 ⟨F3, S3, acc3, c, t3, q3⟩ => ⟨_, by omega, by omega, rfl, F3, S3, acc3, c, t3, q3⟩, fun v H3 hy => ?_⟩
    obtain ⟨F3, c, r⟩ := w4 v H3 hy
    rw [List.drop_eq_getElem_cons hlt] at q
    refine gw v σ H3 _ (hg F3 H3 _ _ v _ _ _ c.st r q fun F4 H4 σ4 S4 d q4 hw => ?_)
    have bcd := (b.trans c).trans d
    have tv4 : TVr K F4 H4 σ4 S4 (.ref D) (.own (.lst acc)) := by
      have cd := c.trans d
      refine ⟨D, rfl, ?_, ⟨us, cd.kp D _ hDu hnD, ru.mono cd.fx⟩, fun z => ?_⟩
      · cases e1 : F4 D with
        | none => rfl
        | some u => exact absurd hFD (cd.nf D (by rw [hDu]; exact fun y => by cases y) hnD (by rw [e1]; exact fun y => by cases y))
      · rcases cd.no D z with y | y
        · exact hnD y
        · rw [hDu] at y; cases y
    -- back to the wiped slots
    have back : ∀ {F6 H6 : Hp} {S6 : DSt}, Stp K F1 H1 (L2.wipe σ vs) (S1.wipe vs) F6 H6 σ4 S6 → Stp K F1 H1 (L2.wipe σ vs) (S1.wipe vs) F6 H6 (L2.wipe σ vs) (S6.wipe vs) := fun {F6 H6 S6} g6 => by
      have g7 := g6.trans (Stp.wipe vs g6.st)
      have g8 := g7.agr ⟨rfl, fun _ _ _ => rfl⟩ (agr_wipe (σ := σ4) (S := S6) (vs := vs)).sym
      rw [hw] at g8
      exact g8
    have tback : ∀ {F6 H6 : Hp} {S6 : DSt} {xs6 : List DV}, TVr K F6 H6 σ4 S6 (.ref D) (.own (.lst xs6)) → TVr K F6 H6 (L2.wipe σ vs) (S6.wipe vs) (.ref D) (.own (.lst xs6)) := fun {F6 H6 S6 xs6} t6 => by
      obtain ⟨D', eD, h1, h2, h3⟩ := t6
      cases eD
      refine ⟨D, rfl, h1, h2, fun z => h3 ?_⟩
      rw [← hw] at z
      have z2 := (agr_wipe (σ := σ4) (S := S6) (vs := vs)).ow z
      rcases z2 with ⟨j, o, e1, e2⟩ | z2
      · exact .inl ⟨j, o, wipe_get e1, e2⟩
      · exact .inr z2
    refine ht F4 H4 σ4 S4 _ _ _ d.st q4 (fun t F5 H5 S5 f q5 => ?_) ExL.no
    have tv5 := tv4.step f
    have bf := bcd.trans f
    cases t with
    | false =>
      exact ⟨F5, S5, acc, back bf, tback tv5, q5⟩
    | true =>
      refine hi1 F5 H5 σ4 S5 _ _ _ f.st q5 (fun J1 ys F6 H6 S6 a1 u1 q6 => ?_) ExL.no
      -- the inner turns
      have tv6 := tv5.step a1
      have b6 := bf.trans a1
      have down : ∀ {F7 H7 : Hp} {S7 : DSt}, Stp K F1 H1 (L2.wipe σ vs) (S1.wipe vs) F7 H7 σ4 S7 → Stp K F1 H1 (L2.wipe σ vs) (S1.wipe vs) F7 H7 (L2.wipe σ4 vs1) (S7.wipe vs1) := fun {F7 H7 S7} g6 =>
        (g6.trans (Stp.wipe vs1 g6.st)).agr ⟨rfl, fun _ _ _ => rfl⟩ (agr_wipe (σ := σ4) (S := S7) (vs := vs1)).sym
      have tdown : ∀ {F7 H7 : Hp} {S7 : DSt} {xs7 : List DV}, TVr K F7 H7 σ4 S7 (.ref D) (.own (.lst xs7)) → TVr K F7 H7 (L2.wipe σ4 vs1) (S7.wipe vs1) (.ref D) (.own (.lst xs7)) := fun {F7 H7 S7 xs7} t7 => by
        obtain ⟨D', eD, h1, h2, h3⟩ := t7
        cases eD
        refine ⟨D, rfl, h1, h2, fun z => h3 ?_⟩
        have z2 := (agr_wipe (σ := σ4) (S := S7) (vs := vs1)).ow z
        rcases z2 with ⟨j, o, e1, e2⟩ | z2
        · exact .inl ⟨j, o, wipe_get e1, e2⟩
        · exact .inr z2
      refine ⟨fun j m H7 => j ≤ ys.length ∧ m = ys.length - j ∧ ∃ F7 S7 acc, Same F6 F7 ∧ Stp K F1 H1 (L2.wipe σ vs) (S1.wipe vs) F7 H7 (L2.wipe σ4 vs1) (DSt.wipe S7 vs1) ∧ TVr K F7 H7 (L2.wipe σ4 vs1) (DSt.wipe S7 vs1) (.ref D) (.own (.lst acc)) ∧
        lcP dg1 dt1 dx vs1 (ys.drop j) acc (DSt.wipe S7 vs1) fun acc S4 => lcO dg dt di1 dg1 dt1 dx vs vs1 (xs.drop (i + 1)) acc (S4.wipe vs) fun acc S2 => Qd (.own (.lst acc)) S2, ⟨ys.length, Nat.zero_le _, by simp, F6, S6, acc, Same.refl _, down b6, tdown tv6, by simpa using q6⟩, ?_⟩
      rintro j m H7 ⟨hjl, rfl, F7, S7, acc7, sm7, b7, tv7, q7⟩
      obtain ⟨v1, v2⟩ := u1 F7 H7 _ _ b7.st sm7 j
      obtain ⟨D', eD, hFD7, ⟨us7, hDu7, ru7⟩, hnD7⟩ := id tv7
      cases eD
      by_cases hjt : j < ys.length
      · obtain ⟨v3, v4⟩ := v2 ys[j] (List.getElem?_eq_getElem hjt)
        refine .inr ⟨v3, fun H8 => ∃ F8 S8 acc, Same F6 F8 ∧ Stp K F1 H1 (L2.wipe σ vs) (S1.wipe vs) F8 H8 (L2.wipe σ4 vs1) (DSt.wipe S8 vs1) ∧ TVr K F8 H8 (L2.wipe σ4 vs1) (DSt.wipe S8 vs1) (.ref D) (.own (.lst acc)) ∧
          lcP dg1 dt1 dx vs1 (ys.drop (j + 1)) acc (DSt.wipe S8 vs1) fun acc S4 => lcO dg dt di1 dg1 dt1 dx vs vs1 (xs.drop (i + 1)) acc (S4.wipe vs) fun acc S2 => Qd (.own (.lst acc)) S2, fun H8 ⟨F8, S8, acc8, sm8, c8, t8, q8⟩ => ⟨_, by omega, by omega, rfl, F8, S8, acc8, sm8, c8, t8, q8⟩, fun y H8 hy8 => ?_⟩
        obtain ⟨F8, c8, r8⟩ := v4 y H8 hy8
        rw [List.drop_eq_getElem_cons hjt] at q7
        refine gw1 y σ4 H8 _ (hg1 F8 H8 _ _ y _ _ _ c8.st r8 q7 fun F9 H9 σ9 S9 d9 q9 hw9 => ?_)
        have bcd9 := (b7.trans c8).trans d9
        have sm9 := (sm7.trans c8.fx).trans d9.fx
        have tv9 : TVr K F9 H9 σ9 S9 (.ref D) (.own (.lst acc7)) := by
          have cd := c8.trans d9
          refine ⟨D, rfl, ?_, ⟨us7, cd.kp D _ hDu7 hnD7, ru7.mono cd.fx⟩, fun z => ?_⟩
          · cases e1 : F9 D with
            | none => rfl
            | some u => exact absurd hFD7 (cd.nf D (by rw [hDu7]; exact fun y => by cases y) hnD7 (by rw [e1]; exact fun y => by cases y))
          · rcases cd.no D z with y | y
            · exact hnD7 y
            · rw [hDu7] at y; cases y
        have back9 : ∀ {F6' H6' : Hp} {S6' : DSt}, Stp K F1 H1 (L2.wipe σ vs) (S1.wipe vs) F6' H6' σ9 S6' → Stp K F1 H1 (L2.wipe σ vs) (S1.wipe vs) F6' H6' (L2.wipe σ4 vs1) (S6'.wipe vs1) := fun {F6' H6' S6'} g6 => by
          have g7 := g6.trans (Stp.wipe vs1 g6.st)
          have g8 := g7.agr ⟨rfl, fun _ _ _ => rfl⟩ (agr_wipe (σ := σ9) (S := S6') (vs := vs1)).sym
          rw [hw9] at g8
          exact g8
        have tback9 : ∀ {F6' H6' : Hp} {S6' : DSt} {xs6 : List DV}, TVr K F6' H6' σ9 S6' (.ref D) (.own (.lst xs6)) → TVr K F6' H6' (L2.wipe σ4 vs1) (S6'.wipe vs1) (.ref D) (.own (.lst xs6)) := fun {F6' H6' S6' xs6} t6 => by
          obtain ⟨D', eD, h1, h2, h3⟩ := t6
          cases eD
          refine ⟨D, rfl, h1, h2, fun z => h3 ?_⟩
          rw [← hw9] at z
          have z2 := (agr_wipe (σ := σ9) (S := S6') (vs := vs1)).ow z
          rcases z2 with ⟨j, o, e1, e2⟩ | z2
          · exact .inl ⟨j, o, wipe_get e1, e2⟩
          · exact .inr z2
        refine ht1 F9 H9 σ9 S9 _ _ _ d9.st q9 (fun t FA HA SA fA qA => ?_) ExL.no
        have tvA := tv9.step fA
        have bA := bcd9.trans fA
        have smA := sm9.trans fA.fx
        cases t with
        | false =>
          exact ⟨FA, SA, acc7, smA, back9 bA, tback9 tvA, qA⟩
        | true =>
          refine he FA HA σ9 SA _ _ _ fA.st qA (fun y z FB HB SB gB rz qB => ?_) ExL.no
          obtain ⟨qB1, qB2⟩ := qB
          have tvB := tvA.step gB
          obtain ⟨D', eD, hFB, ⟨usB, hDB, ruB⟩, hnB⟩ := tvB
          cases eD
          have bg := (bA.trans gB).hid (p := D) (u := .lst (usB ++ [y])) hD hFB hnB
          exact ⟨usB, hDB, by rw [ruB.len]; exact qB1, FB, SB, acc7 ++ [z], smA.trans gB.fx, back9 bg, tback9 ⟨D, rfl, hFB, ⟨_, upd_same, ruB.append (.cons rz .nil)⟩, hnB⟩, qB2⟩
      · have hj' : j = ys.length := by omega
        refine .inl ⟨v1 hj', ?_⟩
        rw [List.drop_eq_nil_of_le (by omega)] at q7
        have b8 := back (b7.agr ⟨rfl, fun _ _ _ => rfl⟩ (agr_wipe (σ := σ4) (S := S7) (vs := vs1)))
        have tv8 : TVr K F7 H7 σ4 (S7.wipe vs1) (.ref D) (.own (.lst acc7)) := by
          refine ⟨D, rfl, hFD7, ⟨us7, hDu7, ru7⟩, fun z => hnD7 ((agr_wipe (σ := σ4) (S := S7) (vs := vs1)).sym.ow z)⟩
        exact ⟨F7, S7.wipe vs1, acc7, b8, tback tv8, q7⟩
  · have hi' : i = xs.length := by omega
    refine .inl ⟨w1 hi', ?_⟩
    rw [List.drop_eq_nil_of_le (by omega)] at q
    have g1 := b.agr (agr_wipe (σ := σ) (S := S1) (vs := vs)) (agr_wipe (σ := σ) (S := S2) (vs := vs))
    have g2 := (a.trans s1).trans g1
    refine k (.ref D) (.own (.lst acc)) F2 H2 _ g2 ⟨D, rfl, hFD, ⟨us, hDu, ru⟩, fun z => hnD ((agr_wipe (σ := σ) (S := S2) (vs := vs)).sym.ow z)⟩ (fun o p e1 e2 => ?_) q
    cases e2
    exact a.newb (.inl hD)
section
variable {dg dg1 : DG} {dt dt1 : DT} {di di1 : DI} {dX : DX} {ks ks1 : List Nat} {S : DSt} {Q : TV → DSt → Prop} {E : DErr → DSt → Prop} {Ql : List DV → DSt → Prop} {acc xs : List DV} {x : DV}
instance p_lc2 : Step (dLc2 di dg dt di1 dg1 dt1 dX ks ks1 S Q E) (di S (fun xs S1 => wipeS ks S1 fun S2 => lcO dg dt di1 dg1 dt1 dX ks ks1 xs [] S2 fun acc S2 => Q (.own (.lst acc)) S2) E) := ⟨fun h => h⟩
instance p_lcO_nil : Step (lcO dg dt di1 dg1 dt1 dX ks ks1 [] acc S Ql) (Ql acc S) := ⟨fun h => h⟩
instance p_lcO_cons : Step (lcO dg dt di1 dg1 dt1 dX ks ks1 (x :: xs) acc S Ql) (dg x S fun S1 => dt S1 (fun b S2 => if b = true then di1 S2 (fun ys S3 => wipeS ks1 S3 fun S4 => lcP dg1 dt1 dX ks1 ys acc S4 fun acc S5 => wipeS ks S5 fun S6 => lcO dg dt di1 dg1 dt1 dX ks ks1 xs acc S6 Ql) (fun _ _ => False) else wipeS ks S2 fun S6 => lcO dg dt di1 dg1 dt1 dX ks ks1 xs acc S6 Ql) (fun _ _ => False)) := ⟨fun h => h⟩
theorem lcO_inv {α : Type} {inj : α → DV} {l : List α} (I : List α → List DV → DSt → Prop) (h0 : I [] acc S)
    (hs : ∀ (pre : List α) (a : α) (post : List α) (acc : List DV) (S1 : DSt) (k : List DV → DSt → Prop), l = pre ++ a :: post → I pre acc S1 → (∀ acc' S2, I (pre ++ [a]) acc' S2 → k acc' S2) →
      dg (inj a) S1 fun S2 => dt S2 (fun t S3 => if t = true then di1 S3 (fun ys S4 => wipeS ks1 S4 fun S5 => lcP dg1 dt1 dX ks1 ys acc S5 fun acc S6 => wipeS ks S6 fun S7 => k acc S7) (fun _ _ => False) else wipeS ks S3 fun S4 => k acc S4) (fun _ _ => False))
    (he : ∀ acc S1, I l acc S1 → Ql acc S1) : lcO dg dt di1 dg1 dt1 dX ks ks1 (l.map inj) acc S Ql := by
  have main : ∀ (post pre : List α) (acc : List DV) (S1 : DSt), l = pre ++ post → I pre acc S1 → lcO dg dt di1 dg1 dt1 dX ks ks1 (post.map inj) acc S1 Ql := by
    intro post
    induction post with
    | nil => intro pre acc S1 e h; rw [List.append_nil] at e; subst e; exact he acc S1 h
    | cons a post ih => intro pre acc S1 e h; exact hs pre a post acc S1 (fun acc' S2 => lcO dg dt di1 dg1 dt1 dX ks ks1 (post.map inj) acc' S2 Ql) e h fun acc' S2 h2 => ih (pre ++ [a]) acc' S2 (by rw [e, List.append_assoc]; rfl) h2
  exact main l [] acc S rfl h0
/-- an inner walk that leaves all as it is -/
theorem lcA_pure {α : Type} {S0 : DSt} {inj : α → DV} {l : List α} {k : List DV → DSt → Prop} (p : α → Bool) (f : α → DV) (hl : acc.length + l.length ≤ sizeLine)
    (hs : ∀ a ∈ l, ∀ (K : DV → DSt → Prop) (Kf : DSt → Prop), (p a = true → ∀ S3, S3.wipe ks = S0 → K (f a) S3) → (p a = false → ∀ S3, S3.wipe ks = S0 → Kf S3) →
      dg (inj a) S0 fun S2 => dt S2 (fun t S3 => if t = true then dX S3 K (fun _ _ => False) else Kf S3) (fun _ _ => False))
    (he : k (acc ++ (l.filter p).map f) S0) : lcP dg dt dX ks (l.map inj) acc S0 k := by
  refine lcL_inv (fun pre acc1 S1 => acc1 = acc ++ (pre.filter p).map f ∧ S1 = S0) ⟨(List.append_nil _).symm, rfl⟩ ?_ ?_
  · rintro pre a post acc1 S1 kn e ⟨rfl, rfl⟩ hk
    refine hs a (by rw [e]; simp) _ _ (fun hp S3 h3 => ⟨?_, ?_⟩) fun hp S3 h3 => ?_
    · have h1 : ((pre.filter p).map f).length ≤ pre.length := by rw [List.length_map]; exact List.length_filter_le _ _
      have h2 : l.length = pre.length + (post.length + 1) := by rw [e, List.length_append, List.length_cons]
      rw [List.length_append]
      omega
    · show kn _ (S3.wipe ks)
      rw [h3]
      exact hk _ _ ⟨by rw [List.filter_append, List.map_append]; simp [hp, List.append_assoc], rfl⟩
    · show kn _ (S3.wipe ks)
      rw [h3]
      exact hk _ _ ⟨by rw [List.filter_append, List.map_append]; simp [hp], rfl⟩
  · rintro acc S1 ⟨rfl, rfl⟩
    exact he
end
end L3

/-! L4p: texts: str(n), int(s), sep.join(xs), s.split(sep), in, slices, walks sign by sign. -/
namespace L3
open PySem PySem.Spec PyProof.Rows L2
section
variable {K : PySem.W.Frag} {W : WX}
theorem rps_strs {F : Hp} : ∀ l : List Str, Rps K F (l.map V.str) (l.map DV.str)
  | [] => .nil
  | x :: l => .cons (.str x) (rps_strs l)
/-! methods of texts with one argument -/
def strK (y : TV) (k : Str → Prop) : Prop := match y with
  | .val (.str a) => k a
  | _ => False
theorem strK_ok {y : TV} {k : Str → Prop} (h : strK y k) : ∃ a, y = .val (.str a) ∧ k a := by
  unfold strK at h
  split at h
  · exact ⟨_, rfl, h⟩
  · exact h.elim
def dM1 (f : Str → DV → Option TV) (da db : DE) : DE := fun S Q Ed => da S (fun y S1 => strK y fun a => db S1 (fun y' S2 => onS (tree S2 y') fun x' => onS (f a x') fun z => Q z S2) Ed) Ed
def GS (K : PySem.W.Frag) (r : V → List V → Hp → VK → Prop) (f : Str → DV → Option TV) : Prop := ∀ F H w a y z Q, Same F H → RpB K F H w y → f a y = some z → Res K F H z Q → r (.str a) [w] H Q
theorem LE.m1 {r : V → List V → Hp → VK → Prop} {f : Str → DV → Option TV} {ta tb : TE} {da db : DE} (g : GS K r f) (ha : LE K W ta da) (hb : LE K W tb db) : LE K W (tM1 r ta tb) (dM1 f da db) := fun F H σ S Q Qd Ed s hd k e =>
  ha F H σ S _ _ Ed s hd (fun v y F1 H1 S1 a r1 n q => by
    obtain ⟨x, rfl, q⟩ := strK_ok q
    have ev : v = .str x := by cases (show Rp K F1 v (.str x) from r1); rfl
    subst ev
    refine ⟨⟨x, rfl⟩, hb F1 H1 σ S1 _ _ Ed a.st q (fun w y' F2 H2 S2 b r2 n2 q => ?_) (e.step a)⟩
    obtain ⟨x', e2, q⟩ := onS_ok q
    obtain ⟨z, e3, q⟩ := onS_ok q
    have ab := a.trans b
    exact g F2 H2 w x x' z Q b.st.ex (tree_ok b.st r2 e2) e3 (res_of b.st (.inr (.inr fun _ _ _ _ => trivial)) q fun v' y' F' H' S' c r' n' q' => k v' y' F' H' S' (ab.trans c) r' (n'.back ab) q')) e
abbrev rSplitT : V → List V → Hp → VK → Prop := fun x xs H Q => ∃ a b, x = .str a ∧ xs = [.str b] ∧ (b.length == 0) = false ∧ a.length + 2 ≤ sizeLine ∧ rNewStrs (Txt.split a b) H Q
def splitF (a : Str) (y : DV) : Option TV := match y with
  | .str b => if (b.length == 0) = false ∧ a.length + 2 ≤ sizeLine then some (.own (.lst ((Txt.split a b).map DV.str))) else none
  | _ => none
theorem GS.split : GS K rSplitT splitF := fun F H w a y z Q s ry e R => by
  cases y <;> first | (cases e; done) | skip
  rename_i b
  have e' : (if (b.length == 0) = false ∧ a.length + 2 ≤ sizeLine then some (TV.own (.lst ((Txt.split a b).map DV.str))) else none) = some z := e
  by_cases c : (b.length == 0) = false ∧ a.length + 2 ≤ sizeLine
  · rw [if_pos c] at e'
    cases e'
    exact ⟨a, b, rfl, by rw [ry.str], c.1, c.2, fun p hp => Res.newL R s hp (rps_strs _)⟩
  · rw [if_neg c] at e'; cases e'
def strsD : List DV → Option (List Str)
  | [] => some []
  | .str a :: l => (strsD l).map (a :: ·)
  | _ :: _ => none
theorem strsD_ok : ∀ {l : List DV} {ys : List Str}, strsD l = some ys → l = ys.map DV.str
  | [], ys, h => by cases (show some [] = some ys from h); rfl
  | x :: l, ys, h => by
    cases x <;> first | (cases (show none = some ys from h); done) | skip
    rename_i a
    have h' : (strsD l).map (a :: ·) = some ys := h
    cases q : strsD l with
    | none => rw [q] at h'; cases h'
    | some zs =>
      rw [q] at h'
      cases h'
      rw [strsD_ok q]; rfl
theorem strsD_map : ∀ ys : List Str, strsD (ys.map DV.str) = some ys
  | [] => rfl
  | a :: l => by
    show (strsD (l.map DV.str)).map (a :: ·) = _
    rw [strsD_map l]; rfl
theorem vs_strs {F : Hp} : ∀ {ys : List Str} {vs : List V}, Rps K F vs (ys.map DV.str) → vs = ys.map V.str
  | [], _, .nil => rfl
  | a :: l, _, .cons h r => by cases h; rw [vs_strs r]; rfl
abbrev rJoinT (K : PySem.W.Frag) : V → List V → Hp → VK → Prop := fun x xs H Q => ∃ a p, ∃ ys : List Str, x = .str a ∧ xs = [.ref p] ∧ (SqL K H p (ys.map V.str) ∨ SqT K H p (ys.map V.str)) ∧
    (ys.map (·.length)).sum + ys.length * a.length ≤ 16777216 ∧ Q (.str (Txt.join a ys)) H
def joinF (a : Str) (y : DV) : Option TV := match y with
  | .lst xs => match strsD xs with
    | some ys => if (ys.map (·.length)).sum + ys.length * a.length ≤ 16777216 then some (.val (.str (Txt.join a ys))) else none
    | none => none
  | _ => none
theorem GS.join : GS K (rJoinT K) joinF := fun F H w a y z Q s ry e R => by
  cases y <;> first | (cases e; done) | skip
  rename_i xs
  have e' : (match strsD xs with
    | some ys => if (ys.map (·.length)).sum + ys.length * a.length ≤ 16777216 then some (TV.val (.str (Txt.join a ys))) else none
    | none => none) = some z := e
  cases q : strsD xs with
  | none => rw [q] at e'; cases e'
  | some ys =>
    simp only [q] at e'
    by_cases c : (ys.map (·.length)).sum + ys.length * a.length ≤ 16777216
    · rw [if_pos c] at e'
      cases e'
      have ex := strsD_ok q
      subst ex
      obtain ⟨p, vs, rfl, h1, h2⟩ := ry.list s
      have ev := vs_strs h2
      subst ev
      exact ⟨a, p, ys, rfl, rfl, .inl (.inl (.inl h1)), c, Res.here R s (.str _)⟩
    · rw [if_neg c] at e'; cases e'
/-! str(n), int(s) -/
abbrev rStrI : List V → Hp → VK → Prop := fun xs H Q => ∃ i, xs = [.int i] ∧ i.natAbs.log2 < 1920 ∧ Q (.str (toString i)) H
def strF : List DV → Option TV
  | [.int i] => if i.natAbs.log2 < 1920 then some (.val (.str (toString i))) else none
  | _ => none
theorem Gn.str : Gn K rStrI strF := fun F H vs xs z Q s r e R => by
  cases r with
  | nil => cases e
  | cons r1 r2 =>
    rename_i v x vs xs
    cases r2 with
    | cons _ _ => cases x <;> cases e
    | nil =>
      cases x <;> first | (cases e; done) | skip
      rename_i i
      have e' : (if i.natAbs.log2 < 1920 then some (TV.val (.str (toString i))) else none) = some z := e
      by_cases c : i.natAbs.log2 < 1920
      · rw [if_pos c] at e'
        cases e'
        exact ⟨i, by rw [r1.int], c, Res.here R s (.str _)⟩
      · rw [if_neg c] at e'; cases e'
abbrev rIntT : List V → Hp → VK → Prop := fun xs H Q => ∃ a n, xs = [.str a] ∧ PySem.intText? a = some n ∧ a.length ≤ 640 ∧ Q (.int n) H
def intTF : List DV → Option TV
  | [.str a] => if a.length ≤ 640 then (PySem.intText? a).map fun n => .val (.int n) else none
  | _ => none
theorem Gn.intT : Gn K rIntT intTF := fun F H vs xs z Q s r e R => by
  cases r with
  | nil => cases e
  | cons r1 r2 =>
    rename_i v x vs xs
    cases r2 with
    | cons _ _ => cases x <;> cases e
    | nil =>
      cases x <;> first | (cases e; done) | skip
      rename_i a
      have e' : (if a.length ≤ 640 then (PySem.intText? a).map fun n => TV.val (.int n) else none) = some z := e
      by_cases c : a.length ≤ 640
      · rw [if_pos c] at e'
        cases q : PySem.intText? a with
        | none => rw [q] at e'; cases e'
        | some n =>
          rw [q] at e'
          cases e'
          exact ⟨a, n, by rw [r1.str], q, c, Res.here R s (.int _)⟩
      · rw [if_neg c] at e'; cases e'
/-! s in t -/
abbrev rInS : R2 := fun x y H Q => ∃ i j, x = .str i ∧ y = .str j ∧ Q (.bl (!(Builtin.Str.occurrences j i 0 j.length 1).isEmpty)) H
abbrev rNotInS : R2 := fun x y H Q => ∃ i j, x = .str i ∧ y = .str j ∧ Q (.bl (!(!(Builtin.Str.occurrences j i 0 j.length 1).isEmpty))) H
def inSF (neg : Bool) (x y : DV) : Option TV := match x, y with
  | .str i, .str j => some (.val (.bl (if neg then (!(!(Builtin.Str.occurrences j i 0 j.length 1).isEmpty)) else (!(Builtin.Str.occurrences j i 0 j.length 1).isEmpty))))
  | _, _ => none
theorem G2.inS : G2 K rInS (inSF false) := fun F H v w x y z Q s rx ry e R => by
  cases x <;> first | (cases e; done) | skip
  cases y <;> first | (cases e; done) | skip
  cases e
  exact ⟨_, _, rx.str, ry.str, Res.here R s (.bl _)⟩
theorem G2.notinS : G2 K rNotInS (inSF true) := fun F H v w x y z Q s rx ry e R => by
  cases x <;> first | (cases e; done) | skip
  cases y <;> first | (cases e; done) | skip
  cases e
  exact ⟨_, _, rx.str, ry.str, Res.here R s (.bl _)⟩
/-! slices -/
def dSlS (da : DE) (dl dh : DO) : DE := fun S Q Ed => da S (fun y S1 => dl S1 (fun l S2 => dh S2 (fun h S3 => strK y fun a => a.length ≤ sizeLine ∧ Q (.val (.str (Txt.slice a l h))) S3) Ed) Ed) Ed
theorem LE.sliceS {ta : TE} {tl th : TO} {da : DE} {dl dh : DO} (ha : LE K W ta da) (hl : LO K W tl dl) (hh : LO K W th dh) : LE K W (tSl C8.rSlX ta tl th) (dSlS da dl dh) := fun F H σ S Q Qd Ed s hd k e =>
  ha F H σ S _ _ Ed s hd (fun v y F1 H1 S1 a r n q => hl F1 H1 σ S1 _ _ Ed a.st q (fun l F2 H2 S2 b q => hh F2 H2 σ S2 _ _ Ed b.st q (fun h F3 H3 S3 c q => by
    obtain ⟨x, rfl, q1, q2⟩ := strK_ok q
    have ev : v = .str x := by cases (show Rp K F1 v (.str x) from r); rfl
    subst ev
    exact ⟨x, rfl, q1, k _ (.val (.str _)) F3 H3 S3 ((a.trans b).trans c) (.str _) Nw.val q2⟩) ((e.step a).step b)) (e.step a)) e
/-! walks -/
def signs (x : Str) : List DV := x.cps.toList.map fun c => .str ⟨#[c]⟩
def iS (d : DE) : DI := fun S Q Ed => d S (fun y S1 => strK y fun a => Q (signs a) S1) Ed
theorem LI.str {t : TE} {d : DE} (h : LE K W t d) : LI K W (iStr t) (iS d) := fun F H σ S R Qd Ed s hd k e =>
  h F H σ S _ _ _ s hd (fun v x F1 H1 S1 a r n q => by
    obtain ⟨x, rfl, q⟩ := strK_ok q
    have ev : v = .str x := by cases (show Rp K F1 v (.str x) from r); rfl
    subst ev
    refine ⟨x, rfl, k _ (signs x) F1 H1 S1 a (fun F2 H2 σ2 S2 s2 f2 i => ?_) q⟩
    have sz : (signs x).length = x.cps.size := by unfold signs; rw [List.length_map, Array.length_toList]
    refine ⟨fun hi => by show x.cps.size ≤ i; omega, fun y hy => ?_⟩
    have hi : i < x.cps.size := by have := (List.getElem?_eq_some_iff.mp hy).1; omega
    refine ⟨hi, fun v H3 hy3 => ?_⟩
    obtain ⟨e3, c, ec, rfl⟩ := hy3
    subst e3
    unfold signs at hy
    rw [List.getElem?_map, Array.getElem?_toList, ec] at hy
    cases hy
    exact ⟨F2, Stp.refl s2, .str _⟩) e
end
section
variable {f : Str → DV → Option TV} {da db : DE} {S : DSt} {Q : TV → DSt → Prop} {E : DErr → DSt → Prop} {a b : Str} {kt : TV → Prop} {k : Str → Prop} {i : Int} {dl dh : DO} {Qi : List DV → DSt → Prop}
instance p_m1 : Step (dM1 f da db S Q E) (da S (fun y S1 => strK y fun a => db S1 (fun y' S2 => onS (tree S2 y') fun x' => onS (f a x') fun z => Q z S2) E) E) := ⟨fun h => h⟩
instance p_strK : Step (strK (.val (.str a)) k) (k a) := ⟨fun h => h⟩
instance p_slS : Step (dSlS da dl dh S Q E) (da S (fun y S1 => dl S1 (fun l S2 => dh S2 (fun h S3 => strK y fun a => a.length ≤ sizeLine ∧ Q (.val (.str (Txt.slice a l h))) S3) E) E) E) := ⟨fun h => h⟩
instance p_iS : Step (iS da S Qi E) (da S (fun y S1 => strK y fun a => Qi (signs a) S1) E) := ⟨fun h => h⟩
instance p_split : Step (onS (splitF a (.str b)) kt) ((((b.length == 0) = false ∧ a.length + 2 ≤ sizeLine)) ∧ kt (.own (.lst ((Txt.split a b).map DV.str)))) := ⟨fun h => by
  show onS (if (b.length == 0) = false ∧ a.length + 2 ≤ sizeLine then some (TV.own (.lst ((Txt.split a b).map DV.str))) else none) kt
  rw [if_pos h.1]; exact h.2⟩
instance p_str : Step (onS (strF [.int i]) kt) (i.natAbs.log2 < 1920 ∧ kt (.val (.str (toString i)))) := ⟨fun h => by
  show onS (if i.natAbs.log2 < 1920 then some (TV.val (.str (toString i))) else none) kt
  rw [if_pos h.1]; exact h.2⟩
theorem join_tr {ys : List Str} (h : (ys.map (·.length)).sum + ys.length * a.length ≤ 16777216) (q : kt (.val (.str (Txt.join a ys)))) : onS (joinF a (.lst (ys.map DV.str))) kt := by
  show onS (match strsD (ys.map DV.str) with
    | some ys => if (ys.map (·.length)).sum + ys.length * a.length ≤ 16777216 then some (TV.val (.str (Txt.join a ys))) else none
    | none => none) kt
  rw [strsD_map]
  show onS (if (ys.map (·.length)).sum + ys.length * a.length ≤ 16777216 then some (TV.val (.str (Txt.join a ys))) else none) kt
  rw [if_pos h]; exact q
theorem intT_tr {n : Int} (h : PySem.intText? a = some n) (l : a.length ≤ 640) (q : kt (.val (.int n))) : onS (intTF [.str a]) kt := by
  show onS (if a.length ≤ 640 then (PySem.intText? a).map fun n => TV.val (.int n) else none) kt
  rw [if_pos l, h]; exact q
instance p_inS : Step (onS (inSF false (.str a) (.str b)) kt) (kt (.val (.bl (!(Builtin.Str.occurrences b a 0 b.length 1).isEmpty)))) := ⟨fun h => h⟩
instance p_ninS : Step (onS (inSF true (.str a) (.str b)) kt) (kt (.val (.bl (!(!(Builtin.Str.occurrences b a 0 b.length 1).isEmpty))))) := ⟨fun h => h⟩
end
section
variable {kt : TV → Prop} {s : Str} {xs : List DV} {kvs : List (Key × DV)} {i : Int} {b : Bool}
instance p_isis_s : Step (onS (isiF [.str s, .ty "str"]) kt) (kt (.val (.bl true))) := ⟨fun h => by
  rw [show isiF [DV.str s, .ty "str"] = some (TV.val (.bl true)) from rfl]; exact h⟩
instance p_isis_i : Step (onS (isiF [.int i, .ty "str"]) kt) (kt (.val (.bl false))) := ⟨fun h => by
  rw [show isiF [DV.int i, .ty "str"] = some (TV.val (.bl false)) from rfl]; exact h⟩
instance p_isis_n : Step (onS (isiF [.non, .ty "str"]) kt) (kt (.val (.bl false))) := ⟨fun h => by
  rw [show isiF [DV.non, .ty "str"] = some (TV.val (.bl false)) from rfl]; exact h⟩
instance p_isis_b : Step (onS (isiF [.bl b, .ty "str"]) kt) (kt (.val (.bl false))) := ⟨fun h => by
  rw [show isiF [DV.bl b, .ty "str"] = some (TV.val (.bl false)) from rfl]; exact h⟩
instance p_isis_l : Step (onS (isiF [.lst xs, .ty "str"]) kt) (kt (.val (.bl false))) := ⟨fun h => by
  rw [show isiF [DV.lst xs, .ty "str"] = some (TV.val (.bl false)) from rfl]; exact h⟩
instance p_isis_t : Step (onS (isiF [.tup xs, .ty "str"]) kt) (kt (.val (.bl false))) := ⟨fun h => by
  rw [show isiF [DV.tup xs, .ty "str"] = some (TV.val (.bl false)) from rfl]; exact h⟩
instance p_isis_d : Step (onS (isiF [.dic kvs, .ty "str"]) kt) (kt (.val (.bl false))) := ⟨fun h => by
  rw [show isiF [DV.dic kvs, .ty "str"] = some (TV.val (.bl false)) from rfl]; exact h⟩
end
end L3

/-! L4q: promises over the map for callers whom nothing guards. -/
namespace L3
open PySem PySem.Spec PyProof.Rows L2
section
variable {P : Program} {w : World} {K : PySem.W.Frag} {mg : Str → Option Value} {base : Heap} {x qual : Str} {params : Arguments} {body : List Stmt} {scope : Scope} {f : Addr} {fd : FuncData}
theorem fn_genG {N ps : List Str} {k : Nat} {sp : GSp} {d : DS} (Fd : FunD K x qual params body scope [] [] f fd) (Sc : FnScope N ps scope) (len : ∀ xs O Q E, sp xs O Q E → xs.length = ps.length)
    (hb : ∀ (cdv : Value) (A : Around) (outer : List Env) (s : Shared) (H : Hp) (E : XK), (A.deeper (envOfC qual scope s.heap.objs.size f cdv)).guards = some [] → Room k (A.deeper (envOfC qual scope s.heap.objs.size f cdv)) →
      Ctx k (cxOf (L2.CX P w) P w K mg base N qual scope f cdv A outer s H E) (fun cls dd _ H' => E cls dd H') →
      ∃ t, SsJ (cxOf (L2.CX P w) P w K mg base N qual scope f cdv A outer s H E) (fun cls dd _ H' => E cls dd H') body t d)
    (hd : ∀ xs O Q E, sp xs O Q E → ∃ ss, SvOk ss xs ∧ d (gSv N ss O) (endsG Q E)) : FnG P w K mg base (k + 1) f fd ps (liftG K sp) := by
  have le : ∀ {vs : List V} {H : Hp} {Q : VK} {E : XK}, liftG K sp vs H Q E → vs.length = ps.length := fun {vs H Q E} h => by
    obtain ⟨F, O, xs, Qd, Ed, _, r, h, _⟩ := h
    rw [r.len]; exact len _ _ _ _ h
  refine ⟨le, fun {A outer s H args us vs Q E} hg hr e0 bt rv h => body_at Fd Sc hr e0 bt rv (le h) fun cdv => ?_⟩
  · have hr := hr.deeper (envOfC qual scope s.heap.objs.size f cdv)
    obtain ⟨F, O, xs, Qd, Ed, sm, r, h, kq, ke⟩ := h
    obtain ⟨t, j⟩ := hb cdv A outer s H E hg hr ⟨rfl, takes_of rfl rfl rfl rfl, passes_of rfl, hr⟩
    obtain ⟨ss, hk, hq⟩ := hd xs O _ _ h
    have h0 : ∀ p, ow (start N vs) (gSv N ss O) p → O p ≠ none := fun p z => gSv_ow hk z
    have h1 : ∀ p, O p ≠ none → ow (start N vs) (gSv N ss O) p := fun p z => .inr z
    have nback : ∀ {v : V} {o : SO}, Nw H (start N vs) (gSv N ss O) v (.own o) → Nw H [] ⟨[], O⟩ v (.own o) := fun n o p e1 e2 => by
      rcases n o p e1 e2 with z | z
      · exact .inl z
      · exact .inr (.inr (h0 p z))
    refine ⟨t, j.p, j.l F H _ (gSv N ss O) _ _ (gSv_ok sm r hk) hq ⟨fun F' H' σ' S' a q => ?_, fun v y F' H' σ' S' a tv n q => ?_, fun F' H' σ' S' a q => q.elim, fun F' H' σ' S' a q => q.elim, fun cls dd err F' H' σ' S' a er nd q => ?_⟩⟩
    · obtain ⟨O', so, q⟩ := q
      exact kq _ O' q .non F' H' (a.drop h0 h1 so) Rp.non Nw.val
    · cases y with
      | val x =>
        obtain ⟨O', so, q⟩ := q
        exact kq _ O' q v F' H' (a.drop h0 h1 so) tv Nw.val
      | rf b =>
        obtain ⟨O', so, q⟩ := q
        exact kq _ O' q v F' H' (a.drop h0 h1 so) tv Nw.rf
      | own o =>
        obtain ⟨O', so, q⟩ := q
        obtain ⟨p, rfl, z1, z2, z3⟩ := tv
        have s' := a.drop h0 h1 so
        refine kq _ O' q (.ref p) F' H' s' ⟨p, rfl, z1, z2, fun z => z3 (.inr ?_)⟩ (nback fun o' p' e1 e2 => n o' p' e1 e2)
        rcases z with ⟨i, o2, e1, _⟩ | z
        · have e1' : ([] : List (Option SV))[i]? = some (some (.own o2)) := e1
          simp at e1'
        · cases e : O' p with
          | none => exact absurd e z
          | some u => rw [so p u e]; exact fun z => by cases z
      | slt i =>
        have e2 : σ'[i]? = some (some v) := tv
        have q' : (match S'.g[i]? with
          | some (some (.own o)) => ∃ O', SubO O' S'.o ∧ Qd (.own o) O'
          | some (some (.val x)) => ∃ O', SubO O' S'.o ∧ Qd (.val x) O'
          | some (some (.rf b)) => onS (S'.o b) fun so => ∃ O', SubO O' S'.o ∧ O' b = none ∧ Qd (.own so) O'
          | _ => False) := q
        split at q'
        · rename_i o e
          obtain ⟨O', so, q⟩ := q'
          obtain ⟨w', e3, p, rfl, z1, z2⟩ := a.st.sl i _ e
          rw [e2] at e3; cases e3
          refine kq _ O' q (.ref p) F' H' (a.drop h0 h1 so) ⟨p, rfl, z1, z2, fun z => ?_⟩ (nback fun o' p' e4 e5 => by cases e5; exact (a.no p (.inl ⟨i, o, e, e2⟩)).symm)
          rcases z with ⟨i', o2, e1, _⟩ | z
          · have e1' : ([] : List (Option SV))[i']? = some (some (.own o2)) := e1
            simp at e1'
          · have z' : O' p ≠ none := z
            cases e6 : O' p with
            | none => exact z' e6
            | some u =>
              have := a.st.sep i o p e e2
              rw [so p u e6] at this; cases this
        · rename_i x e
          obtain ⟨O', so, q⟩ := q'
          obtain ⟨w', e3, r'⟩ := a.st.sl i _ e
          rw [e2] at e3; cases e3
          exact kq _ O' q v F' H' (a.drop h0 h1 so) r' Nw.val
        · rename_i b e
          obtain ⟨o, eo, O', so, ob, q⟩ := onS_ok q'
          obtain ⟨w', e3, r'⟩ := a.st.sl i _ e
          rw [e2] at e3; cases e3
          cases (show v = .ref b from r')
          obtain ⟨z1, z2⟩ := a.st.ob b o eo
          refine kq _ O' q (.ref b) F' H' (a.drop h0 h1 so) ⟨b, rfl, z1, z2, fun z => ?_⟩ (nback fun o' p' e4 e5 => by cases e5; exact (a.no b (.inr (by rw [eo]; exact fun z => by cases z))).symm)
          rcases z with ⟨i', o2, e1, _⟩ | z
          · have e1' : ([] : List (Option SV))[i']? = some (some (.own o2)) := e1
            simp at e1'
          · exact z ob
        · exact q'.elim
    · obtain ⟨O', so, q⟩ := q
      refine ke _ O' q cls dd F' H' (a.drop h0 h1 so) er fun d e => ?_
      rcases nd d e with z | z
      · exact .inl z
      · exact .inr (h0 d z)
end
end L3

/-! L4r: dicts whose keys are tuples; dict comprehensions. -/
namespace L3
open PySem PySem.Spec PyProof.Rows L2
abbrev TK := List Key
def valT : List (TK × DV) → TK → Option DV
  | [], _ => none
  | (j, x) :: r, k => if j = k then some x else valT r k
/-- in its place, or at the end -/
def putT (kvs : List (TK × DV)) (k : TK) (y : DV) : List (TK × DV) := if (valT kvs k).isSome = true then kvs.map (fun p => if p.1 = k then (p.1, y) else p) else kvs ++ [(k, y)]
theorem valT_cons (i j : TK) (x : DV) (r : List (TK × DV)) : valT ((i, x) :: r) j = if i = j then some x else valT r j := rfl
theorem valT_map (k j : TK) (y : DV) : ∀ kvs : List (TK × DV), valT (kvs.map fun p => if p.1 = k then (p.1, y) else p) j = (valT kvs j).map fun x => if k = j then y else x
  | [] => rfl
  | (i, x) :: r => by
    have ih := valT_map k j y r
    rw [List.map_cons, valT_cons i j x r]
    by_cases c : i = k
    · subst c
      rw [if_pos (show (i, x).1 = i from rfl), valT_cons]
      by_cases d : i = j
      · simp [d]
      · rw [if_neg d, if_neg d]; exact ih
    · rw [if_neg (show ¬ (i, x).1 = k from c), valT_cons]
      by_cases d : i = j
      · have : ¬ k = j := fun e => c (d.trans e.symm)
        simp [d, this]
      · rw [if_neg d, if_neg d]; exact ih
theorem valT_snoc (k j : TK) (y : DV) : ∀ kvs : List (TK × DV), valT (kvs ++ [(k, y)]) j = match valT kvs j with
    | some x => some x
    | none => if k = j then some y else none
  | [] => rfl
  | (i, x) :: r => by
    rw [List.cons_append, valT_cons, valT_cons]
    by_cases d : i = j
    · rw [if_pos d, if_pos d]
    · rw [if_neg d, if_neg d]; exact valT_snoc k j y r
theorem valT_put (k j : TK) (y : DV) (kvs : List (TK × DV)) : valT (putT kvs k y) j = if k = j then some y else valT kvs j := by
  unfold putT
  by_cases e : (valT kvs k).isSome = true
  · rw [if_pos e, valT_map]
    by_cases c : k = j
    · subst c
      rw [if_pos rfl]
      obtain ⟨x, q⟩ := Option.isSome_iff_exists.mp e
      rw [q]; simp
    · rw [if_neg c]; simp [c]
  · rw [if_neg e, valT_snoc]
    by_cases c : k = j
    · subst c
      have q : valT kvs k = none := by simpa using e
      rw [q]
    · rw [if_neg c]; cases valT kvs j <;> simp [c]
theorem putT_len (kvs : List (TK × DV)) (k : TK) (y : DV) : (putT kvs k y).length ≤ kvs.length + 1 := by
  unfold putT
  split
  · rw [List.length_map]; omega
  · rw [List.length_append]; simp
def keysT : List DV → Option TK
  | [] => some []
  | x :: xs => (keyD x).bind fun k => (keysT xs).map fun ks => k :: ks
def ditL : DV → Option (List (TK × DV))
  | .dit kvs => some kvs
  | _ => none
def fvD : DV → Bool
  | .non => true
  | .bl _ => true
  | .int _ => true
  | .str _ => true
  | _ => false
def ditK (s : SO) (k : List (TK × DV) → Prop) : Prop := match s with
  | .dit xs => k xs
  | _ => False
section
variable {K : PySem.W.Frag} {F F' H H' F0 H0 : Hp} {σ σ' σ1 σ2 σ0 : L2.St} {S S' S1 S2 S0 : DSt} {F1 F2 H1 H2 : Hp} {p : Addr} {v : V} {W : WX}
theorem FV.rp {x : DV} (h : FV v x) : Rp K F v x := by
  cases h with
  | non => exact .non
  | bl b => exact .bl b
  | int i => exact .int i
  | str s => exact .str s
theorem fvD_ok {x : DV} (r : Rp K F v x) (h : fvD x = true) : FV v x := by
  cases r with
  | non => exact .non
  | bl b => exact .bl b
  | int i => exact .int i
  | str s => exact .str s
  | _ => cases h
theorem Fts.val : ∀ {vs : List (TK × V)} {xs : List (TK × DV)} {k : TK} {x : DV}, Fts vs xs → valT xs k = some x → ∃ v, valV vs k = some v ∧ FV v x
  | _, _, _, _, .nil, e => by cases e
  | _, _, k, x, .cons (k := j) h r, e => by
    unfold valT at e
    by_cases c : j = k
    · rw [if_pos c] at e
      cases e
      exact ⟨_, valV_pos (p := (j, _)) c, h⟩
    · rw [if_neg c] at e
      obtain ⟨v, h1, h2⟩ := Fts.val r e
      exact ⟨v, by rw [valV_neg (p := (j, _)) c]; exact h1, h2⟩
theorem Fts.valN : ∀ {vs : List (TK × V)} {xs : List (TK × DV)} {k : TK}, Fts vs xs → valT xs k = none → valV vs k = none
  | _, _, _, .nil, _ => valV_nil
  | _, _, k, .cons (k := j) h r, e => by
    unfold valT at e
    by_cases c : j = k
    · rw [if_pos c] at e; cases e
    · rw [if_neg c] at e
      rw [valV_neg (p := (j, _)) c]
      exact Fts.valN r e
theorem Fts.some : ∀ {vs : List (TK × V)} {xs : List (TK × DV)} {k : TK}, Fts vs xs → (valV vs k).isSome = (valT xs k).isSome := fun {vs xs k} r => by
  cases e : valT xs k with
  | none => rw [r.valN e]; rfl
  | some x => obtain ⟨v, h1, _⟩ := r.val e; rw [h1]; rfl
theorem Fts.len : ∀ {vs : List (TK × V)} {xs : List (TK × DV)}, Fts vs xs → vs.length = xs.length
  | _, _, .nil => rfl
  | _, _, .cons _ r => congrArg Nat.succ (Fts.len r)
theorem Fts.keys : ∀ {vs : List (TK × V)} {xs : List (TK × DV)}, Fts vs xs → ∀ k, (vs.any fun kv => decide (kv.1 = k)) = (valT xs k).isSome := fun {vs xs} r k => by
  rw [valV_any, r.some]
theorem Fts.app : ∀ {vs ws : List (TK × V)} {xs ys : List (TK × DV)}, Fts vs xs → Fts ws ys → Fts (vs ++ ws) (xs ++ ys)
  | _, _, _, _, .nil, s => s
  | _, _, _, _, .cons h r, s => .cons h (Fts.app r s)
theorem Fts.map (k : TK) {y : DV} (r1 : FV v y) : ∀ {vs : List (TK × V)} {xs : List (TK × DV)}, Fts vs xs → Fts (vs.map fun p => if p.1 = k then (p.1, v) else p) (xs.map fun p => if p.1 = k then (p.1, y) else p)
  | _, _, .nil => .nil
  | _, _, .cons (k := j) (vs := vs) (xs := xs) h r => by
    rw [List.map_cons, List.map_cons]
    by_cases c : j = k
    · rw [if_pos c, if_pos c]; exact .cons r1 (Fts.map k r1 r)
    · rw [if_neg c, if_neg c]; exact .cons h (Fts.map k r1 r)
theorem Fts.put {vs : List (TK × V)} {xs : List (TK × DV)} (r : Fts vs xs) (k : TK) {y : DV} (r1 : FV v y) : Fts (putK vs k v) (putT xs k y) := by
  unfold putK putT
  rw [r.keys k]
  split
  · exact Fts.map k r1 r
  · exact r.app (.cons r1 .nil)
theorem keysT_ok : ∀ {vs : List V} {xs : List DV} {ks : TK}, Rps K F vs xs → keysT xs = some ks → vs = ks.map kV
  | _, _, _, .nil, e => by cases e; rfl
  | _, _, ks, .cons (x := x) (xs := xs) h r, e => by
    obtain ⟨k, e1, e2⟩ := Option.bind_eq_some_iff.mp (show ((keyD x).bind fun k => (keysT xs).map fun ks => k :: ks) = Option.some ks from e)
    obtain ⟨l, e3, rfl⟩ := Option.map_eq_some_iff.mp e2
    rw [List.map_cons, ← keysT_ok r e3, ← Rp.keyed h e1]
theorem dit_of {x : DV} {kvs : List (TK × DV)} (r : RpB K F H v x) (s : Same F H) (e : ditL x = some kvs) : ∃ a vs, v = .ref a ∧ H a = some (.dT vs) ∧ Fts vs kvs := by
  cases x with
  | dit xs =>
    cases e
    cases r with
    | of r => cases r with | dit h1 h2 => exact ⟨_, _, rfl, s _ _ h1, h2⟩
    | dit h1 h2 => exact ⟨_, _, rfl, h1, h2⟩
  | _ => cases e
/-! ### {} -/
def dDit0 : DE := fun S Q _ => Q (.own (.dit [])) S
theorem res_dit {kvs : List (TK × DV)} {vs : List (TK × V)} {Q : VK} (h : Res K F H (.own (.dit kvs)) Q) (s : Same F H) (hp : H p = none) (r : Fts vs kvs) : Q (.ref p) (upd H p (.dT vs)) :=
  h p F _ (Grw.new s hp) hp (s.free hp) ⟨vs, upd_same, r⟩
theorem LE.dit0 : LE K W tDNewT dDit0 := fun F H σ S Q Qd Ed s hd k e p hp =>
  res_dit (res_of (z := .own (.dit [])) (Q := Q) s (.inr (.inl ⟨_, rfl⟩)) hd fun v' y' F' H' S' b r' n' q' => k v' y' F' H' S' b r' n' q') s.ex hp .nil
/-! ### (a, b) in d -/
def dTIn (neg : Bool) (da : DA) (dd : DE) : DE := fun S Q Ed => da S (fun xs S1 => xs.length ≤ sizeLine ∧ onS (keysT xs) fun ks => dd S1 (fun y S2 => onS (tree S2 y) fun x => onS (ditL x) fun kvs => Q (.val (.bl (if neg then !(valT kvs ks).isSome else (valT kvs ks).isSome))) S2) Ed) Ed
theorem tup_step (a : Stp K F H σ S F1 H1 σ S1) (hp : H1 p = none) {u : HO} : ¬ ow σ S1 p ∧ Stp K F1 H1 σ S1 F1 (upd H1 p u) σ S1 := by
  have hF : F1 p = none := a.st.ex.free hp
  have hn : ¬ ow σ S1 p := fun z => by
    obtain ⟨_, o, h⟩ := a.st.ow_some z
    exact h.ne hp
  exact ⟨hn, (Stp.refl a.st).hid hp hF hn⟩
theorem LE.tin {ta : TA} {td : TE} {da : DA} {dd : DE} (ha : LA K W ta da) (hd' : LE K W td dd) : LE K W (tDIn (tTup ta) td) (dTIn false da dd) := fun F H σ S Q Qd Ed s hd k e =>
  ha F H σ S _ _ Ed s hd (fun vs xs F1 H1 S1 a r ⟨z, q⟩ => ⟨by rw [r.len]; exact z, fun p hp => by
    obtain ⟨ks, ek, q⟩ := onS_ok q
    have ev : vs = ks.map kV := keysT_ok r ek
    obtain ⟨hn, a0⟩ := tup_step (u := .tup vs) a hp
    refine hd' F1 _ σ S1 _ _ Ed a0.st q (fun w y F2 H2 S2 b ry n q => ?_) ((e.step a).step a0)
    obtain ⟨x, e1, q⟩ := onS_ok q
    obtain ⟨kvs, e2, q⟩ := onS_ok q
    obtain ⟨d, us, rfl, h1, h2⟩ := dit_of (tree_ok b.st ry e1) b.st.ex e2
    have hp2 : H2 p = some (.tup vs) := b.kp p _ upd_same hn
    refine ⟨d, valV us ks, rfl, DGet.t h1 (by rw [hp2, ev]), ?_⟩
    rw [h2.some]
    exact k _ (.val (.bl (valT kvs ks).isSome)) F2 H2 S2 ((a.trans a0).trans b) (.bl _) Nw.val q⟩) e
theorem LE.tnin {ta : TA} {td : TE} {da : DA} {dd : DE} (ha : LA K W ta da) (hd' : LE K W td dd) : LE K W (tDNotIn (tTup ta) td) (dTIn true da dd) := fun F H σ S Q Qd Ed s hd k e =>
  ha F H σ S _ _ Ed s hd (fun vs xs F1 H1 S1 a r ⟨z, q⟩ => ⟨by rw [r.len]; exact z, fun p hp => by
    obtain ⟨ks, ek, q⟩ := onS_ok q
    have ev : vs = ks.map kV := keysT_ok r ek
    obtain ⟨hn, a0⟩ := tup_step (u := .tup vs) a hp
    refine hd' F1 _ σ S1 _ _ Ed a0.st q (fun w y F2 H2 S2 b ry n q => ?_) ((e.step a).step a0)
    obtain ⟨x, e1, q⟩ := onS_ok q
    obtain ⟨kvs, e2, q⟩ := onS_ok q
    obtain ⟨d, us, rfl, h1, h2⟩ := dit_of (tree_ok b.st ry e1) b.st.ex e2
    have hp2 : H2 p = some (.tup vs) := b.kp p _ upd_same hn
    refine ⟨d, valV us ks, rfl, DGet.t h1 (by rw [hp2, ev]), ?_⟩
    rw [h2.some]
    exact k _ (.val (.bl (!(valT kvs ks).isSome))) F2 H2 S2 ((a.trans a0).trans b) (.bl _) Nw.val q⟩) e
/-! ### d[a, b] = x -/
def dTPut (dd : DE) (da : DA) (dv : DX) : DS := fun S D => dv S (fun x S1 => fvD x = true ∧ dd S1 (fun y S2 => da S2 (fun xs S3 => xs.length ≤ sizeLine ∧ onS (keysT xs) fun ks => mutC S3 y fun o put => ditK o fun kvs => kvs.length < sizeLine ∧ D.nx (put (.dit (putT kvs ks x)))) D.ex) D.ex) D.ex
theorem LS.tput {td tv : TE} {ta : TA} {dd : DE} {da : DA} {dv : DX} (hd' : LE K W td dd) (ha : LA K W ta da) (hv : LX K W tv dv) : LS K W (sDPut td (tTup ta) tv) (dTPut dd da dv) := fun F H σ S D Dd s hd k =>
  hv F H σ S _ _ _ s hd (fun v x F1 H1 S1 a r1 ⟨fx, q⟩ => hd' F1 H1 σ S1 _ _ _ a.st q (fun w y F2 H2 S2 b r2 n2 q => ha F2 H2 σ S2 _ _ _ b.st q (fun vs xs F3 H3 S3 c r3 ⟨z, q⟩ => ⟨by rw [r3.len]; exact z, fun p hp => by
    obtain ⟨ks, ek, q⟩ := onS_ok q
    have ev : vs = ks.map kV := keysT_ok r3 ek
    obtain ⟨hn, a0⟩ := tup_step (u := .tup vs) c hp
    have abc := ((a.trans b).trans c).trans a0
    obtain ⟨d, o, put, rfl, ho, h, hput⟩ := mutC_ok abc ((r2.step c).step a0) q
    cases o with
    | dit kvs =>
      obtain ⟨us, h1, h2⟩ := ho
      obtain ⟨hl, q5⟩ := (show kvs.length < sizeLine ∧ _ from h)
      refine ⟨d, _, rfl, DPut.t h1 (by rw [upd_same, ev]) (by rw [h2.len]; exact hl), ?_⟩
      exact k.nx F3 _ σ _ (hput _ (.dit (putT kvs ks x)) upd_off ⟨_, upd_same, h2.put ks (fvD_ok r1 fx)⟩) q5
    | lst xs => exact (show False from h).elim
    | dic xs => exact (show False from h).elim
    | ins _ _ => exact (show False from h).elim⟩) ((k.ex.step a).step b)) (k.ex.step a)) k.ex
/-! ### {k: x for .. in ..} -/
def dcP (g : DG) (c : DT) (dk : DE) (dv : DX) (ks : List Nat) : List DV → List (Key × DV) → DSt → (List (Key × DV) → DSt → Prop) → Prop
  | [], acc, S, Q => Q acc S
  | x :: xs, acc, S, Q => g x S fun S1 => c S1 (fun b S2 => if b = true then dk S2 (fun y S3 => keyK y fun k => dv S3 (fun z S4 => acc.length < sizeLine ∧ dcP g c dk dv ks xs (putD acc k z) (S4.wipe ks) Q) (fun _ _ => False)) (fun _ _ => False) else dcP g c dk dv ks xs acc (S2.wipe ks) Q) (fun _ _ => False)
def dDc (di : DI) (g : DG) (c : DT) (dk : DE) (dv : DX) (ks : List Nat) : DE := fun S Q Ed => di S (fun xs S1 => dcP g c dk dv ks xs [] (S1.wipe ks) fun acc S2 => Q (.own (.dic acc)) S2) Ed
theorem LE.dc {wi : TI} {di : DI} {g : TG} {dg : DG} {tt : TT} {dt : DT} {tk te : TE} {dk : DE} {dx : DX} {vs : List Nat} (hi : LI K W wi di) (hg : LG K g dg) (gw : GW g vs) (ht : LT K W0 tt dt) (hk : LE K W0 tk dk) (he : LX K W0 te dx) :
    LE K W (tDc wi g tt tk te vs) (dDc di dg dt dk dx vs) := fun F H σ S Q Qd Ed s hd k e => by
  refine hi F H σ S _ _ _ s hd (fun J xs F1 H1 S1 a w q => ?_) e
  intro D hD
  have s1 : Stp K F1 H1 σ S1 F1 H1 σ (S1.wipe vs) := Stp.wipe vs a.st
  have ag : ∀ {S : DSt}, Agr (L2.wipe σ vs) σ (S.wipe vs) := agr_wipe
  have b0 : Stp K F1 H1 (L2.wipe σ vs) (S1.wipe vs) F1 H1 (L2.wipe σ vs) (S1.wipe vs) := Stp.refl (ag.sym.stt s1.st)
  have hF1 : F1 D = none := a.st.ex.free hD
  have nD : ¬ ow (L2.wipe σ vs) (S1.wipe vs) D := fun z => by
    obtain ⟨_, o, h⟩ := (ag.sym.stt s1.st).ow_some z
    exact h.ne hD
  refine ⟨fun i m H2 => i ≤ xs.length ∧ m = xs.length - i ∧ ∃ F2 S2 acc, Stp K F1 H1 (L2.wipe σ vs) (S1.wipe vs) F2 H2 (L2.wipe σ vs) (DSt.wipe S2 vs) ∧ TVr K F2 H2 (L2.wipe σ vs) (DSt.wipe S2 vs) (.ref D) (.own (.dic acc)) ∧
    dcP dg dt dk dx vs (xs.drop i) acc (DSt.wipe S2 vs) fun acc S2 => Qd (.own (.dic acc)) S2, ⟨xs.length, Nat.zero_le _, by simp, F1, S1, [], b0.hid hD hF1 nD, ⟨D, rfl, hF1, ⟨[], upd_same, .nil⟩, nD⟩, by simpa using q⟩, ?_⟩
  rintro i m H2 ⟨hil, rfl, F2, S2, acc, b, tv, q⟩
  obtain ⟨w1, w2⟩ := w F2 H2 _ _ b.st b.fx i
  obtain ⟨D', eD, hFD, ⟨us, hDu, ru⟩, hnD⟩ := id tv
  cases eD
  by_cases hlt : i < xs.length
  · obtain ⟨w3, w4⟩ := w2 xs[i] (List.getElem?_eq_getElem hlt)
    refine .inr ⟨w3, fun H3 => ∃ F3 S3 acc, Stp K F1 H1 (L2.wipe σ vs) (S1.wipe vs) F3 H3 (L2.wipe σ vs) (DSt.wipe S3 vs) ∧ TVr K F3 H3 (L2.wipe σ vs) (DSt.wipe S3 vs) (.ref D) (.own (.dic acc)) ∧
      dcP dg dt dk dx vs (xs.drop (i + 1)) acc (DSt.wipe S3 vs) fun acc S2 => Qd (.own (.dic acc)) S2, fun H3 ⟨F3, S3, acc3, c, t3, q3⟩ => ⟨_, by omega, by omega, rfl, F3, S3, acc3, c, t3, q3⟩, fun v H3 hy => ?_⟩
    obtain ⟨F3, c, r⟩ := w4 v H3 hy
    rw [List.drop_eq_getElem_cons hlt] at q
    refine gw v σ H3 _ (hg F3 H3 _ _ v _ _ _ c.st r q fun F4 H4 σ4 S4 d q4 hw => ?_)
    have bcd := (b.trans c).trans d
    have cd := c.trans d
    have tv4 : TVr K F4 H4 σ4 S4 (.ref D) (.own (.dic acc)) := by
      refine ⟨D, rfl, ?_, ⟨us, cd.kp D _ hDu hnD, ru.mono cd.fx⟩, fun z => ?_⟩
      · cases e1 : F4 D with
        | none => rfl
        | some u => exact absurd hFD (cd.nf D (by rw [hDu]; exact fun y => by cases y) hnD (by rw [e1]; exact fun y => by cases y))
      · rcases cd.no D z with y | y
        · exact hnD y
        · rw [hDu] at y; cases y
    -- back to the wiped slots
    have back : ∀ {F6 H6 : Hp} {S6 : DSt}, Stp K F1 H1 (L2.wipe σ vs) (S1.wipe vs) F6 H6 σ4 S6 → Stp K F1 H1 (L2.wipe σ vs) (S1.wipe vs) F6 H6 (L2.wipe σ vs) (S6.wipe vs) := fun {F6 H6 S6} g6 => by
      have g7 := g6.trans (Stp.wipe vs g6.st)
      have g8 := g7.agr ⟨rfl, fun _ _ _ => rfl⟩ (agr_wipe (σ := σ4) (S := S6) (vs := vs)).sym
      rw [hw] at g8
      exact g8
    have tback : ∀ {F6 H6 : Hp} {S6 : DSt} {xs6 : List (Key × DV)}, TVr K F6 H6 σ4 S6 (.ref D) (.own (.dic xs6)) → TVr K F6 H6 (L2.wipe σ vs) (S6.wipe vs) (.ref D) (.own (.dic xs6)) := fun {F6 H6 S6 xs6} t6 => by
      obtain ⟨D', eD, h1, h2, h3⟩ := t6
      cases eD
      refine ⟨D, rfl, h1, h2, fun z => h3 ?_⟩
      rw [← hw] at z
      have z2 := (agr_wipe (σ := σ4) (S := S6) (vs := vs)).ow z
      rcases z2 with ⟨j, o, e1, e2⟩ | z2
      · exact .inl ⟨j, o, wipe_get e1, e2⟩
      · exact .inr z2
    refine ht F4 H4 σ4 S4 _ _ _ d.st q4 (fun t F5 H5 S5 f q5 => ?_) ExL.no
    have tv5 := tv4.step f
    have bf := bcd.trans f
    cases t with
    | false =>
      exact ⟨F5, S5, acc, back bf, tback tv5, q5⟩
    | true =>
      refine hk F5 H5 σ4 S5 _ _ _ f.st q5 (fun uk yk F7 H7 S7 g7 rk nk q7 => ?_) ExL.no
      have tv7 := tv5.step g7
      have bg7 := bf.trans g7
      cases yk with
      | val ky =>
        obtain ⟨kk, e1, q7⟩ := onS_ok (show onS (keyD ky) _ from q7)
        have ev : uk = kV kk := Rp.keyed rk e1
        refine he F7 H7 σ4 S7 _ _ _ g7.st q7 (fun y z F6 H6 S6 g6 rz q6 => ?_) ExL.no
        obtain ⟨q6, q8⟩ := q6
        have tv6 := tv7.step g6
        obtain ⟨D', eD, hF6, ⟨us6, hD6, ru6⟩, hn6⟩ := tv6
        cases eD
        have bg := (bg7.trans g6).hid (p := D) (u := .dK (putK us6 kk y)) hD hF6 hn6
        exact ⟨us6, kk, ev, hD6, by rw [ru6.len]; exact q6, F6, S6, putD acc kk z, back bg, tback ⟨D, rfl, hF6, ⟨_, upd_same, ru6.put kk rz⟩, hn6⟩, q8⟩
      | _ => exact (show False from q7).elim
  · have hi' : i = xs.length := by omega
    refine .inl ⟨w1 hi', ?_⟩
    rw [List.drop_eq_nil_of_le (by omega)] at q
    have g1 := b.agr (agr_wipe (σ := σ) (S := S1) (vs := vs)) (agr_wipe (σ := σ) (S := S2) (vs := vs))
    have g2 := (a.trans s1).trans g1
    refine k (.ref D) (.own (.dic acc)) F2 H2 _ g2 ⟨D, rfl, hFD, ⟨us, hDu, ru⟩, fun z => hnD ((agr_wipe (σ := σ) (S := S2) (vs := vs)).sym.ow z)⟩ (fun o p e1 e2 => ?_) q
    cases e2
    exact a.newb (.inl hD)
end
/-! ### the equations, as steps -/
section
variable {da : DA} {dd dk : DE} {dv : DX} {di : DI} {dg : DG} {dt : DT} {ks : List Nat} {S : DSt} {Q : TV → DSt → Prop} {E : DErr → DSt → Prop} {D : DEnds} {kt : TK → Prop} {b : Bool} {i j : Int} {kvs : List (TK × DV)} {kd : List (TK × DV) → Prop}
instance p_dit0 : Step (dDit0 S Q E) (Q (.own (.dit [])) S) := ⟨fun h => h⟩
instance p_keysT2 : Step (onS (keysT [.int i, .int j]) kt) (kt [.inl i, .inl j]) := ⟨fun h => h⟩
instance p_ditL : Step (onS (ditL (.dit kvs)) kd) (kd kvs) := ⟨fun h => h⟩
instance p_ditK : Step (ditK (.dit kvs) kd) (kd kvs) := ⟨fun h => h⟩
instance p_tinf : Step (dTIn false da dd S Q E) (da S (fun xs S1 => xs.length ≤ sizeLine ∧ onS (keysT xs) fun ks => dd S1 (fun y S2 => onS (tree S2 y) fun x => onS (ditL x) fun kvs => Q (.val (.bl (valT kvs ks).isSome)) S2) E) E) := ⟨fun h => h⟩
instance p_tint : Step (dTIn true da dd S Q E) (da S (fun xs S1 => xs.length ≤ sizeLine ∧ onS (keysT xs) fun ks => dd S1 (fun y S2 => onS (tree S2 y) fun x => onS (ditL x) fun kvs => Q (.val (.bl (!(valT kvs ks).isSome))) S2) E) E) := ⟨fun h => h⟩
instance p_tput : Step (dTPut dd da dv S D) (dv S (fun x S1 => fvD x = true ∧ dd S1 (fun y S2 => da S2 (fun xs S3 => xs.length ≤ sizeLine ∧ onS (keysT xs) fun ks => mutC S3 y fun o put => ditK o fun kvs => kvs.length < sizeLine ∧ inS (put (.dit (putT kvs ks x))) D.nx) D.ex) D.ex) D.ex) := ⟨fun h => h⟩
instance p_dDc : Step (dDc di dg dt dk dv ks S Q E) (di S (fun xs S1 => wipeS ks S1 fun S2 => dcP dg dt dk dv ks xs [] S2 fun acc S2 => Q (.own (.dic acc)) S2) E) := ⟨fun h => h⟩
end
end L3

/-! L4s: xs += ys. -/
namespace L3
open PySem PySem.Spec PyProof.Rows L2
def lstT : DV → Option (List DV)
  | .lst xs => some xs
  | _ => none
def dAugL (i : Nat) (d : DE) : DS := fun S D => isLst S (.slt i) ∧ d S (fun y S1 => onS (tree S1 y) fun t => onS (lstT t) fun ys => mutC S1 (.slt i) fun o put => lstK o fun xs => xs.length + ys.length ≤ sizeLine ∧ D.nx (put (.lst (xs ++ ys)))) D.ex
section
variable {K : PySem.W.Frag} {F F' H H' F0 H0 : Hp} {σ σ' σ1 σ2 σ0 : L2.St} {S S' S1 S2 S0 : DSt} {F1 F2 H1 H2 : Hp} {p : Addr} {v : V} {W : WX}
theorem slt_some {i : Nat} {k : SO → (SO → DSt) → Prop} (s : Stt K F H σ S) (h : mutC S (.slt i) k) : ∃ v, σ[i]? = some (some v) := by
  have h' : (match S.g[i]? with
    | some (some (.own o)) => k o fun o' => S.put i (.own o')
    | some (some (.rf a)) => onS (S.o a) fun o => k o fun o' => ⟨S.g, updO S.o a o'⟩
    | _ => False) := h
  split at h'
  · rename_i o e
    obtain ⟨v, e1, _⟩ := s.sl i _ e
    exact ⟨v, e1⟩
  · rename_i a e
    obtain ⟨v, e1, _⟩ := s.sl i _ e
    exact ⟨v, e1⟩
  · exact h'.elim
theorem LS.augL {i : Nat} {te : TE} {d : DE} (h : LE K W te d) : LS K W (tAug i te rExt2) (dAugL i d) := fun F H σ S D Dd s hd k => by
  obtain ⟨h0, hd⟩ := hd
  obtain ⟨v, ev⟩ := slt_some s h0
  refine ⟨v, ev, h F H σ S _ _ _ s hd (fun w y F1 H1 S1 a r1 n q => ?_) k.ex⟩
  obtain ⟨t, e1, q⟩ := onS_ok q
  obtain ⟨ys, e2, q⟩ := onS_ok q
  obtain ⟨l, o, put, rfl, ho, hk, hp⟩ := mutC_ok (y := .slt i) a ev q
  cases t with
  | lst zs =>
    cases e2
    obtain ⟨b, us, rfl, hb, ru⟩ := (tree_ok a.st r1 e1).list a.st.ex
    cases o with
    | lst xs =>
      obtain ⟨vs, hl, rv⟩ := ho
      obtain ⟨z, q⟩ := (show xs.length + ys.length ≤ sizeLine ∧ _ from hk)
      refine ⟨l, b, vs, us, rfl, rfl, hl, hb, by rw [rv.len, ru.len]; exact z, ?_⟩
      have es : σ.set i (some (.ref l)) = σ := by
        obtain ⟨hi, e⟩ := List.getElem?_eq_some_iff.mp ev
        rw [← e]
        exact List.set_getElem_self hi
      show D.nx (σ.set i (some (.ref l))) _
      rw [es]
      exact k.nx F1 _ σ _ (hp _ (.lst (xs ++ ys)) upd_off ⟨_, upd_same, rv.append ru⟩) q
    | dic xs => exact (show False from hk).elim
    | dit xs => exact (show False from hk).elim
    | ins _ _ => exact (show False from hk).elim
  | _ => cases e2
end
/-! ### x = {k: v for .. in ..}: the value is used where it is made -/
section
open PySem.W PySem.Calls PyProof.V
variable {X : Cx}
theorem ps_setDc {i : Nat} {y : Str} {py : Pos} {kx vx tg iter : Expr} {ifs : List Expr} {scope : Scope} {own : List (Str × Nat)} {pos spos : Pos} {wi : TI} {g : TG} {tt : TT} {tk te : TE} (hc : X.calm = true) (hN : X.N.Nodup) (hy : X.N[i]? = some y) (hyl : X.env.scope.names.lookup y = some .local)
    (hsw : swapsWith (.DictComp kx vx [⟨tg, iter, ifs, 0⟩] scope pos) (some (.Name y py)) spos.line X.env = pure true) (hi : PI X tg iter wi) (ok : BlkOk X.N X.env.scope scope own)
    (hg : ∀ (s : Shared) (H : Hp) (C : Addr) (cl : List (Str × Addr)) (fp : List Addr), PG (X.blk s H scope (compEnvC scope cl C X.env) fp) tg g) (ht : ∀ (s : Shared) (H : Hp) (C : Addr) (cl : List (Str × Addr)) (fp : List Addr), PTs (X.blk s H scope (compEnvC scope cl C X.env) fp) ifs tt)
    (hk : ∀ (s : Shared) (H : Hp) (C : Addr) (cl : List (Str × Addr)) (fp : List Addr), PE (X.blk s H scope (compEnvC scope cl C X.env) fp) kx tk)
    (he : ∀ (s : Shared) (H : Hp) (C : Addr) (cl : List (Str × Addr)) (fp : List Addr), PE (X.blk s H scope (compEnvC scope cl C X.env) fp) vx te) (hs : ∀ x, foldedSetIterable iter X.env x = pure x := by intro _; rfl) :
    PS X (.Assign [.Name y py] (.DictComp kx vx [⟨tg, iter, ifs, 0⟩] scope pos) spos) (tAsg (tDc wi g tt tk te (own.map (·.2))) (gName i)) := by
  refine ⟨fun pins s σ H D I h => ?_⟩
  rw [exec_Assign_Name_used _ _ _ _ hsw]
  refine wpAny_bind (wpAny_standAt (wpAny_bind ?_))
  show wpAny _ X.A (do let _ ← comprehension (.DictComp kx vx [⟨tg, iter, ifs, 0⟩] scope pos) scope X.env (firstIterPos [⟨tg, iter, ifs, 0⟩] pos) newDict false (eval iter X.env) (some (assign (.Name y py) X.env))) _ _ s
  have h : tDc wi g tt tk te (own.map (·.2)) σ H (fun x H1 => gName i x σ H1 D.nx) := h
  refine wpAny_bind (thn (dc_core (Qf := fun _ s' => SP X pins D .next s') hc hN I hi ok hg ht hk he hs h fun L C s' m H' I' q hn f => ?_) fun _ s' hq => wpAny_pure (wpAny_pure hq))
  show wpAny _ _ (assign (.Name y py) X.env (.ref L)) _ _ _
  refine wpAny_assign_Name (store_ok2 (v := V.ref L) I' hN hy (.inl hyl) rfl (fun s2 I2 ⟨a, sb, ha⟩ => ?_) (.inr hyl))
  obtain ⟨f0, f1, f2, f3, f4, f5⟩ := f
  have haC : C ≠ a := by
    rcases ha with z | z
    · rw [z]; exact f1
    · exact fun e => f4 y a z e.symm
  refine ⟨m, hn.sameBut sb haC, fun h3 sb3 => ?_⟩
  exact ⟨_, H', I2.turned (t' := s2.toks) (fun b o hb e => (sb3.2 b hb).trans e) f0 f1 f3 f4 f5, q⟩
theorem sw_trueD {kx vx : Expr} {gs : List Comprehension} {scope : Scope} {pos py : Pos} {y : Str} {l : Nat} {env : Env} (hk : env.scope.kind = .function) (hy : env.scope.names.lookup y = some .local) (hl : (py.line == pos.line) = true)
    (ha : (scope.names.any fun (n, k) => n == y && (k == .local || k == .cell)) = false) : swapsWith (.DictComp kx vx gs scope pos) (some (.Name y py)) l env = pure true := by
  have ky : env.kindOf y = some .local := hy
  have hb : env.blockKind = .function := by unfold Env.blockKind; rw [hk]; rfl
  unfold swapsWith
  simp only [hb, ky, ha, Expr.pos, hl]
  rfl
end
/-! ### the steps -/
section
variable {i : Nat} {d : DE} {S : DSt} {D : DEnds} {g : List (Option SV)} {o : OM} {xs : List DV} {k : List DV → Prop}
instance p_lstT : Step (onS (lstT (.lst xs)) k) (k xs) := ⟨fun h => h⟩
instance p_augL : Step (dAugL i d S D) (isL S (.slt i) (d S (fun y S1 => onS (tree S1 y) fun t => onS (lstT t) fun ys => mutC S1 (.slt i) fun o put => lstK o fun xs => xs.length + ys.length ≤ sizeLine ∧ inS (put (.lst (xs ++ ys))) D.nx) D.ex)) := ⟨fun h => h⟩
end
end L3

/-! L4t: < of data that are alike. -/
namespace L3
open PySem PySem.Spec PyProof.Rows L2
open PySem.W (dataLt alike)
def rLtD (K : PySem.W.Frag) : R2 := fun x y H Q => ∃ da db : PyData, Dp K H x da ∧ Dp K H y db ∧ alike da db = true ∧ da ≠ .none ∧ da.depth ≤ 60 ∧ Q (.bl (dataLt da db)) H
section
variable {X : Cx}
theorem op_ltD (hu : X.A.units + 65 < cLine) : OpR X (compareOp .Lt) (rLtD X.K) := by
  intro pins s σ H x y v u Q I rx ry h
  obtain ⟨da, db, h1, h2, h3, h4, h5, q⟩ := h
  obtain ⟨as, ra⟩ := Dp.reads I _ _ _ h1 rx
  obtain ⟨bs, rb⟩ := Dp.reads I _ _ _ h2 ry
  exact PySem.W.lt_data ra rb h3 h4 (by omega) ⟨.bl _, H, I, rfl, q⟩
end
noncomputable def ltDF (x y : DV) : Option TV := match toPy x, toPy y with
  | some d, some e => @ite _ (alike d e = true ∧ d ≠ .none ∧ d.depth ≤ 60) (Classical.propDecidable _) (some (.val (.bl (dataLt d e)))) none
  | _, _ => none
section
variable {K : PySem.W.Frag} {F H : Hp} {v : V}
theorem G2.ltD : G2 K (rLtD K) ltDF := fun F H v w x y z Q s rx ry e R => by
  unfold ltDF at e
  split at e
  · rename_i d e' q1 q2
    split at e
    · rename_i c
      cases e
      exact ⟨d, e', toPyB s rx q1, toPyB s ry q2, c.1, c.2.1, c.2.2, Res.here R s (.bl _)⟩
    · cases e
  · cases e
end
theorem alike_encR (r t : List Int) : alike (encR r) (encR t) = true := by
  show PySem.W.alikeAll (r.map .int) (t.map .int) = true
  induction r generalizing t with
  | nil => cases t <;> rfl
  | cons x r ih => cases t with
    | nil => rfl
    | cons y t => show (PySem.W.alike (.int x) (.int y) && PySem.W.alikeAll (r.map .int) (t.map .int)) = true; rw [ih t]; rfl
theorem alike_webs : ∀ w u : List (List Int), PySem.W.alikeAll (w.map encR) (u.map encR) = true
  | [], [] => rfl
  | [], _ :: _ => rfl
  | _ :: _, [] => rfl
  | r :: w, t :: u => by
    show (PySem.W.alike (encR r) (encR t) && PySem.W.alikeAll (w.map encR) (u.map encR)) = true
    rw [alike_encR, alike_webs w u]
    rfl
theorem eqv_encR (r t : List Int) : PyData.eqv (encR r) (encR t) = decide (r = t) := by
  have key : ∀ r t : List Int, PyData.eqvAll (r.map .int) (t.map .int) = decide (r = t) := by
    intro r
    induction r with
    | nil => intro t; cases t <;> simp [PyData.eqvAll]
    | cons x r ih => intro t; cases t with
      | nil => simp [PyData.eqvAll]
      | cons y t =>
        by_cases c : x = y <;> simp [PyData.eqvAll, PyData.eqv, ih, c]
  show PyData.eqv (.list (r.map .int)) (.list (t.map .int)) = _
  rw [← key r t]
  simp [PyData.eqv]
theorem lt_webs : ∀ w u : List (List Int), PyProof.Rows.lexLt PyProof.Rows.itemOrd (PySem.W.keyToksAll (w.map encR)) (PySem.W.keyToksAll (u.map encR)) = decide (w < u)
  | [], [] => by
    have e := PyProof.Rows.lex_irrefl (O := PyProof.Rows.itemOrd) (PySem.W.keyToksAll [])
    simpa using e
  | [], t :: u => by
    have e : PyProof.Rows.lexLt PyProof.Rows.itemOrd (PySem.W.keyToksAll ([] : List PyData)) (PySem.W.keyToksAll ((t :: u).map encR)) = true := by
      rw [List.map_cons, PySem.W.toks_all_cons]
      simp only [PySem.W.keyToksAll]
      rw [PyProof.Rows.lex_diff (O := PyProof.Rows.itemOrd) (by simp)]
      rfl
    simpa using e
  | r :: w, [] => by
    have e : PyProof.Rows.lexLt PyProof.Rows.itemOrd (PySem.W.keyToksAll ((r :: w).map encR)) (PySem.W.keyToksAll ([] : List PyData)) = false := by
      rw [List.map_cons, PySem.W.toks_all_cons]
      simp only [PySem.W.keyToksAll]
      rw [PyProof.Rows.lex_diff (O := PyProof.Rows.itemOrd) (by simp)]
      rfl
    simpa using e
  | r :: w, t :: u => by
    rw [List.map_cons, List.map_cons, PySem.W.dataLt_cons (alike_encR r t), eqv_encR, lt_webs w u]
    have er : dataLt (encR r) (encR t) = decide (r < t) := by
      show dataLt (.list _) (.list _) = _
      rw [PySem.W.dataLt_list]
      exact PySem.W.dataLt_ints r t
    rw [er]
    by_cases c : r = t
    · subst c
      simp
    · simp [c, List.cons_lt_cons_iff]
theorem depth_webs (w : List (List Int)) : (PyData.list (w.map encR)).depth ≤ 60 := by
  have key : ∀ w : List (List Int), PyData.depthAll (w.map encR) ≤ 10 := by
    intro w
    induction w with
    | nil => simp [PyData.depthAll]
    | cons r w ih =>
      have := PySem.W.depth_ints r
      have e : (encR r).depth ≤ 10 := by
        show (PyData.list (r.map .int)).depth ≤ 10
        simp only [PyData.depth]
        omega
      simp only [List.map_cons, PyData.depthAll]
      omega
  have := key w
  simp only [PyData.depth]
  omega
theorem ltDF_w (w u : List (List Int)) : ltDF (.lst (zWeb w)) (.lst (zWeb u)) = some (.val (.bl (decide (w < u)))) := by
  have h1 : toPy (.lst (zWeb w)) = some (.list (w.map encR)) := by show (toPys (zWeb w)).map PyData.list = _; rw [toPys_w]; rfl
  have h2 : toPy (.lst (zWeb u)) = some (.list (u.map encR)) := by show (toPys (zWeb u)).map PyData.list = _; rw [toPys_w]; rfl
  unfold ltDF
  rw [h1, h2]
  show (@ite _ (alike (.list (w.map encR)) (.list (u.map encR)) = true ∧ PyData.list (w.map encR) ≠ .none ∧ (PyData.list (w.map encR)).depth ≤ 60) (Classical.propDecidable _) (some (TV.val (.bl (dataLt (.list (w.map encR)) (.list (u.map encR)))))) none) = _
  rw [if_pos ⟨alike_webs w u, (by simp), depth_webs w⟩, PySem.W.dataLt_list, lt_webs]
section
variable {w u : List (List Int)} {k : TV → Prop}
instance p_ltD_w : Step (onS (ltDF (.lst (zWeb w)) (.lst (zWeb u))) k) (k (.val (.bl (decide (w < u))))) := ⟨fun h => by rw [ltDF_w]; exact h⟩
end
end L3

namespace Row
open PySem PySem.Spec PyProof.Rows L2 L3
def top (i : Nat) : Stmt := PySem.Challenge.pw_tintonce_k65_whole_webs_in_the_list.main.body.getD i (.Pass ⟨0, 0, 0, 0⟩)
abbrev s_law_source : Stmt := top 19
abbrev s_law_draw_c : Stmt := top 20
abbrev s_law_chosen : Stmt := top 21
abbrev s_law_forest_b : Stmt := top 22
abbrev s_law_web_b : Stmt := top 23
abbrev s_is_integer : Stmt := top 5
abbrev s_are_ties : Stmt := top 6
abbrev s_is_web : Stmt := top 7
abbrev s_check_web : Stmt := top 8
abbrev s_is_forest : Stmt := top 12
abbrev s_check_size : Stmt := top 15
abbrev s_all_neighbours : Stmt := top 9
abbrev s_reached : Stmt := top 10
abbrev s_pieces : Stmt := top 11
abbrev s_ties_lists : Stmt := top 16
abbrev s_forests : Stmt := top 17
abbrev s_law_is_forest : Stmt := top 24
abbrev s_law_listed : Stmt := top 25
abbrev s_law_ascends : Stmt := top 26
abbrev s_law : Stmt := top 27
def fn : List He.DefD := [⟨("_law_source", none), "_law_source", "_law_source", defArgs s_law_source, defBody s_law_source, defScope s_law_source, [], []⟩,
  ⟨("_law_draw", none), "_law_draw", "_law_draw", defArgs s_law_draw_c, defBody s_law_draw_c, defScope s_law_draw_c, [], []⟩,
  ⟨("_law_chosen", none), "_law_chosen", "_law_chosen", defArgs s_law_chosen, defBody s_law_chosen, defScope s_law_chosen, [], []⟩,
  ⟨("_law_forest", none), "_law_forest", "_law_forest", defArgs s_law_forest_b, defBody s_law_forest_b, defScope s_law_forest_b, [], []⟩,
  ⟨("_law_web", none), "_law_web", "_law_web", defArgs s_law_web_b, defBody s_law_web_b, defScope s_law_web_b, [], []⟩,
  ⟨("is_integer", none), "is_integer", "is_integer", defArgs s_is_integer, defBody s_is_integer, defScope s_is_integer, [], []⟩,
  ⟨("are_ties", none), "are_ties", "are_ties", defArgs s_are_ties, defBody s_are_ties, defScope s_are_ties, [], []⟩,
  ⟨("is_web", none), "is_web", "is_web", defArgs s_is_web, defBody s_is_web, defScope s_is_web, [], []⟩,
  ⟨("check_web", none), "check_web", "check_web", defArgs s_check_web, defBody s_check_web, defScope s_check_web, [], []⟩,
  ⟨("is_forest", none), "is_forest", "is_forest", defArgs s_is_forest, defBody s_is_forest, defScope s_is_forest, [], []⟩,
  ⟨("check_size", none), "check_size", "check_size", defArgs s_check_size, defBody s_check_size, defScope s_check_size, [], []⟩,
  ⟨("all_neighbours", none), "all_neighbours", "all_neighbours", defArgs s_all_neighbours, defBody s_all_neighbours, defScope s_all_neighbours, [], []⟩,
  ⟨("reached", none), "reached", "reached", defArgs s_reached, defBody s_reached, defScope s_reached, [], []⟩,
  ⟨("pieces", none), "pieces", "pieces", defArgs s_pieces, defBody s_pieces, defScope s_pieces, [], []⟩,
  ⟨("ties_lists", none), "ties_lists", "ties_lists", defArgs s_ties_lists, defBody s_ties_lists, defScope s_ties_lists, [], []⟩,
  ⟨("forests", none), "forests", "forests", defArgs s_forests, defBody s_forests, defScope s_forests, [], []⟩,
  ⟨("_law_is_forest", none), "_law_is_forest", "_law_is_forest", defArgs s_law_is_forest, defBody s_law_is_forest, defScope s_law_is_forest, [], []⟩,
  ⟨("_law_listed", none), "_law_listed", "_law_listed", defArgs s_law_listed, defBody s_law_listed, defScope s_law_listed, [], []⟩,
  ⟨("_law_ascends", none), "_law_ascends", "_law_ascends", defArgs s_law_ascends, defBody s_law_ascends, defScope s_law_ascends, [], []⟩,
  ⟨("law", none), "law", "law", defArgs s_law, defBody s_law, defScope s_law, [], []⟩]
def fa : List He.Fa := [.glo "_law_source", .glo "_law_draw", .glo "_law_chosen", .glo "_law_forest", .glo "_law_web", .glo "is_integer", .glo "are_ties", .glo "is_web", .glo "check_web", .glo "is_forest", .glo "check_size", .glo "all_neighbours", .glo "reached", .glo "pieces", .glo "ties_lists", .glo "forests", .glo "_law_is_forest", .glo "_law_listed", .glo "_law_ascends", .glo "law", .free "abs", .free "bool", .free "enumerate", .free "int", .free "isinstance", .free "len", .free "list", .free "max", .free "range", .free "set", .free "sorted", .int "LARGEST" 5, .glo "InvalidSize", .exc "InvalidSize", .glo "InvalidWeb", .exc "InvalidWeb"]
def fb : List Hf.Fb := []
abbrev R : PySem.W.OpenRow := PySem.W.OpenLaw.row PySem.Challenge.rw_tintonce_k65_whole_webs_in_the_list
abbrev hk : PySem.W.Hook := Hf.hookE 4 fa fb fn
def ob (s : PySem.W.SharedT) : He.AlD := Hf.obsEG 4 fa fb fn (HandSHeadRun.getT s)
theorem ob_eq (s : PySem.W.SharedT) : ob s = hk.obs s.abs := Hf.obsEG_eq (HandSHeadRun.getT_eq s)
def names0 : List PySem.Str := ["InvalidSize", "InvalidWeb", "LARGEST", "TintError", "_law_ascends", "_law_chosen", "_law_draw", "_law_forest", "_law_is_forest", "_law_listed", "_law_source", "_law_web", "all_neighbours", "are_ties", "check_size", "check_web", "forests", "is_forest", "is_integer", "is_web", "pieces", "reached", "ties_lists"]
def names : List PySem.Str := names0
theorem run (w : World) : HandSHeadRun.RunEq R (PySem.W.view R.prog [27]) hk ob 6000 names w := by
  intro os
  kernel_rfl
end Row
namespace Pf
open PySem PySem.Spec PyProof.Rows L2 L3
def sp_law_source : PSp := fun xs Q _ => ∃ (ns : List Int) (i : Nat), xs = [.seq (zInts ns), .int i] ∧ i ≤ 10 ^ 9 ∧ ∀ (a c : Int) (b : Bool), Q (.own (.lst [.int a, .int c, .bl b]))
def d_law_source : DS :=
    (dSeq (dSetX 2 (dFrz (d2 powF (dC (.int 10)) (dC (.int 18)))))
    (dJoin (dIf (dTest (d2 ltF (dVar 1) (dN lenF (dBcons (dVar 0) dBnil)))) (dSetX 2 (dFrz (dN absF (dBcons (d2 idxF (dVar 0) (dVar 1)) dBnil)))) dNext)
    (dSeq (dIf (dTest (d2 geF (dVar 2) (d2 powF (dC (.int 10)) (dC (.int 18))))) (dRet (dLst (dAcons (dFrz (d2 subF (dVar 2) (d2 powF (dC (.int 10)) (dC (.int 18))))) (dAcons (dFrz (dC (.int 0))) (dAcons (dFrz (dC (.bl true))) dAnil))))) dNext)
    (dRet (dLst (dAcons (dFrz (dVar 2)) (dAcons (dFrz (dC (.int 0))) (dAcons (dFrz (dC (.bl false))) dAnil))))))))
def N_law_source : List Str := ["script", "place", "cell"]
theorem e_law_source {v0 v1 : DV} : gSt N_law_source [v0, v1] = ⟨[some (.val v0), some (.val v1), none], noO⟩ := rfl

theorem l_law_source (xs : List DV) (Q : TV → Prop) (E : DErr → Prop) (h : sp_law_source xs Q E) : xs.length = 2 := by
  obtain ⟨_, _, rfl, _⟩ := h; rfl
theorem h_law_source (xs : List DV) (Q : TV → Prop) (E : DErr → Prop) (h : sp_law_source xs Q E) : d_law_source (gSt N_law_source xs) (ends Q E) := by
  obtain ⟨ns, i, rfl, hi, h⟩ := h
  rw [e_law_source]
  unfold d_law_source
  (with_reducible refine go ?_)
  refine ⟨powC (by decide) (by decide) (by decide), ?_⟩
  (with_reducible refine go ?_)
  (with_reducible show dJoin _ _ _ _)
  refine join (fun S => ∃ c : Int, S = ⟨[some (.val (.seq (zInts ns))), some (.val (.int i)), some (.val (.int c))], noO⟩) ?_ ?_
  · intro k hk
    (with_reducible refine go ?_)
    (with_reducible refine ite_go (fun c => ?_) (fun c => ?_))
    · (with_reducible refine go ?_)
      rw [z_atI (by omega) (by rw [z_len] at c; omega)]
      (with_reducible refine go ?_)
      exact hk _ ⟨_, rfl⟩
    · (with_reducible refine go ?_)
      exact hk _ ⟨_, rfl⟩
  · rintro S1 ⟨c, rfl⟩
    (with_reducible refine go ?_)
    refine ⟨powC (by decide) (by decide) (by decide), ?_⟩
    (with_reducible refine go ?_)
    (with_reducible refine ite_go (fun d => ?_) (fun d => ?_))
    · (with_reducible refine go ?_)
      refine ⟨powC (by decide) (by decide) (by decide), ?_⟩
      (with_reducible refine go ?_)
      exact h _ _ _
    · (with_reducible refine go ?_)
      exact h _ _ _

/-- rows that are objects, by a function -/
structure RwF (O : OM) (rs : List Addr) (n : Nat) (f : Nat → List Int) : Prop where
  nd : rs.Nodup
  len : rs.length = n
  row : ∀ (i : Nat) a, rs[i]? = some a → O a = some (.lst (zInts (f i)))
theorem RwF.upd {O : OM} {rs : List Addr} {n : Nat} {f : Nat → List Int} (h : RwF O rs n f) {i : Nat} {a : Addr} (e : rs[i]? = some a) (r : List Int) : RwF (updO O a (.lst (zInts r))) rs n (fun k => if k = i then r else f k) := by
  refine ⟨h.nd, h.len, fun j b hb => ?_⟩
  by_cases hj : j = i
  · subst hj
    rw [e] at hb; cases hb
    rw [updO_same, if_pos rfl]
  · have hba : b ≠ a := fun z => hj (by
      obtain ⟨hl, z1⟩ := List.getElem?_eq_some_iff.mp hb
      obtain ⟨hl2, z2⟩ := List.getElem?_eq_some_iff.mp e
      exact (List.getElem_inj h.nd).mp (by rw [z1, z2, z]))
    rw [updO_ne hba, if_neg hj]
    exact h.row j b hb
theorem RwF.congr {O : OM} {rs : List Addr} {n : Nat} {f g : Nat → List Int} (h : RwF O rs n f) (e : ∀ i, i < n → f i = g i) : RwF O rs n g :=
  ⟨h.nd, h.len, fun i a hi => by rw [← e i (by rw [← h.len]; exact (List.getElem?_eq_some_iff.mp hi).1)]; exact h.row i a hi⟩
theorem RwF.new {O : OM} {rs : List Addr} {n : Nat} {f : Nat → List Int} (h : RwF O rs n f) {a : Addr} (ha : O a = none) (r : List Int) : RwF (updO O a (.lst (zInts r))) (rs ++ [a]) (n + 1) (fun k => if k = n then r else f k) := by
  have no : ∀ (i : Nat) b, rs[i]? = some b → b ≠ a := fun i b hb z => by
    have := h.row i b hb
    rw [z, ha] at this; cases this
  have nin : a ∉ rs := fun z => by
    obtain ⟨i, hi⟩ := List.mem_iff_getElem?.mp z
    exact no i a hi rfl
  refine ⟨?_, by rw [List.length_append, h.len]; rfl, fun j b hb => ?_⟩
  · rw [List.nodup_append]
    exact ⟨h.nd, by simp, fun x hx y hy => by rw [List.mem_singleton.mp hy]; exact fun z => nin (by rw [← z]; exact hx)⟩
  · by_cases hj : j < rs.length
    · rw [List.getElem?_append_left hj] at hb
      rw [updO_ne (no j b hb), if_neg (by rw [h.len] at hj; omega)]
      exact h.row j b hb
    · rw [List.getElem?_append_right (by omega)] at hb
      have z : j - rs.length = 0 := by
        cases q : j - rs.length with
        | zero => rfl
        | succ m => rw [q] at hb; simp at hb
      rw [z] at hb
      simp at hb
      subst hb
      rw [updO_same, if_pos (by rw [h.len] at z hj; omega)]
theorem RwF.at {O : OM} {rs : List Addr} {n : Nat} {f : Nat → List Int} (h : RwF O rs n f) {i : Nat} (hi : i < n) : ∃ a, rs[i]? = some a ∧ O a = some (.lst (zInts (f i))) ∧ atI (refs rs) (i : Int) = some (.ref a) := by
  have hl : i < rs.length := by rw [h.len]; exact hi
  refine ⟨rs[i], List.getElem?_eq_getElem hl, h.row i _ (List.getElem?_eq_getElem hl), ?_⟩
  rw [at_nat (by simpa [refs] using hl)]
  simp [refs]
theorem RwF.rws {O : OM} {rs : List Addr} {n : Nat} {f : Nat → List Int} (h : RwF O rs n f) : Rws O rs ((List.range n).map f) := by
  refine ⟨h.nd, by rw [h.len, List.length_map, List.length_range], fun i a r h1 h2 => ?_⟩
  have hi : i < n := by rw [← h.len]; exact (List.getElem?_eq_some_iff.mp h1).1
  rw [List.getElem?_map, List.getElem?_range hi] at h2
  cases h2
  exact h.row i a h1
theorem refs_snoc (rs : List Addr) (a : Addr) : refs rs ++ [.ref a] = refs (rs ++ [a]) := by simp [refs]
theorem refs_len (rs : List Addr) : (refs rs).length = rs.length := List.length_map ..
theorem enumD_at {xs : List DV} {i : Nat} {x : DV} (h : (enumD xs)[i]? = some x) : ∃ y, xs[i]? = some y ∧ x = .tup [.int (i : Nat), y] := by
  unfold enumD at h
  rw [List.getElem?_map, List.getElem?_zipIdx] at h
  cases q : xs[i]? with
  | none => rw [q] at h; cases h
  | some y =>
    rw [q] at h
    cases h
    exact ⟨y, rfl, by simp⟩
theorem enumD_len {xs : List DV} : (enumD xs).length = xs.length := by simp [enumD]
theorem w_get {w : List (List Int)} {i : Nat} {y : DV} (h : (zWeb w)[i]? = some y) : ∃ r, w[i]? = some r ∧ y = .lst (zInts r) := by
  unfold zWeb at h
  rw [List.getElem?_map] at h
  cases q : w[i]? with
  | none => rw [q] at h; cases h
  | some r => rw [q] at h; cases h; exact ⟨r, rfl, rfl⟩
/-- a web -/
def Wb (w : List (List Int)) : Prop := ∀ (t : Nat) r, w[t]? = some r → r.Pairwise (· < ·) ∧ ∀ x ∈ r, 0 ≤ x ∧ x < t
theorem asc_len {n : Nat} : ∀ {r : List Int} {b : Int}, r.Pairwise (· < ·) → (∀ x ∈ r, b ≤ x ∧ x < n) → (r.length : Int) ≤ n - b ∨ r = []
  | [], _, _, _ => .inr rfl
  | x :: r, b, h, hx => by
    rw [List.pairwise_cons] at h
    have h1 := hx x List.mem_cons_self
    left
    rcases asc_len (b := x + 1) h.2 fun y hy => ⟨by have := h.1 y hy; omega, (hx y (List.mem_cons_of_mem _ hy)).2⟩ with e | e
    · rw [List.length_cons]; omega
    · rw [e, List.length_cons, List.length_nil]; omega
theorem Wb.row_len {w : List (List Int)} (h : Wb w) {t : Nat} {r : List Int} (e : w[t]? = some r) : r.length ≤ t := by
  obtain ⟨h1, h2⟩ := h t r e
  rcases asc_len (b := 0) h1 h2 with z | z
  · omega
  · rw [z]; exact Nat.zero_le _
theorem Wb.snoc {w : List (List Int)} {r : List Int} (h : Wb w) (h1 : r.Pairwise (· < ·)) (h2 : ∀ x ∈ r, 0 ≤ x ∧ x < w.length) : Wb (w ++ [r]) := fun t s e => by
  by_cases c : t < w.length
  · rw [List.getElem?_append_left c] at e; exact h t s e
  · rw [List.getElem?_append_right (by omega)] at e
    have z : t - w.length = 0 := by
      cases q : t - w.length with
      | zero => rfl
      | succ m => rw [q] at e; simp at e
    rw [z] at e
    simp at e
    subst e
    exact ⟨h1, fun x hx => by have := h2 x hx; omega⟩
theorem Wb.set {w : List (List Int)} (hw : Wb w) {h : Nat} {r : List Int} (ha : r.Pairwise (· < ·)) (hr : ∀ x ∈ r, 0 ≤ x ∧ x < h) : Wb (w.set h r) := fun t s e => by
  rw [List.getElem?_set] at e
  split at e
  · rename_i c
    split at e
    · cases e
      subst c
      exact ⟨ha, hr⟩
    · cases e
  · exact hw t s e
theorem w_set (w : List (List Int)) (n : Nat) (r : List Int) : (zWeb w).set n (.lst (zInts r)) = zWeb (w.set n r) := by
  unfold zWeb
  rw [List.map_set]
  rfl
theorem lend_row1 {rs : List Addr} {w : List (List Int)} {S : DSt} {k : List DV → Prop} (h : Rws S.o rs w) (q : k [.lst (zWeb w)]) : lendK [.lst (refs rs)] S k := by
  refine ⟨rowM rs w, fun a xs e => ?_, ?_⟩
  · obtain ⟨i, r, h1, h2, rfl⟩ := rowM_in e
    exact h.row i a r h1 h2
  · have e : fzs (rowM rs w) [.lst (refs rs)] = [.lst (zWeb w)] := by
      show [DV.lst (fzs _ (refs rs))] = _
      rw [fzs_rows h.len fun i a r h1 h2 => rowM_at h.nd h1 h2]
    rw [e]; exact q
theorem lend_rowI {rs : List Addr} {w : List (List Int)} {S : DSt} {i : Int} {k : List DV → Prop} (h : Rws S.o rs w) (q : k [.lst (zWeb w), .int i]) : lendK [.lst (refs rs), .int i] S k := by
  refine ⟨rowM rs w, fun a xs e => ?_, ?_⟩
  · obtain ⟨i, r, h1, h2, rfl⟩ := rowM_in e
    exact h.row i a r h1 h2
  · have e : fzs (rowM rs w) [.lst (refs rs), .int i] = [.lst (zWeb w), .int i] := by
      show [DV.lst (fzs _ (refs rs)), DV.int i] = _
      rw [fzs_rows h.len fun i a r h1 h2 => rowM_at h.nd h1 h2]
    rw [e]; exact q
theorem z_first {l : List Int} (h : 0 < l.length) : atI (zInts l) 0 = some (.int (l.getD 0 0)) := by
  have := z_at (l := l) (i := 0) h
  rw [List.getD_eq_getElem?_getD, List.getElem?_eq_getElem h]
  exact this
theorem z_last {l : List Int} (h : 0 < l.length) : atI (zInts l) (-1) = some (.int (l.getD (l.length - 1) 0)) := by
  unfold atI ixN
  rw [if_neg (by decide), z_len, if_pos (by omega)]
  show (zInts l)[((-1 : Int) + (l.length : Nat)).toNat]? = _
  rw [show ((-1 : Int) + (l.length : Nat)).toNat = l.length - 1 by omega, List.getD_eq_getElem?_getD, List.getElem?_eq_getElem (show l.length - 1 < l.length by omega)]
  unfold zInts
  rw [List.getElem?_map, List.getElem?_eq_getElem (show l.length - 1 < l.length by omega)]
  rfl
theorem rws_upd {O : OM} {rs : List Addr} {w : List (List Int)} (h : Rws O rs w) {i : Nat} {a : Addr} (e : rs[i]? = some a) (r : List Int) : Rws (updO O a (.lst (zInts r))) rs (w.set i r) := by
  refine ⟨h.nd, by rw [List.length_set]; exact h.len, fun j b s hb hs => ?_⟩
  obtain ⟨hl, z1⟩ := List.getElem?_eq_some_iff.mp hb
  obtain ⟨hl2, z2⟩ := List.getElem?_eq_some_iff.mp e
  by_cases hj : j = i
  · subst hj
    rw [e] at hb; cases hb
    rw [List.getElem?_set_self (by rw [← h.len]; exact hl2)] at hs
    cases hs
    exact updO_same
  · have hba : b ≠ a := fun z => hj ((List.getElem_inj h.nd).mp (by rw [z1, z2, z]))
    rw [List.getElem?_set_ne (Ne.symm hj)] at hs
    rw [updO_ne hba]
    exact h.row j b s hb hs
theorem rws_at {O : OM} {rs : List Addr} {w : List (List Int)} (h : Rws O rs w) {i : Nat} (hi : i < w.length) : ∃ a, rs[i]? = some a ∧ O a = some (.lst (zInts (w.getD i []))) ∧ atI (refs rs) (i : Int) = some (.ref a) := by
  have hl : i < rs.length := by rw [h.len]; exact hi
  refine ⟨rs[i], List.getElem?_eq_getElem hl, h.row i _ _ (List.getElem?_eq_getElem hl) (by rw [List.getD_eq_getElem?_getD, List.getElem?_eq_getElem hi]; rfl), ?_⟩
  rw [at_nat (by simpa [refs] using hl)]
  simp [refs]
theorem rws_out {O : OM} {rs : List Addr} {w : List (List Int)} (h : Rws O rs w) {q : Addr} (hq : O q = none) : q ∉ rs := fun z => by
  obtain ⟨j, hj⟩ := List.mem_iff_getElem?.mp z
  have hjl : j < w.length := by rw [← h.len]; exact (List.getElem?_eq_some_iff.mp hj).1
  have := h.row j q _ hj (List.getElem?_eq_getElem hjl)
  rw [hq] at this; cases this
/-- the rows, read one by one -/
def rdO (O : OM) (a : Addr) : DV := match O a with
  | some (.lst xs) => .lst xs
  | _ => .non
theorem rdO_at {O : OM} {a : Addr} {xs : List DV} (h : O a = some (.lst xs)) : rdO O a = .lst xs := by unfold rdO; rw [h]
theorem rws_read {O : OM} {rs : List Addr} {w : List (List Int)} (h : Rws O rs w) : rs.map (rdO O) = zWeb w := by
  apply List.ext_getElem?
  intro j
  unfold zWeb
  rw [List.getElem?_map, List.getElem?_map]
  by_cases c : j < w.length
  · have hjl : j < rs.length := by rw [h.len]; exact c
    rw [List.getElem?_eq_getElem hjl, List.getElem?_eq_getElem c]
    show some (rdO O rs[j]) = _
    rw [rdO_at (h.row j _ _ (List.getElem?_eq_getElem hjl) (List.getElem?_eq_getElem c))]
    rfl
  · rw [List.getElem?_eq_none (by rw [h.len]; omega), List.getElem?_eq_none (by omega)]
    rfl
theorem w_cut (W : List (List Int)) (r : List Int) {n : Nat} (hW : n < W.length) : (zWeb W).take n ++ [DV.lst (zInts r)] ++ (zWeb W).drop (n + 1) = zWeb (W.set n r) := by
  rw [List.set_eq_take_append_cons_drop, if_pos hW]
  unfold zWeb
  rw [List.map_append, List.map_cons, List.map_take, List.map_drop, List.append_assoc]
  rfl
theorem flatT_z (l : List Int) : flatT (.own (.lst (zInts l))) = true := by
  show (zInts l).all flat = true
  rw [List.all_eq_true]
  intro x hx
  obtain ⟨i, _, rfl⟩ := List.mem_map.mp hx
  rfl

/-- an order of the things below n -/
structure Ordr (l : List Int) (n : Nat) : Prop where
  len : l.length = n
  nd : l.Nodup
  lt : ∀ x ∈ l, 0 ≤ x ∧ x < n
theorem asc_full : ∀ {r : List Int} {b : Int}, 0 ≤ b → r.Pairwise (· < ·) → (∀ x ∈ r, b ≤ x ∧ x < b + r.length) → ∀ o, b ≤ o → o < b + r.length → o ∈ r
  | [], b, _, _, _, o, h1, h2 => by simp at h2; omega
  | x :: r, b, hb, h, hx, o, h1, h2 => by
    rw [List.pairwise_cons] at h
    have hx0 := hx x List.mem_cons_self
    rw [List.length_cons] at hx0 h2
    have hr : ∀ y ∈ r, x + 1 ≤ y ∧ y < ((b + (r.length + 1)).toNat : Nat) := fun y hy => by
      have h3 := h.1 y hy
      have h4 := (hx y (List.mem_cons_of_mem _ hy)).2
      rw [List.length_cons] at h4
      omega
    have xb : x = b := by
      rcases asc_len h.2 hr with z | z
      · omega
      · rw [z] at hx0
        simp at hx0
        omega
    by_cases c : o = x
    · rw [c]; exact List.mem_cons_self
    · refine List.mem_cons_of_mem _ (asc_full (b := b + 1) (by omega) h.2 (fun y hy => ?_) o (by omega) (by omega))
      have := hr y hy
      omega
theorem Ordr.all {l : List Int} {n : Nat} (h : Ordr l n) {o : Int} (h0 : 0 ≤ o) (h1 : o < n) : o ∈ l := by
  have p := isort_perm l
  refine isort_mem.mp (asc_full (b := 0) (Int.le_refl _) (lt_of_le_nodup _ (isort_asc _) (p.nodup_iff.mpr h.nd)) (fun x hx => ?_) o h0 ?_)
  · have := h.lt x (isort_mem.mp hx)
    rw [isort_len, h.len]; omega
  · rw [isort_len, h.len]; omega
theorem nodup_le {n : Nat} {l : List Int} (h : l.Nodup) (hl : ∀ x ∈ l, 0 ≤ x ∧ x < n) : l.length ≤ n := by
  have p := isort_perm l
  rcases asc_len (b := 0) (lt_of_le_nodup _ (isort_asc l) (p.nodup_iff.mpr h)) (fun x hx => hl x (isort_mem.mp hx)) with z | z
  · rw [isort_len] at z; omega
  · have := isort_len l
    rw [z] at this
    simp at this
    omega

/-- a source of drawn numbers -/
def Src (O : OM) (p : Addr) : Prop := ∃ (a c : Int) (b : Bool), O p = some (.lst [.int a, .int c, .bl b])
theorem Src.upd {O : OM} {p : Addr} {a c : Int} {b : Bool} : Src (updO O p (.lst [.int a, .int c, .bl b])) p := ⟨a, c, b, updO_same⟩
theorem Src.but {O O' : OM} {p : Addr} (h : Src O p) (e : O' p = O p) : Src O' p := by
  obtain ⟨a, c, b, h⟩ := h
  exact ⟨a, c, b, e.trans h⟩

def sp_law_draw_c : GSp := fun xs O Q _ => ∃ p m, xs = [.ref p, .int m] ∧ Src O p ∧ 0 < m ∧ m ≤ 10 ^ 40 ∧ ∀ r O', 0 ≤ r → r < m → Src O' p → But p O O' → Q (.val (.int r)) O'
def d_law_draw_c : DS :=
    (dSeq (dIf (dTest (d2 idxF (dVar 0) (dC (.int 2)))) (dSeq (dSetX 2 (dFrz (d2 modF (dN intF (dBcons (d2 idxF (dVar 0) (dC (.int 0))) dBnil)) (dVar 1))))
    (dSeq (dSetItem (dFrz (d2 divF (d2 idxF (dVar 0) (dC (.int 0))) (dVar 1))) (dVar 0) (dC (.int 0)))
    (dRet (dVar 2)))) dNext)
    (dSeq (dSetItem (dFrz (d2 addF (d2 idxF (dVar 0) (dC (.int 1))) (dC (.int 1)))) (dVar 0) (dC (.int 1)))
    (dSeq (dSetX 3 (dFrz (d2 modF (dN intF (dBcons (d2 addF (d2 addF (d2 mulB (d2 idxF (dVar 0) (dC (.int 0))) (dC (.int 48271))) (d2 mulB (d2 idxF (dVar 0) (dC (.int 1))) (dC (.int 40014)))) (dC (.int 2531011))) dBnil)) (dC (.int 2147483647)))))
    (dSeq (dSetX 3 (dFrz (d2 modF (dN intF (dBcons (d2 addF (d2 addF (d2 mulB (dVar 3) (dVar 3)) (d2 mulB (d2 idxF (dVar 0) (dC (.int 1))) (dC (.int 69621)))) (d2 idxF (dVar 0) (dC (.int 0)))) dBnil)) (dC (.int 2147483563)))))
    (dSeq (dSetX 3 (dFrz (d2 modF (dN intF (dBcons (d2 addF (d2 addF (d2 mulB (dVar 3) (dVar 3)) (d2 divF (dVar 3) (dC (.int 127773)))) (dC (.int 16807))) dBnil)) (dC (.int 2147483399)))))
    (dRet (d2 modF (dN intF (dBcons (d2 divF (dVar 3) (dC (.int 3))) dBnil)) (dVar 1))))))))
def N_law_draw_c : List Str := ["source", "limit", "value", "mixed"]
theorem e_law_draw_c {v0 v1 : SV} {O : OM} : gSv N_law_draw_c [v0, v1] O = ⟨[some v0, some v1, none, none], O⟩ := rfl

theorem l_law_draw_c (xs : List DV) (O : OM) (Q : TV → OM → Prop) (E : DErr → OM → Prop) (h : sp_law_draw_c xs O Q E) : xs.length = 2 := by
  obtain ⟨_, _, rfl, _⟩ := h; rfl
theorem h_law_draw_c (xs : List DV) (O : OM) (Q : TV → OM → Prop) (E : DErr → OM → Prop) (h : sp_law_draw_c xs O Q E) :
    ∃ ss, SvOk ss xs ∧ d_law_draw_c (gSv N_law_draw_c ss O) (endsG Q E) := by
  obtain ⟨p, m, rfl, ⟨a, c, b, hO⟩, h0, hm, hq⟩ := h
  have h60 : m ≤ 10 ^ 60 := by
    have : (10 : Int) ^ 40 ≤ 10 ^ 60 := by decide +kernel
    omega
  refine ⟨[.rf p, .val (.int m)], .rf (.val .nil), ?_⟩
  rw [e_law_draw_c]
  unfold d_law_draw_c
  (with_reducible refine go ?_)
  rw [hO]
  (with_reducible refine go ?_)
  (with_reducible refine ite_go (fun ca => ?_) (fun ca => ?_))
  · (with_reducible refine go ?_)
    rw [hO]
    (with_reducible refine go ?_)
    refine ⟨h0, ?_⟩
    (with_reducible refine go ?_)
    rw [hO]
    (with_reducible refine go ?_)
    refine ⟨divT h0 h60, ?_⟩
    (with_reducible refine go ?_)
    rw [hO]
    (with_reducible refine go ?_)
    exact ⟨_, SubO.refl _, hq _ _ (Int.emod_nonneg _ (by omega)) (Int.emod_lt_of_pos _ h0) Src.upd But.refl.upd⟩
  · (with_reducible refine go ?_)
    rw [hO]
    (with_reducible refine go ?_)
    rw [hO]
    (with_reducible refine go ?_)
    refine ⟨mulR (by decide) (by decide), ?_⟩
    (with_reducible refine go ?_)
    refine ⟨mulR (by decide) (by decide), ?_⟩
    (with_reducible refine go ?_)
    refine ⟨by decide, ?_⟩
    (with_reducible refine go ?_)
    refine ⟨mulL (by omega) (by omega), ?_⟩
    (with_reducible refine go ?_)
    refine ⟨mulR (by decide) (by decide), ?_⟩
    (with_reducible refine go ?_)
    refine ⟨by decide, ?_⟩
    (with_reducible refine go ?_)
    refine ⟨mulL (by omega) (by omega), ?_⟩
    (with_reducible refine go ?_)
    refine ⟨divT (by decide) (by decide), ?_⟩
    (with_reducible refine go ?_)
    refine ⟨by decide, ?_⟩
    (with_reducible refine go ?_)
    refine ⟨divT (by decide) (by decide), ?_⟩
    (with_reducible refine go ?_)
    refine ⟨h0, ?_⟩
    (with_reducible refine go ?_)
    exact ⟨_, SubO.refl _, hq _ _ (Int.emod_nonneg _ (by omega)) (Int.emod_lt_of_pos _ h0) Src.upd But.refl.upd⟩

def sp_law_chosen : GSp := fun xs O Q _ => ∃ (p : Addr) (l : List Int) (m : Int), xs = [.ref p, .lst (zInts l), .int m] ∧ Src O p ∧ 0 < m ∧ m ≤ 1000000 ∧ l.length ≤ 100000 ∧ ∀ (r : List Int) O', r.Sublist l → Src O' p → But p O O' → Q (.own (.lst (zInts r))) O'
def b_law_chosen_1 : DS :=
    (dIf (dTest (d2 eqF (dCallG sp_law_draw_c (dAcons (dFrz (dVar 0)) (dAcons (dFrz (dVar 2)) dAnil))) (dC (.int 0)))) (dDrop (dBM appF (dVar 3) (dAcons (dFrz (dVar 4)) dAnil))) dNext)
def d_law_chosen : DS :=
    (dSeq (dSet 3 (dLst dAnil))
    (dSeq (dFor (iL (dFrz (dVar 1))) (gN 4)
    b_law_chosen_1 [4])
    (dRet (dVar 3))))
def N_law_chosen : List Str := ["source", "things", "share", "chosen", "thing"]
theorem e_law_chosen {v0 v1 v2 : SV} {O : OM} : gSv N_law_chosen [v0, v1, v2] O = ⟨[some v0, some v1, some v2, none, none], O⟩ := rfl

theorem l_law_chosen (xs : List DV) (O : OM) (Q : TV → OM → Prop) (E : DErr → OM → Prop) (h : sp_law_chosen xs O Q E) : xs.length = 3 := by
  obtain ⟨_, _, _, rfl, _⟩ := h; rfl
theorem h_law_chosen (xs : List DV) (O : OM) (Q : TV → OM → Prop) (E : DErr → OM → Prop) (h : sp_law_chosen xs O Q E) :
    ∃ ss, SvOk ss xs ∧ d_law_chosen (gSv N_law_chosen ss O) (endsG Q E) := by
  obtain ⟨p, l, m, rfl, hd, h0, hm, hl, hq⟩ := h
  refine ⟨[.rf p, .val (.lst (zInts l)), .val (.int m)], .rf (.val (.val .nil)), ?_⟩
  rw [e_law_chosen]
  unfold d_law_chosen
  (with_reducible refine go ?_)
  refine forL_inv (inj := DV.int) (l := l) (fun pre S => ∃ (r : List Int) (O1 : OM), S = ⟨[some (.rf p), some (.val (.lst (zInts l))), some (.val (.int m)), some (.own (.lst (zInts r))), none], O1⟩ ∧ r.Sublist pre ∧ Src O1 p ∧ But p O O1) ⟨[], O, rfl, List.Sublist.refl _, hd, But.refl⟩ ?_ ?_
  · rintro pre t post S1 k e ⟨r, O1, rfl, hs, d1, b1⟩ hk
    have pl : pre.length < l.length := by rw [e, List.length_append, List.length_cons]; omega
    have rl := hs.length_le
    (with_reducible refine go ?_)
    unfold b_law_chosen_1
    (with_reducible refine go ?_)
    refine ⟨p, m, rfl, d1, h0, (by omega), fun x O2 x0 x1 d2 b2 => ?_⟩
    (with_reducible refine go ?_)
    (with_reducible refine ite_go (fun c => ?_) (fun c => ?_))
    · (with_reducible refine go ?_)
      refine ⟨by rw [z_len, sizeLine_eq]; omega, ?_⟩
      (with_reducible refine go ?_)
      rw [z_snoc]
      exact hk _ ⟨_, O2, rfl, hs.append (List.Sublist.refl [t]), d2, b1.trans b2⟩
    · (with_reducible refine go ?_)
      exact hk _ ⟨r, O2, rfl, List.Sublist.trans hs (List.sublist_append_left _ _), d2, b1.trans b2⟩
  · rintro S1 ⟨r, O1, rfl, hs, d1, b1⟩
    (with_reducible refine go ?_)
    exact ⟨O1, SubO.refl _, hq r O1 hs d1 b1⟩

/-- two things are tied -/
def adj (w : List (List Int)) (a b : Int) : Bool := decide (a ∈ w.getD b.toNat []) || decide (b ∈ w.getD a.toNat [])
theorem Wb.mem_lt {w : List (List Int)} (h : Wb w) {t : Nat} {o : Int} (m : o ∈ w.getD t []) : 0 ≤ o ∧ o < t ∧ t < w.length := by
  rw [List.getD_eq_getElem?_getD] at m
  cases q : w[t]? with
  | none => rw [q] at m; simp at m
  | some r =>
    rw [q] at m
    exact ⟨((h t r q).2 o m).1, ((h t r q).2 o m).2, (List.getElem?_eq_some_iff.mp q).1⟩
theorem adj_comm (w : List (List Int)) (a b : Int) : adj w a b = adj w b a := by
  unfold adj
  exact Bool.or_comm ..
theorem adj_iff {w : List (List Int)} {a b : Int} : adj w a b = true ↔ a ∈ w.getD b.toNat [] ∨ b ∈ w.getD a.toNat [] := by
  unfold adj
  rw [Bool.or_eq_true, decide_eq_true_iff, decide_eq_true_iff]
theorem adj_range {w : List (List Int)} (h : Wb w) {a b : Int} (e : adj w a b = true) : (0 ≤ a ∧ a < w.length) ∧ (0 ≤ b ∧ b < w.length) := by
  rcases adj_iff.mp e with z | z
  · have := h.mem_lt z; omega
  · have := h.mem_lt z; omega

/-- two things hang together -/
inductive Cn (w : List (List Int)) (x : Int) : Int → Prop where
  | refl : Cn w x x
  | step {y z : Int} : Cn w x y → adj w y z = true → Cn w x z
theorem Cn.one {w : List (List Int)} {x y : Int} (h : adj w x y = true) : Cn w x y := .step .refl h
theorem Cn.trans {w : List (List Int)} {a b c : Int} (h : Cn w a b) (k : Cn w b c) : Cn w a c := by
  induction k with
  | refl => exact h
  | step _ hy ih => exact .step ih hy
theorem Cn.symm {w : List (List Int)} {a b : Int} (h : Cn w a b) : Cn w b a := by
  induction h with
  | refl => exact .refl
  | step _ hy ih => exact (Cn.one (by rw [adj_comm]; exact hy)).trans ih
theorem Cn.range {w : List (List Int)} (hw : Wb w) {a b : Int} (h : Cn w a b) (ha : 0 ≤ a ∧ a < w.length) : 0 ≤ b ∧ b < w.length := by
  cases h with
  | refl => exact ha
  | step _ hy => exact (adj_range hw hy).2
noncomputable def cnB (w : List (List Int)) (x y : Int) : Bool := @decide (Cn w x y) (Classical.propDecidable _)
theorem cnB_iff {w : List (List Int)} {x y : Int} : cnB w x y = true ↔ Cn w x y := by
  unfold cnB
  exact @decide_eq_true_iff _ (Classical.propDecidable _)
/-- the things below n -/
def thg (n : Nat) : List Int := (List.range n).map fun (j : Nat) => (j : Int)
theorem thg_mem {n : Nat} {x : Int} : x ∈ thg n ↔ 0 ≤ x ∧ x < n := by
  unfold thg
  rw [List.mem_map]
  exact ⟨fun ⟨j, h1, h2⟩ => by have := List.mem_range.mp h1; omega, fun ⟨h0, h1⟩ => ⟨x.toNat, List.mem_range.mpr (by omega), by omega⟩⟩
theorem thg_asc (n : Nat) : (thg n).Pairwise (· < ·) := by
  unfold thg
  rw [List.pairwise_map]
  exact List.pairwise_lt_range.imp fun h => by omega
theorem thg_succ (n : Nat) : thg (n + 1) = thg n ++ [(n : Int)] := by
  unfold thg
  rw [List.range_succ, List.map_append]
  rfl
theorem thg_len (n : Nat) : (thg n).length = n := by
  unfold thg
  rw [List.length_map, List.length_range]
/-- the piece of a thing -/
noncomputable def cls (w : List (List Int)) (t : Int) : List Int := (thg w.length).filter (cnB w t)
theorem cls_mem {w : List (List Int)} {t x : Int} : x ∈ cls w t ↔ (0 ≤ x ∧ x < w.length) ∧ Cn w t x := by
  unfold cls
  rw [List.mem_filter, thg_mem, cnB_iff]
theorem cls_asc (w : List (List Int)) (t : Int) : (cls w t).Pairwise (· < ·) := List.Pairwise.filter _ (thg_asc _)
theorem cls_len (w : List (List Int)) (t : Int) : (cls w t).length ≤ w.length := by
  have := List.length_filter_le (cnB w t) (thg w.length)
  rw [thg_len] at this
  exact this
/-- the least thing of its piece -/
noncomputable def rep (w : List (List Int)) (t : Int) : Bool := @decide (∀ s : Int, 0 ≤ s → Cn w s t → t ≤ s) (Classical.propDecidable _)
theorem rep_iff {w : List (List Int)} {t : Int} : rep w t = true ↔ ∀ s : Int, 0 ≤ s → Cn w s t → t ≤ s := by
  unfold rep
  exact @decide_eq_true_iff _ (Classical.propDecidable _)
/-- the pieces, from the things below i -/
noncomputable def pcsU (w : List (List Int)) (i : Nat) : List (List Int) := ((thg i).filter (rep w)).map (cls w)
noncomputable def pcs (w : List (List Int)) : List (List Int) := pcsU w w.length
theorem pcsU_yes {w : List (List Int)} {i : Nat} (h : rep w i = true) : pcsU w (i + 1) = pcsU w i ++ [cls w i] := by
  unfold pcsU
  rw [thg_succ, List.filter_append, List.filter_cons_of_pos h, List.map_append]
  rfl
theorem pcsU_no {w : List (List Int)} {i : Nat} (h : ¬ rep w i = true) : pcsU w (i + 1) = pcsU w i := by
  unfold pcsU
  rw [thg_succ, List.filter_append, List.filter_cons_of_neg h, List.map_append]
  simp
theorem pcsU_len (w : List (List Int)) (i : Nat) : (pcsU w i).length ≤ i := by
  unfold pcsU
  rw [List.length_map]
  have := List.length_filter_le (rep w) (thg i)
  rw [thg_len] at this
  exact this
theorem pcs_row {w : List (List Int)} {r : List Int} (h : r ∈ pcs w) : r.length ≤ w.length := by
  unfold pcs pcsU at h
  obtain ⟨t, _, rfl⟩ := List.mem_map.mp h
  exact cls_len w t

/-- a forest: a thing is tied to at most one thing of each piece before it -/
def Fst (w : List (List Int)) : Prop := ∀ (t : Nat) r, w[t]? = some r → r.Pairwise fun a b => ¬ Cn (w.take t) a b
section
variable {w : List (List Int)} {r : List Int}
theorem snoc_lo {b : Int} (h : b < w.length) : (w ++ [r]).getD b.toNat [] = w.getD b.toNat [] ∨ b.toNat = w.length := by
  by_cases c : b.toNat < w.length
  · left
    rw [List.getD_eq_getElem?_getD, List.getD_eq_getElem?_getD, List.getElem?_append_left c]
  · right; omega
theorem snoc_hi : (w ++ [r]).getD w.length [] = r := by
  rw [List.getD_eq_getElem?_getD, List.getElem?_append_right (Nat.le_refl _), Nat.sub_self]
  rfl
theorem snoc_get {b : Nat} (h : b < w.length) : (w ++ [r]).getD b [] = w.getD b [] := by
  rw [List.getD_eq_getElem?_getD, List.getD_eq_getElem?_getD, List.getElem?_append_left h]
theorem adj_snoc_lo {a b : Int} (ha : 0 ≤ a ∧ a < w.length) (hb : 0 ≤ b ∧ b < w.length) : adj (w ++ [r]) a b = adj w a b := by
  unfold adj
  rw [snoc_get (by omega), snoc_get (by omega)]
theorem adj_snoc_hi (hw : Wb w) (hr : ∀ x ∈ r, 0 ≤ x ∧ x < w.length) {a : Int} (ha : 0 ≤ a ∧ a < w.length) : adj (w ++ [r]) a (w.length : Int) = true ↔ a ∈ r := by
  rw [adj_iff, Int.toNat_natCast, snoc_hi, snoc_get (by omega)]
  refine ⟨fun z => z.resolve_right fun z => ?_, .inl⟩
  have := hw.mem_lt z
  omega
theorem Cn.mono_snoc (hw : Wb w) {a b : Int} (h : Cn w a b) : Cn (w ++ [r]) a b := by
  induction h with
  | refl => exact .refl
  | step _ hy ih =>
    have q := adj_range hw hy
    exact .step ih (by rw [adj_snoc_lo q.1 q.2]; exact hy)
theorem cn_snoc_aux (hw : Wb w) (hr : ∀ x ∈ r, 0 ≤ x ∧ x < w.length) {x y : Int} (hx : 0 ≤ x ∧ x < w.length) (h : Cn (w ++ [r]) x y) :
    ((0 ≤ y ∧ y < w.length) ∧ (Cn w x y ∨ (∃ a ∈ r, Cn w x a) ∧ ∃ b ∈ r, Cn w y b)) ∨ (y = w.length ∧ ∃ a ∈ r, Cn w x a) := by
  induction h with
  | refl => exact .inl ⟨hx, .inl .refl⟩
  | @step y z _ hy ih =>
    have rz : (0 ≤ z ∧ z < w.length) ∨ z = w.length := by
      have q : z.toNat < (w ++ [r]).length := by
        rcases adj_iff.mp hy with q | q
        · rw [List.getD_eq_getElem?_getD] at q
          by_cases c : z.toNat < (w ++ [r]).length
          · exact c
          · rw [List.getElem?_eq_none (by omega)] at q; simp at q
        · by_cases c : y.toNat < w.length
          · rw [snoc_get c] at q
            have := hw.mem_lt q
            rw [List.length_append]; omega
          · by_cases c2 : y.toNat = w.length
            · rw [c2, snoc_hi] at q
              have := hr z q
              rw [List.length_append]; omega
            · rw [List.getD_eq_getElem?_getD, List.getElem?_eq_none (by rw [List.length_append]; simp; omega)] at q
              simp at q
      have q0 : 0 ≤ z := by
        rcases adj_iff.mp hy with q | q
        · by_cases c : z.toNat < w.length
          · rw [snoc_get c] at q
            have := hw.mem_lt q
            omega
          · rw [List.length_append] at *
            by_cases c2 : z.toNat = w.length
            · omega
            · simp at *; omega
        · by_cases c : y.toNat < w.length
          · rw [snoc_get c] at q
            exact (hw.mem_lt q).1
          · by_cases c2 : y.toNat = w.length
            · rw [c2, snoc_hi] at q
              exact (hr z q).1
            · rw [List.getD_eq_getElem?_getD, List.getElem?_eq_none (by rw [List.length_append]; simp; omega)] at q
              simp at q
      rw [List.length_append] at q
      simp at q
      omega
    rcases ih with ⟨ry, ih⟩ | ⟨ey, a, ha, ca⟩
    · rcases rz with rz | ez
      · rw [adj_snoc_lo ry rz] at hy
        refine .inl ⟨rz, ?_⟩
        rcases ih with ih | ⟨ia, b, hb, cb⟩
        · exact .inl (.step ih hy)
        · exact .inr ⟨ia, b, hb, (Cn.one (by rw [adj_comm]; exact hy)).trans cb⟩
      · subst ez
        have m := (adj_snoc_hi hw hr ry).mp hy
        refine .inr ⟨rfl, ?_⟩
        rcases ih with ih | ⟨ia, _⟩
        · exact ⟨y, m, ih⟩
        · exact ia
    · subst ey
      rcases rz with rz | ez
      · rw [adj_comm] at hy
        have m := (adj_snoc_hi hw hr rz).mp hy
        exact .inl ⟨rz, .inr ⟨⟨a, ha, ca⟩, z, m, .refl⟩⟩
      · exact .inr ⟨ez, a, ha, ca⟩
theorem cn_snoc (hw : Wb w) (hr : ∀ x ∈ r, 0 ≤ x ∧ x < w.length) {x y : Int} (hx : 0 ≤ x ∧ x < w.length) (hy : 0 ≤ y ∧ y < w.length) :
    Cn (w ++ [r]) x y ↔ Cn w x y ∨ (∃ a ∈ r, Cn w x a) ∧ ∃ b ∈ r, Cn w y b := by
  constructor
  · intro h
    rcases cn_snoc_aux hw hr hx h with ⟨_, z⟩ | ⟨z, _⟩
    · exact z
    · omega
  · rintro (h | ⟨⟨a, ha, ca⟩, b, hb, cb⟩)
    · exact h.mono_snoc hw
    · have h1 := (adj_snoc_hi hw hr (hr a ha)).mpr ha
      have h2 := (adj_snoc_hi hw hr (hr b hb)).mpr hb
      exact ((Cn.mono_snoc hw ca).trans (Cn.one h1)).trans ((Cn.one (by rw [adj_comm]; exact h2)).trans (Cn.mono_snoc hw cb).symm)
theorem cn_snoc_hi (hw : Wb w) (hr : ∀ x ∈ r, 0 ≤ x ∧ x < w.length) {x : Int} (hx : 0 ≤ x ∧ x < w.length) :
    Cn (w ++ [r]) x (w.length : Int) ↔ ∃ a ∈ r, Cn w x a := by
  constructor
  · intro h
    rcases cn_snoc_aux hw hr hx h with ⟨z, _⟩ | ⟨_, z⟩
    · omega
    · exact z
  · rintro ⟨a, ha, ca⟩
    exact (Cn.mono_snoc hw ca).trans (Cn.one ((adj_snoc_hi hw hr (hr a ha)).mpr ha))
end
/-- labels that tell the pieces -/
structure LbC (w : List (List Int)) (L : List Int) : Prop where
  len : L.length = w.length
  lt : ∀ x ∈ L, 0 ≤ x ∧ x < w.length
  iff : ∀ x y : Nat, x < w.length → y < w.length → (L.getD x 0 = L.getD y 0 ↔ Cn w x y)
theorem LbC.nil : LbC [] [] := ⟨rfl, fun x h => by simp at h, fun x y h => by simp at h⟩
theorem LbC.mem {w : List (List Int)} {L : List Int} (h : LbC w L) {x : Nat} (hx : x < w.length) : L.getD x 0 ∈ L := by
  rw [List.getD_eq_getElem?_getD, List.getElem?_eq_getElem (show x < L.length by rw [h.len]; exact hx)]
  exact List.getElem_mem _
/-- the labels behind a further thing -/
def newL (L : List Int) (i : Int) (J : List Int) : List Int := (L.map fun v => if v ∈ J then i else v) ++ [i]
theorem LbC.joined {w : List (List Int)} {L : List Int} {r : List Int} (h : LbC w L) (hr : ∀ x ∈ r, 0 ≤ x ∧ x < w.length) {x : Nat} (hx : x < w.length) : L.getD x 0 ∈ r.map (fun o => L.getD o.toNat 0) ↔ ∃ a ∈ r, Cn w x a := by
  rw [List.mem_map]
  constructor
  · rintro ⟨a, ha, e⟩
    have ra := hr a ha
    have := (h.iff x a.toNat hx (by omega)).mp e.symm
    rw [show ((a.toNat : Nat) : Int) = a by omega] at this
    exact ⟨a, ha, this⟩
  · rintro ⟨a, ha, c⟩
    have ra := hr a ha
    refine ⟨a, ha, ((h.iff x a.toNat hx (by omega)).mpr ?_).symm⟩
    rw [show ((a.toNat : Nat) : Int) = a by omega]
    exact c
theorem LbC.snoc {w : List (List Int)} {L : List Int} {r : List Int} (h : LbC w L) (hw : Wb w) (hr : ∀ x ∈ r, 0 ≤ x ∧ x < w.length) :
    LbC (w ++ [r]) (newL L (w.length : Nat) (r.map fun o => L.getD o.toNat 0)) := by
  have hl : (w ++ [r]).length = w.length + 1 := by rw [List.length_append]; rfl
  have g1 : ∀ x : Nat, x < w.length → (newL L (w.length : Nat) (r.map fun o => L.getD o.toNat 0)).getD x 0 = if L.getD x 0 ∈ (r.map fun o => L.getD o.toNat 0) then (w.length : Int) else L.getD x 0 := fun x hx => by
    have hx' : x < L.length := by rw [h.len]; exact hx
    unfold newL
    rw [List.getD_eq_getElem?_getD, List.getElem?_append_left (by rw [List.length_map]; exact hx'), List.getElem?_map, List.getD_eq_getElem?_getD, List.getElem?_eq_getElem hx']
    rfl
  have g2 : (newL L (w.length : Nat) (r.map fun o => L.getD o.toNat 0)).getD w.length 0 = (w.length : Int) := by
    unfold newL
    rw [List.getD_eq_getElem?_getD, List.getElem?_append_right (by rw [List.length_map, h.len]; exact Nat.le_refl _), List.length_map, h.len, Nat.sub_self]
    rfl
  have ne : ∀ x : Nat, x < w.length → L.getD x 0 ≠ (w.length : Int) := fun x hx e => by
    have := h.lt _ (h.mem hx)
    omega
  have jn : ∀ x : Nat, x < w.length → (L.getD x 0 ∈ (r.map fun o => L.getD o.toNat 0) ↔ ∃ a ∈ r, Cn w x a) := fun x hx => h.joined hr hx
  refine ⟨by unfold newL; rw [List.length_append, List.length_map, h.len, hl]; rfl, fun x hx => ?_, fun x y hx hy => ?_⟩
  · unfold newL at hx
    rw [hl]
    rcases List.mem_append.mp hx with z | z
    · obtain ⟨v, hv, rfl⟩ := List.mem_map.mp z
      have := h.lt v hv
      split <;> omega
    · rw [List.mem_singleton.mp z]; omega
  · rw [hl] at hx hy
    by_cases cx : x < w.length
    · by_cases cy : y < w.length
      · rw [g1 x cx, g1 y cy, cn_snoc hw hr (by omega) (by omega), ← h.iff x y cx cy, ← jn x cx, ← jn y cy]
        by_cases dx : L.getD x 0 ∈ (r.map fun o => L.getD o.toNat 0)
        · rw [if_pos dx]
          by_cases dy : L.getD y 0 ∈ (r.map fun o => L.getD o.toNat 0)
          · rw [if_pos dy]
            exact ⟨fun _ => .inr ⟨dx, dy⟩, fun _ => rfl⟩
          · rw [if_neg dy]
            refine ⟨fun e => absurd e.symm (ne y cy), fun z => ?_⟩
            rcases z with z | z
            · rw [z] at dx; exact absurd dx dy
            · exact absurd z.2 dy
        · rw [if_neg dx]
          by_cases dy : L.getD y 0 ∈ (r.map fun o => L.getD o.toNat 0)
          · rw [if_pos dy]
            refine ⟨fun e => absurd e (ne x cx), fun z => ?_⟩
            rcases z with z | z
            · rw [← z] at dy; exact absurd dy dx
            · exact absurd z.1 dx
          · rw [if_neg dy]
            exact ⟨.inl, fun z => z.resolve_right fun q => dx q.1⟩
      · have ey : y = w.length := by omega
        subst ey
        rw [g1 x cx, g2, cn_snoc_hi hw hr (by omega), ← jn x cx]
        by_cases dx : L.getD x 0 ∈ (r.map fun o => L.getD o.toNat 0)
        · rw [if_pos dx]; exact ⟨fun _ => dx, fun _ => rfl⟩
        · rw [if_neg dx]; exact ⟨fun e => absurd e (ne x cx), fun z => absurd z dx⟩
    · have ex : x = w.length := by omega
      subst ex
      by_cases cy : y < w.length
      · rw [g1 y cy, g2]
        have : Cn (w ++ [r]) (w.length : Int) y ↔ ∃ a ∈ r, Cn w y a := ⟨fun z => (cn_snoc_hi hw hr (by omega)).mp z.symm, fun z => ((cn_snoc_hi hw hr (by omega)).mpr z).symm⟩
        rw [this, ← jn y cy]
        by_cases dy : L.getD y 0 ∈ (r.map fun o => L.getD o.toNat 0)
        · rw [if_pos dy]; exact ⟨fun _ => dy, fun _ => rfl⟩
        · rw [if_neg dy]; exact ⟨fun e => absurd e.symm (ne y cy), fun z => absurd z dy⟩
      · have ey : y = w.length := by omega
        subst ey
        exact ⟨fun _ => .refl, fun _ => rfl⟩
theorem Fst.snoc {w : List (List Int)} {r : List Int} (h : Fst w) (hr : r.Pairwise fun a b => ¬ Cn w a b) : Fst (w ++ [r]) := fun t s e => by
  by_cases c : t < w.length
  · rw [List.getElem?_append_left c] at e
    rw [List.take_append_of_le_length (by omega)]
    exact h t s e
  · rw [List.getElem?_append_right (by omega)] at e
    have z : t - w.length = 0 := by
      cases q : t - w.length with
      | zero => rfl
      | succ m => rw [q] at e; simp at e
    rw [z] at e
    simp at e
    subst e
    have : t = w.length := by omega
    subst this
    rw [List.take_append_of_le_length (Nat.le_refl _), List.take_length]
    exact hr
theorem Fst.init {w : List (List Int)} {r : List Int} (h : Fst (w ++ [r])) : Fst w ∧ r.Pairwise fun a b => ¬ Cn w a b := by
  refine ⟨fun t s e => ?_, ?_⟩
  · have ht := (List.getElem?_eq_some_iff.mp e).1
    have := h t s (by rw [List.getElem?_append_left ht]; exact e)
    rw [List.take_append_of_le_length (by omega)] at this
    exact this
  · have := h w.length r (by rw [List.getElem?_append_right (Nat.le_refl _), Nat.sub_self]; rfl)
    rw [List.take_append_of_le_length (Nat.le_refl _), List.take_length] at this
    exact this
theorem Wb.init {w : List (List Int)} {r : List Int} (h : Wb (w ++ [r])) : Wb w ∧ r.Pairwise (· < ·) ∧ ∀ x ∈ r, 0 ≤ x ∧ x < w.length := by
  refine ⟨fun t s e => h t s (by rw [List.getElem?_append_left (List.getElem?_eq_some_iff.mp e).1]; exact e), ?_⟩
  exact h w.length r (by rw [List.getElem?_append_right (Nat.le_refl _), Nat.sub_self]; rfl)
theorem Wb.take {w : List (List Int)} (h : Wb w) (t : Nat) : Wb (w.take t) := fun s r e => h s r (by
  rw [List.getElem?_take] at e
  split at e
  · exact e
  · cases e)
noncomputable def fstB (w : List (List Int)) : Bool := @decide (Fst w) (Classical.propDecidable _)
theorem fstB_yes {w : List (List Int)} (h : Fst w) : fstB w = true := by
  unfold fstB
  exact (@decide_eq_true_iff _ (Classical.propDecidable _)).mpr h
theorem fstB_no {w : List (List Int)} (h : ¬ Fst w) : fstB w = false := by
  unfold fstB
  exact (@decide_eq_false_iff_not _ (Classical.propDecidable _)).mpr h
theorem dd_le (l : List Int) : (dd l).length ≤ l.length := by
  induction l with
  | nil => simp [dd]
  | cons x l ih =>
    unfold dd
    split
    · rw [List.length_cons]; omega
    · rw [List.length_cons, List.length_cons]; omega
theorem dd_lt {l : List Int} : (dd l).length < l.length ↔ ¬ l.Nodup := by
  constructor
  · intro h z
    have := dd_len z (fun x => Iff.rfl)
    omega
  · intro h
    induction l with
    | nil => exact absurd .nil h
    | cons x l ih =>
      unfold dd
      split
      · have := dd_le l
        rw [List.length_cons]; omega
      · rename_i c
        rw [List.nodup_cons] at h
        have := ih fun z => h ⟨c, z⟩
        rw [List.length_cons, List.length_cons]; omega
/-- unlike labels: unlike pieces -/
theorem LbC.nodup_iff {w : List (List Int)} {L r : List Int} (h : LbC w L) (hr : ∀ x ∈ r, 0 ≤ x ∧ x < w.length) : (r.map fun o => L.getD o.toNat 0).Nodup ↔ r.Pairwise fun a b => ¬ Cn w a b := by
  rw [List.nodup_iff_pairwise_ne, List.pairwise_map]
  have key : ∀ a ∈ r, ∀ b ∈ r, (L.getD a.toNat 0 = L.getD b.toNat 0 ↔ Cn w a b) := fun a ha b hb => by
    have h1 := hr a ha
    have h2 := hr b hb
    rw [h.iff a.toNat b.toNat (by omega) (by omega), show ((a.toNat : Nat) : Int) = a by omega, show ((b.toNat : Nat) : Int) = b by omega]
  exact ⟨fun z => z.imp_of_mem fun {a b} ha hb n c => n ((key a ha b hb).mpr c), fun z => z.imp_of_mem fun {a b} ha hb n c => n ((key a ha b hb).mp c)⟩
theorem adj_mono {w : List (List Int)} {r : List Int} (hw : Wb w) {x y : Int} (e : adj w x y = true) : adj (w ++ [r]) x y = true := by
  have q := adj_range hw e
  rw [adj_snoc_lo q.1 q.2]
  exact e
theorem Wb.pre {w u : List (List Int)} (h : Wb (w ++ u)) : Wb w := fun t r e => h t r (by rw [List.getElem?_append_left (List.getElem?_eq_some_iff.mp e).1]; exact e)
theorem adj_pre {w : List (List Int)} : ∀ {post : List (List Int)}, Wb (w ++ post) → ∀ {x y : Int}, adj w x y = true → adj (w ++ post) x y = true
  | [], _, _, _, h => by rw [List.append_nil]; exact h
  | r :: post, hw, x, y, h => by
    have e : w ++ r :: post = (w ++ [r]) ++ post := by simp
    rw [e] at hw ⊢
    have hw1 : Wb (w ++ [r]) := hw.pre
    exact adj_pre hw (adj_mono hw1.pre h)
theorem Cn.pre {w post : List (List Int)} (h : Wb (w ++ post)) {x y : Int} (c : Cn w x y) : Cn (w ++ post) x y := by
  induction c with
  | refl => exact .refl
  | step _ e ih => exact .step ih (adj_pre h e)

/-- two sides: tied things are on unlike ones -/
def Sd (w : List (List Int)) (f : Int → Bool) : Prop := ∀ x y, adj w x y = true → f x ≠ f y
theorem bool_ne {a b c : Bool} (h : a ≠ b) : (a = c ↔ b ≠ c) := by cases a <;> cases b <;> cases c <;> simp_all
theorem Sd.cn {w : List (List Int)} {f g : Int → Bool} (h : Sd w f) (k : Sd w g) {x y : Int} (c : Cn w x y) : (f x = f y ↔ g x = g y) := by
  induction c with
  | refl => simp
  | @step y z _ e ih =>
    have h1 := h y z e
    have h2 := k y z e
    revert h1 h2 ih
    cases f x <;> cases f y <;> cases f z <;> cases g x <;> cases g y <;> cases g z <;> simp
section
variable {w : List (List Int)} {r : List Int} {f : Int → Bool}
theorem Sd.init (h : Sd (w ++ [r]) f) (hw : Wb w) : Sd w f := fun x y e => h x y (adj_mono hw e)
theorem Sd.tie (h : Sd (w ++ [r]) f) (hw : Wb w) (hr : ∀ x ∈ r, 0 ≤ x ∧ x < w.length) {o : Int} (ho : o ∈ r) : f o ≠ f w.length := h o _ ((adj_snoc_hi hw hr (hr o ho)).mpr ho)
theorem Sd.snoc (h : Sd w f) (hw : Wb w) (ha : r.Pairwise (· < ·)) (hr : ∀ x ∈ r, 0 ≤ x ∧ x < w.length) (ht : ∀ o ∈ r, f o ≠ f w.length) : Sd (w ++ [r]) f := fun x y e => by
  have rg := adj_range (hw.snoc ha hr) e
  rw [List.length_append, List.length_singleton] at rg
  by_cases cx : x < w.length
  · by_cases cy : y < w.length
    · rw [adj_snoc_lo ⟨rg.1.1, cx⟩ ⟨rg.2.1, cy⟩] at e
      exact h x y e
    · have ey : y = w.length := by omega
      subst ey
      exact ht x ((adj_snoc_hi hw hr ⟨rg.1.1, cx⟩).mp e)
  · have ex : x = w.length := by omega
    subst ex
    rw [adj_comm] at e
    by_cases cy : y < w.length
    · exact (ht y ((adj_snoc_hi hw hr ⟨rg.2.1, cy⟩).mp e)).symm
    · have ey : y = w.length := by omega
      subst ey
      exfalso
      rcases adj_iff.mp e with z | z
      all_goals
        rw [Int.toNat_natCast, snoc_hi] at z
        have := hr _ z
        omega
end
theorem Sd.pre {w post : List (List Int)} {f : Int → Bool} (h : Sd (w ++ post) f) (hw : Wb (w ++ post)) : Sd w f := fun x y e => h x y (adj_pre hw e)
/-! ### lists as functions -/
def fnl (n : Nat) (g : Nat → Int) : List Int := (List.range n).map g
theorem fnl_len {n : Nat} {g : Nat → Int} : (fnl n g).length = n := by unfold fnl; rw [List.length_map, List.length_range]
theorem fnl_get {n i : Nat} {g : Nat → Int} (h : i < n) : (fnl n g)[i]? = some (g i) := by unfold fnl; rw [List.getElem?_map, List.getElem?_range h]; rfl
theorem fnl_getD {n i : Nat} {g : Nat → Int} (h : i < n) : (fnl n g).getD i 0 = g i := by rw [List.getD_eq_getElem?_getD, fnl_get h]; rfl
theorem fnl_at {n i : Nat} {g : Nat → Int} (h : i < n) : atI (zInts (fnl n g)) (i : Int) = some (.int (g i)) := by
  rw [z_atI (by omega) (by rw [fnl_len]; omega), Int.toNat_natCast, fnl_getD h]
theorem fnl_ext {n : Nat} {g k : Nat → Int} (h : ∀ i, i < n → g i = k i) : fnl n g = fnl n k := List.map_congr_left fun i hi => h i (List.mem_range.mp hi)
theorem fnl_set {n i : Nat} {g : Nat → Int} {v : Int} : (fnl n g).set i v = fnl n fun j => if j = i then v else g j := by
  apply List.ext_getElem?
  intro j
  by_cases hj : j < n
  · rw [fnl_get hj]
    by_cases c : j = i
    · subst c
      rw [List.getElem?_set_self (by rw [fnl_len]; exact hj), if_pos rfl]
    · rw [List.getElem?_set_ne (Ne.symm c), fnl_get hj, if_neg c]
  · rw [List.getElem?_eq_none (by rw [List.length_set, fnl_len]; omega), List.getElem?_eq_none (by rw [fnl_len]; omega)]
theorem fnl_snoc {n : Nat} {g : Nat → Int} {v : Int} : fnl n g ++ [v] = fnl (n + 1) fun j => if j < n then g j else v := by
  unfold fnl
  rw [List.range_succ, List.map_append]
  congr 1
  · exact List.map_congr_left fun i hi => by rw [if_pos (List.mem_range.mp hi)]
  · simp
theorem fnl_nil {g : Nat → Int} : fnl 0 g = [] := rfl
theorem row_le {r : List Int} {n : Nat} (h : r.Pairwise (· < ·)) (hr : ∀ x ∈ r, 0 ≤ x ∧ x < n) : r.length ≤ n := by
  rcases asc_len (b := 0) (n := n) h (fun x hx => hr x hx) with z | z
  · omega
  · rw [z]; exact Nat.zero_le _

def sp_law_forest_b : GSp := fun xs O Q _ => ∃ p, ∃ (m : Nat) (sh : Int), xs = [.ref p, .int m, .int sh] ∧ Src O p ∧ m ≤ 200 ∧ 1 ≤ sh ∧ sh ≤ 1000 ∧ ∀ w rs O', Wb w → Fst w → w.length = m → Rws O' rs w → (∀ a ∈ rs, O a = none) → Src O' p → (∀ a, a ∉ rs → a ≠ p → O' a = O a) → Q (.own (.lst (refs rs))) O'
theorem rws_snocE {O : OM} {rs : List Addr} {w : List (List Int)} (h : Rws O rs w) {q : Addr} {r : List Int} (nq : q ∉ rs) (e : O q = some (.lst (zInts r))) : Rws O (rs ++ [q]) (w ++ [r]) := by
  refine ⟨?_, by rw [List.length_append, List.length_append, h.len]; rfl, fun i a s h1 h2 => ?_⟩
  · rw [List.nodup_append]
    exact ⟨h.nd, by simp, fun a ha b hb z => nq (by rw [← List.mem_singleton.mp hb, ← z]; exact ha)⟩
  · by_cases c : i < rs.length
    · rw [List.getElem?_append_left c] at h1
      rw [List.getElem?_append_left (by rw [← h.len]; exact c)] at h2
      exact h.row i a s h1 h2
    · have hi : i < (rs ++ [q]).length := (List.getElem?_eq_some_iff.mp h1).1
      rw [List.length_append, List.length_singleton] at hi
      obtain rfl : i = rs.length := by omega
      rw [List.getElem?_append_right (Nat.le_refl _), Nat.sub_self] at h1
      rw [h.len, List.getElem?_append_right (Nat.le_refl _), Nat.sub_self] at h2
      cases h1
      cases h2
      exact e
def b_law_forest_b_2 : DS :=
    (dSeq (dSetX 8 (dFrz (dLcG (iM (dFrz (dVar 6))) (gN 9) dYes (dFrz (d2 idxF (dVar 4) (dVar 9))) [9])))
    (dIf (dAnd (dTest (d2 (inF true) (d2 idxF (dVar 4) (dVar 7)) (dVar 8))) (dTest (d2 eqF (dCallG sp_law_draw_c (dAcons (dFrz (dVar 0)) (dAcons (dFrz (dVar 2)) dAnil))) (dC (.int 0))))) (dDrop (dBM appF (dVar 6) (dAcons (dFrz (dVar 7)) dAnil))) dNext))
def b_law_forest_b_1 : DS :=
    (dSeq (dSetR 6 (dLst dAnil))
    (dSeq (dFor (iR1 (dVar 5)) (gN 7)
    b_law_forest_b_2 [7])
    (dSeq (dSetX 8 (dFrz (dLcG (iM (dFrz (dVar 6))) (gN 9) dYes (dFrz (d2 idxF (dVar 4) (dVar 9))) [9])))
    (dSeq (dSet 4 (dLc (iL (dFrz (dVar 4))) (gN 10) dYes (dFrz (dIfV (dTest (d2 (inF false) (dVar 10) (dVar 8))) (dVar 5) (dVar 10))) [10]))
    (dSeq (dDrop (dBM appF (dVar 4) (dAcons (dFrz (dVar 5)) dAnil)))
    (dDrop (dBM appF (dVar 3) (dAcons (dMap (dVar 6)) dAnil))))))))
def d_law_forest_b : DS :=
    (dSeq (dSet 3 (dLst dAnil))
    (dSeq (dSet 4 (dLst dAnil))
    (dSeq (dFor (iR1 (dVar 1)) (gN 5)
    b_law_forest_b_1 [5, 6, 7, 8])
    (dRet (dVar 3)))))
def N_law_forest_b : List Str := ["source", "many", "share", "web", "labels", "thing", "ties", "other", "joined", "tied", "label"]
theorem e_law_forest_b {v0 v1 v2 : SV} {O : OM} : gSv N_law_forest_b [v0, v1, v2] O = ⟨[some v0, some v1, some v2, none, none, none, none, none, none, none, none], O⟩ := rfl

theorem l_law_forest_b (xs : List DV) (O : OM) (Q : TV → OM → Prop) (E : DErr → OM → Prop) (h : sp_law_forest_b xs O Q E) : xs.length = 3 := by
  obtain ⟨_, _, _, rfl, _⟩ := h; rfl
theorem h_law_forest_b (xs : List DV) (O : OM) (Q : TV → OM → Prop) (E : DErr → OM → Prop) (h : sp_law_forest_b xs O Q E) :
    ∃ ss, SvOk ss xs ∧ d_law_forest_b (gSv N_law_forest_b ss O) (endsG Q E) := by
  obtain ⟨p, m, sh, rfl, d0, m2, s1, s2, hq⟩ := h
  refine ⟨[.rf p, .val (.int m), .val (.int sh)], .rf (.val (.val .nil)), ?_⟩
  rw [e_law_forest_b]
  unfold d_law_forest_b
  (with_reducible refine go ?_)
  refine ⟨⟨by omega, by omega⟩, ?_⟩
  rw [Int.toNat_natCast]
  refine forR_inv (fun i S => ∃ (w : List (List Int)) (L : List Int) (rs : List Addr) (O' : OM), S = ⟨[some (.rf p), some (.val (.int m)), some (.val (.int sh)), some (.own (.lst (refs rs))), some (.own (.lst (zInts L))), none, none, none, none, none, none], O'⟩ ∧ w.length = i ∧ Wb w ∧ Fst w ∧ LbC w L ∧ Rws O' rs w ∧ (∀ a ∈ rs, O a = none) ∧ Src O' p ∧ (∀ a, a ∉ rs → a ≠ p → O' a = O a)) ⟨[], [], [], O, rfl, rfl, fun t r e => by simp at e, fun t r e => by simp at e, LbC.nil, ⟨.nil, rfl, fun i a r e => by simp at e⟩, fun a h => (List.not_mem_nil h).elim, d0, fun _ _ _ => rfl⟩ ?_ ?_
  · rintro i S1 k hi ⟨w, L, rs, O1, rfl, hw, wb, wf, lb, rw1, fr1, d1, b1⟩ hk
    have ll := lb.len
    (with_reducible refine go ?_)
    rw [Int.zero_add]
    unfold b_law_forest_b_1
    (with_reducible refine go ?_)
    intro q hq0
    have qp : q ≠ p := fun z => by
      obtain ⟨_, _, _, e⟩ := d1
      rw [z, e] at hq0; cases hq0
    have qr : q ∉ rs := fun z => by
      obtain ⟨j, hj⟩ := List.mem_iff_getElem?.mp z
      have jl : j < w.length := by rw [← rw1.len]; exact (List.getElem?_eq_some_iff.mp hj).1
      have := rw1.row j q _ hj (List.getElem?_eq_getElem jl)
      rw [this] at hq0; cases hq0
    (with_reducible refine go ?_)
    refine ⟨⟨by omega, by omega⟩, ?_⟩
    (with_reducible refine go ?_)
    rw [Int.toNat_natCast]
    refine forR_inv (fun j S => ∃ (r : List Int) (o8 : Option SV) (O2 : OM), S = ⟨[some (.rf p), some (.val (.int m)), some (.val (.int sh)), some (.own (.lst (refs rs))), some (.own (.lst (zInts L))), some (.val (.int i)), some (.rf q), none, o8, none, none], O2⟩ ∧ O2 q = some (.lst (zInts r)) ∧ r.Pairwise (· < ·) ∧ (∀ x ∈ r, 0 ≤ x ∧ x < (j : Int)) ∧ (r.map fun o => L.getD o.toNat 0).Nodup ∧ r.length ≤ j ∧ Src O2 p ∧ (∀ a, a ≠ q → a ≠ p → O2 a = O1 a)) ⟨[], none, _, rfl, updO_same, .nil, fun x hx => (List.not_mem_nil hx).elim, .nil, Nat.le_refl _, d1.but (updO_ne (Ne.symm qp)), fun a h1 _ => updO_ne h1⟩ ?_ ?_
    · rintro j S2 k2 hj ⟨r, o8, O2, rfl, oq, ra, rr, rn, rl, d2, b2⟩ hk2
      have ji : j < i := hj
      (with_reducible refine go ?_)
      rw [Int.zero_add]
      unfold b_law_forest_b_2
      (with_reducible refine go ?_)
      rw [oq]
      (with_reducible refine go ?_)
      refine lcG_pure (inj := DV.int) (l := r) (fun _ => true) (fun o => DV.int (L.getD o.toNat 0)) oq (by rw [sizeLine_eq]; omega) ?_ ?_
      · intro o ho K Kf hK _
        have ro := rr o ho
        (with_reducible refine go ?_)
        rw [z_atI ro.1 (by rw [ll, hw]; omega)]
        (with_reducible refine go ?_)
        exact hK rfl _ rfl
      rw [show (r.filter fun _ => true).map (fun o => DV.int (L.getD o.toNat 0)) = zInts (r.map fun o => L.getD o.toNat 0) by rw [List.filter_eq_self.mpr fun _ _ => rfl]; simp [zInts]]
      (with_reducible refine go ?_)
      rw [z_atI (by omega) (by rw [ll, hw]; omega), Int.toNat_natCast]
      (with_reducible refine go ?_)
      (with_reducible refine ite_go (fun c => ?_) (fun c => ?_))
      · (with_reducible refine go ?_)
        exact hk2 _ ⟨r, _, O2, rfl, oq, ra, fun x hx => by have := rr x hx; omega, rn, by omega, d2, b2⟩
      · (with_reducible refine go ?_)
        refine ⟨p, sh, rfl, d2, by omega, by omega, fun x O3 x0 x1 d3 b3 => ?_⟩
        have oq3 : O3 q = some (.lst (zInts r)) := (b3 q qp).trans oq
        have b3' : ∀ a, a ≠ q → a ≠ p → O3 a = O1 a := fun a h1 h2 => (b3 a h2).trans (b2 a h1 h2)
        (with_reducible refine go ?_)
        (with_reducible refine ite_go (fun c2 => ?_) (fun c2 => ?_))
        · (with_reducible refine go ?_)
          rw [oq3]
          (with_reducible refine go ?_)
          rw [oq3]
          (with_reducible refine go ?_)
          refine ⟨by rw [z_len, sizeLine_eq]; omega, ?_⟩
          (with_reducible refine go ?_)
          rw [z_snoc]
          refine hk2 _ ⟨_, _, _, rfl, updO_same, ?_, fun x hx => ?_, ?_, by rw [List.length_append]; simp only [List.length_singleton]; omega, d3.but (updO_ne (Ne.symm qp)), fun a h1 h2 => (updO_ne h1).trans (b3' a h1 h2)⟩
          · rw [List.pairwise_append]
            refine ⟨ra, by simp, fun a ha b hb => ?_⟩
            rw [List.mem_singleton.mp hb]; exact (rr a ha).2
          · rcases List.mem_append.mp hx with z | z
            · have := rr x z; omega
            · rw [List.mem_singleton.mp z]; omega
          · rw [List.map_append, List.nodup_append]
            refine ⟨rn, by simp, fun a ha b hb e => ?_⟩
            have : b = L.getD j 0 := by simpa using hb
            rw [e, this] at ha
            exact c ha
        · (with_reducible refine go ?_)
          exact hk2 _ ⟨r, _, O3, rfl, oq3, ra, fun x hx => by have := rr x hx; omega, rn, by omega, d3, b3'⟩
    rintro S2 ⟨r, o8, O2, rfl, oq, ra, rr, rn, rl, d2, b2⟩
    have rr2 : ∀ x ∈ r, 0 ≤ x ∧ x < (w.length : Int) := by rw [hw]; exact rr
    (with_reducible refine go ?_)
    rw [oq]
    (with_reducible refine go ?_)
    refine lcG_pure (inj := DV.int) (l := r) (fun _ => true) (fun o => DV.int (L.getD o.toNat 0)) oq (by rw [sizeLine_eq]; omega) ?_ ?_
    · intro o ho K Kf hK _
      have ro := rr o ho
      (with_reducible refine go ?_)
      rw [z_atI ro.1 (by rw [ll, hw]; omega)]
      (with_reducible refine go ?_)
      exact hK rfl _ rfl
    rw [show (r.filter fun _ => true).map (fun o => DV.int (L.getD o.toNat 0)) = zInts (r.map fun o => L.getD o.toNat 0) by rw [List.filter_eq_self.mpr fun _ _ => rfl]; simp [zInts]]
    have un := (lb.nodup_iff rr2).mp rn
    have lb2 := lb.snoc wb rr2
    rw [hw] at lb2
    generalize eJ : (r.map fun o => L.getD o.toNat 0) = J at lb2
    (with_reducible refine go ?_)
    refine lc_map (inj := DV.int) (l := L) (fun v => DV.int (if v ∈ J then (i : Int) else v)) (by rw [ll, sizeLine_eq]; omega) ?_ ?_
    · intro v hv K hK
      (with_reducible refine go ?_)
      (with_reducible refine ite_go (fun c => ?_) (fun c => ?_))
      · (with_reducible refine go ?_)
        rw [if_pos c] at hK
        exact hK _ rfl
      · (with_reducible refine go ?_)
        rw [if_neg c] at hK
        exact hK _ rfl
    rw [show L.map (fun v => DV.int (if v ∈ J then (i : Int) else v)) = zInts (L.map fun v => if v ∈ J then (i : Int) else v) by simp [zInts]]
    (with_reducible refine go ?_)
    refine ⟨by rw [z_len, List.length_map, ll, sizeLine_eq]; omega, ?_⟩
    (with_reducible refine go ?_)
    rw [z_snoc]
    refine ⟨by rw [refs_len, rw1.len, hw, sizeLine_eq]; omega, ?_⟩
    (with_reducible refine go ?_)
    rw [refs_snoc]
    have np : ∀ a ∈ rs, a ≠ p := fun a ha z => by
      obtain ⟨_, _, _, e⟩ := d0
      have h0 := fr1 a ha
      rw [z, e] at h0; cases h0
    have keep : ∀ a ∈ rs, O2 a = O1 a := fun a ha => b2 a (fun z => qr (z ▸ ha)) (np a ha)
    exact hk _ ⟨_, newL L i J, _, O2, rfl, by rw [List.length_append, hw]; rfl, wb.snoc ra rr2, wf.snoc un, lb2, rws_snocE (rw1.keep keep) qr oq, fun a ha => by
      rcases List.mem_append.mp ha with z | z
      · exact fr1 a z
      · rw [List.mem_singleton.mp z, ← b1 q qr qp]; exact hq0, d2, fun a h1 h2 => by
      have h3 : a ∉ rs := fun z => h1 (List.mem_append_left _ z)
      exact (b2 a (fun z => h1 (by rw [z]; simp)) h2).trans (b1 a h3 h2)⟩
  · rintro S1 ⟨w, L, rs, O1, rfl, hw, wb, wf, lb, rw1, fr1, d1, b1⟩
    (with_reducible refine go ?_)
    exact ⟨O1, SubO.refl _, hq w rs O1 wb wf hw rw1 fr1 d1 b1⟩

theorem rng_z (n : Nat) : rngD 0 n = zInts ((List.range n).map fun (i : Nat) => (i : Int)) := by
  unfold rngD zInts
  rw [List.map_map]
  apply List.map_congr_left
  intro i _
  show DV.int _ = DV.int _
  rw [Int.zero_add]
theorem z_erase : ∀ (l : List Int) (i : Nat), (zInts l).eraseIdx i = zInts (l.eraseIdx i)
  | [], _ => rfl
  | x :: l, 0 => rfl
  | x :: l, i + 1 => congrArg (DV.int x :: ·) (z_erase l i)
theorem pop_z {l : List Int} {i : Nat} (h : i < l.length) (h2 : l.length ≤ 1000000) : popAtF (zInts l) [.int i] = some (zInts (l.eraseIdx i), .int (l.getD i 0)) := by
  have q : seqIndex? (i : Int) (zInts l).length = some i := by
    rw [seqIndex_of (by omega) (by rw [z_len]; omega), Int.toNat_natCast]
  simp only [popAtF]
  rw [if_pos ⟨by omega, by omega⟩, q]
  simp only []
  have e : (zInts l)[i]? = some (.int (l.getD i 0)) := by
    unfold zInts
    rw [List.getElem?_map, List.getD_eq_getElem?_getD, List.getElem?_eq_getElem h]
    rfl
  rw [e]
  show some _ = some _
  congr 2
  exact z_erase l i
theorem erase_perm : ∀ {l : List Int} {i : Nat}, i < l.length → (l.getD i 0 :: l.eraseIdx i).Perm l
  | [], _, h => by simp at h
  | x :: l, 0, _ => .refl _
  | x :: l, i + 1, h => by
    have h' : i < l.length := by rw [List.length_cons] at h; omega
    have e : (x :: l).getD (i + 1) 0 = l.getD i 0 := by simp [List.getD_eq_getElem?_getD]
    rw [e]
    exact (List.Perm.swap x (l.getD i 0) (l.eraseIdx i)).trans ((erase_perm h').cons x)

def sp_law_web_b : GSp := fun xs O Q _ => ∃ (p : Addr) (n : Nat) (m : Int), xs = [.ref p, .int n, .int m] ∧ Src O p ∧ 0 < m ∧ m ≤ 1000000 ∧ n ≤ 1000 ∧ ∀ (w : List (List Int)) O', Wb w → w.length = n → Src O' p → But p O O' → Q (.own (.lst (zWeb w))) O'
def b_law_web_b_1 : DS :=
    (dDrop (dBM appF (dVar 3) (dAcons (dFrz (dCallG sp_law_chosen (dAcons (dFrz (dVar 0)) (dAcons (dFrz (dLR1 (dVar 4))) (dAcons (dFrz (dVar 2)) dAnil))))) dAnil)))
def d_law_web_b : DS :=
    (dSeq (dSet 3 (dLst dAnil))
    (dSeq (dFor (iR1 (dVar 1)) (gN 4)
    b_law_web_b_1 [4])
    (dRet (dVar 3))))
def N_law_web_b : List Str := ["source", "many", "share", "web", "thing"]
theorem e_law_web_b {v0 v1 v2 : SV} {O : OM} : gSv N_law_web_b [v0, v1, v2] O = ⟨[some v0, some v1, some v2, none, none], O⟩ := rfl

theorem l_law_web_b (xs : List DV) (O : OM) (Q : TV → OM → Prop) (E : DErr → OM → Prop) (h : sp_law_web_b xs O Q E) : xs.length = 3 := by
  obtain ⟨_, _, _, rfl, _⟩ := h; rfl
theorem h_law_web_b (xs : List DV) (O : OM) (Q : TV → OM → Prop) (E : DErr → OM → Prop) (h : sp_law_web_b xs O Q E) :
    ∃ ss, SvOk ss xs ∧ d_law_web_b (gSv N_law_web_b ss O) (endsG Q E) := by
  obtain ⟨p, n, m, rfl, hd, h0, hm, hn, hq⟩ := h
  refine ⟨[.rf p, .val (.int n), .val (.int m)], .rf (.val (.val .nil)), ?_⟩
  rw [e_law_web_b]
  unfold d_law_web_b
  (with_reducible refine go ?_)
  refine ⟨⟨by omega, by omega⟩, ?_⟩
  rw [Int.toNat_natCast]
  refine forR_inv (fun i S => ∃ (w : List (List Int)) (O5 : OM), S = ⟨[some (.rf p), some (.val (.int n)), some (.val (.int m)), some (.own (.lst (zWeb w))), none], O5⟩ ∧ w.length = i ∧ Wb w ∧ Src O5 p ∧ But p O O5) ⟨[], O, rfl, rfl, fun t r e => by simp at e, hd, But.refl⟩ ?_ ?_
  · rintro i S1 k hi ⟨w, O5, rfl, hw, wb, d5, b5⟩ hk
    (with_reducible refine go ?_)
    rw [Int.zero_add]
    unfold b_law_web_b_1
    (with_reducible refine go ?_)
    refine ⟨⟨by omega, by omega⟩, ?_⟩
    (with_reducible refine go ?_)
    rw [Int.toNat_natCast, rng_z]
    refine ⟨p, _, m, rfl, d5, h0, hm, by rw [List.length_map, List.length_range]; omega, fun r O6 hs d6 b6 => ?_⟩
    (with_reducible refine go ?_)
    refine ⟨by rw [w_len, hw, sizeLine_eq]; omega, ?_⟩
    (with_reducible refine go ?_)
    rw [w_snoc]
    have asc : ((List.range i).map fun (j : Nat) => (j : Int)).Pairwise (· < ·) := by
      rw [List.pairwise_map]
      exact List.pairwise_lt_range.imp fun h => by omega
    refine hk _ ⟨w ++ [r], O6, rfl, by rw [List.length_append, hw]; rfl, wb.snoc (asc.sublist hs) fun x hx => ?_, d6, b5.trans b6⟩
    obtain ⟨j, hj, rfl⟩ := List.mem_map.mp (hs.subset hx)
    have := List.mem_range.mp hj
    omega
  · rintro S1 ⟨w, O5, rfl, hw, wb, d5, b5⟩
    (with_reducible refine go ?_)
    exact ⟨O5, SubO.refl _, hq w O5 wb hw d5 b5⟩

def sp_is_integer : PSp := fun xs Q _ => ∃ x b, xs = [x] ∧ isI x = some b ∧ Q (.val (.bl b))
def d_is_integer : DS :=
    (dRet (dAndV (dN isiF (dBcons (dVar 0) (dBcons (dC (.ty "int")) dBnil))) (dNotV (dN isiF (dBcons (dVar 0) (dBcons (dC (.ty "bool")) dBnil))))))
def N_is_integer : List Str := ["value"]
theorem e_is_integer {v0 : DV} : gSt N_is_integer [v0] = ⟨[some (.val v0)], noO⟩ := rfl

theorem l_is_integer (xs : List DV) (Q : TV → Prop) (E : DErr → Prop) (h : sp_is_integer xs Q E) : xs.length = 1 := by
  obtain ⟨_, _, rfl, _⟩ := h; rfl
theorem h_is_integer (xs : List DV) (Q : TV → Prop) (E : DErr → Prop) (h : sp_is_integer xs Q E) : d_is_integer (gSt N_is_integer xs) (ends Q E) := by
  obtain ⟨x, b, rfl, e, h⟩ := h
  rw [e_is_integer]
  unfold d_is_integer
  cases x <;> first | (cases e; done) | skip
  all_goals (cases e; (with_reducible refine go ?_); exact h)

/-- whether these are ascending whole numbers behind b and below n -/
def tiesA (b n : Int) : List DV → Option Bool
  | [] => some true
  | x :: r => match x with
    | .int i => if i ≤ b ∨ n ≤ i then some false else tiesA i n r
    | x => (isI x).bind fun t => if t then none else some false
/-- a value that is no list (of those that are looked at) -/
def noList : DV → Bool
  | .non => true
  | .bl _ => true
  | .int _ => true
  | .str _ => true
  | .tup _ => true
  | .dic _ => true
  | _ => false
def areTiesD (x : DV) (n : Int) : Option Bool := match x with
  | .lst xs => tiesA (-1) n xs
  | x => if noList x then some false else none

def sp_are_ties : PSp := fun xs Q _ => ∃ x n b, xs = [x, .int n] ∧ areTiesD x n = some b ∧ Q (.val (.bl b))
def b_are_ties_1 : DS :=
    (dSeq (dIf (dOr (dNot (dTest (dCall sp_is_integer (dBcons (dVar 3) dBnil)))) (dOr (dTest (d2 leF (dVar 3) (dVar 2))) (dTest (d2 geF (dVar 3) (dVar 1))))) (dRet (dC (.bl false))) dNext)
    (dSetX 2 (dFrz (dVar 3))))
def d_are_ties : DS :=
    (dSeq (dIf (dNot (dTest (dN isiF (dBcons (dVar 0) (dBcons (dC (.ty "list")) dBnil))))) (dRet (dC (.bl false))) dNext)
    (dSeq (dSetX 2 (dFrz (d1 negF (dC (.int 1)))))
    (dSeq (dFor (iL (dFrz (dVar 0))) (gN 3)
    b_are_ties_1 [3])
    (dRet (dC (.bl true))))))
def N_are_ties : List Str := ["value", "size", "before", "thing"]
theorem e_are_ties {v0 v1 : DV} : gSt N_are_ties [v0, v1] = ⟨[some (.val v0), some (.val v1), none, none], noO⟩ := rfl

theorem l_are_ties (xs : List DV) (Q : TV → Prop) (E : DErr → Prop) (h : sp_are_ties xs Q E) : xs.length = 2 := by
  obtain ⟨_, _, _, rfl, _⟩ := h; rfl
theorem f_are_ties (v : DV) (n : Int) (D : DEnds) : ∀ (xs : List DV) (b : Int) (t : Bool) (o : Option SV), tiesA b n xs = some t → (t = true → ∀ b, D.nx ⟨[some (.val v), some (.val (.int n)), some (.val (.int b)), none], noO⟩) →
    (t = false → ∀ S, D.rt (.val (.bl false)) S) → forP (gN 3) b_are_ties_1 [3] xs ⟨[some (.val v), some (.val (.int n)), some (.val (.int b)), none], noO⟩ D
  | [], b, t, o, e, h1, h2 => by
    cases e
    (with_reducible refine go ?_)
    exact h1 rfl b
  | x :: xs, b, t, o, e, h1, h2 => by
    cases x with
    | int i =>
      have e' : (if i ≤ b ∨ n ≤ i then some false else tiesA i n xs) = some t := e
      (with_reducible refine go ?_)
      unfold b_are_ties_1
      (with_reducible refine go ?_)
      refine ⟨_, _, rfl, rfl, .inr rfl, ?_⟩
      (with_reducible refine go ?_)
      by_cases c : i ≤ b ∨ n ≤ i
      · rw [if_pos c] at e'
        cases e'
        (with_reducible refine ite_go (fun c1 => ?_) (fun c1 => ?_))
        · (with_reducible refine go ?_)
          exact h2 rfl _
        · (with_reducible refine go ?_)
          rw [if_pos (by omega)]
          (with_reducible refine go ?_)
          exact h2 rfl _
      · rw [if_neg c] at e'
        rw [if_neg (by omega)]
        (with_reducible refine go ?_)
        rw [if_neg (by omega)]
        (with_reducible refine go ?_)
        exact f_are_ties v n D xs i t none e' h1 h2
    | _ =>
      first
        | (cases e; done)
        | (cases e
           (with_reducible refine go ?_)
           unfold b_are_ties_1
           (with_reducible refine go ?_)
           refine ⟨_, _, rfl, rfl, .inr rfl, ?_⟩
           (with_reducible refine go ?_)
           exact h2 rfl _)
theorem h_are_ties (xs : List DV) (Q : TV → Prop) (E : DErr → Prop) (h : sp_are_ties xs Q E) : d_are_ties (gSt N_are_ties xs) (ends Q E) := by
  obtain ⟨x, n, b, rfl, e, h⟩ := h
  rw [e_are_ties]
  unfold d_are_ties
  cases x with
  | lst xs =>
    (with_reducible refine go ?_)
    refine f_are_ties (.lst xs) n _ xs (-1) b none e (fun hb b' => ?_) (fun hb S => ?_)
    · subst hb
      (with_reducible refine go ?_)
      exact h
    · subst hb
      (with_reducible refine go ?_)
      exact h
  | _ =>
    first
      | (cases e; done)
      | (cases e
         (with_reducible refine go ?_)
         exact h)

def webA (i : Nat) : List DV → Option Bool
  | [] => some true
  | x :: r => match areTiesD x i with
    | some true => webA (i + 1) r
    | some false => some false
    | none => none
def isWebD (x : DV) : Option Bool := match x with
  | .lst xs => webA 0 xs
  | x => if noList x then some false else none
def sp_is_web : PSp := fun xs Q _ => ∃ x b, xs = [x] ∧ isWebD x = some b ∧ Q (.val (.bl b))
def enumF (i : Nat) (xs : List DV) : List DV := (xs.zipIdx i).map fun p => .tup [.int (p.2 : Nat), p.1]
theorem enumF_cons (i : Nat) (x : DV) (xs : List DV) : enumF i (x :: xs) = .tup [.int (i : Nat), x] :: enumF (i + 1) xs := rfl
def b_is_web_1 : DS :=
    (dIf (dNot (dTest (dCall sp_are_ties (dBcons (dVar 2) (dBcons (dVar 1) dBnil))))) (dRet (dC (.bl false))) dNext)
def d_is_web : DS :=
    (dSeq (dIf (dNot (dTest (dN isiF (dBcons (dVar 0) (dBcons (dC (.ty "list")) dBnil))))) (dRet (dC (.bl false))) dNext)
    (dSeq (dFor (iE (dFrz (dVar 0))) (gT 2 (gNs (gN 1) (gNs (gN 2) gN0)))
    b_is_web_1 [1, 2])
    (dRet (dC (.bl true)))))
def N_is_web : List Str := ["value", "thing", "ties"]
theorem e_is_web {v0 : DV} : gSt N_is_web [v0] = ⟨[some (.val v0), none, none], noO⟩ := rfl

theorem l_is_web (xs : List DV) (Q : TV → Prop) (E : DErr → Prop) (h : sp_is_web xs Q E) : xs.length = 1 := by
  obtain ⟨_, _, rfl, _⟩ := h; rfl
theorem tie_tree {x : DV} {n : Int} {b : Bool} (e : areTiesD x n = some b) : ∀ (S : DSt) (k : DV → Prop), k x → onS (tree S (.val x)) k := fun S k h => by
  cases x <;> first | exact h | (cases e; done)
theorem f_is_web (v : DV) (D : DEnds) : ∀ (xs : List DV) (i : Nat) (t : Bool), webA i xs = some t → (t = true → D.nx ⟨[some (.val v), none, none], noO⟩) →
    (t = false → ∀ S, D.rt (.val (.bl false)) S) → forP (gT 2 (gNs (gN 1) (gNs (gN 2) gN0))) b_is_web_1 [1, 2] (enumF i xs) ⟨[some (.val v), none, none], noO⟩ D
  | [], i, t, e, h1, h2 => by
    cases e
    show forP _ _ _ [] _ _
    (with_reducible refine go ?_)
    exact h1 rfl
  | x :: xs, i, t, e, h1, h2 => by
    have e' : (match areTiesD x i with
      | some true => webA (i + 1) xs
      | some false => some false
      | none => none) = some t := e
    rw [enumF_cons]
    (with_reducible refine go ?_)
    refine ⟨rfl, ?_⟩
    (with_reducible refine go ?_)
    refine ⟨rfl, ?_⟩
    unfold b_is_web_1
    (with_reducible refine go ?_)
    cases q : areTiesD x i with
    | none => rw [q] at e'; cases e'
    | some b =>
      rw [q] at e'
      refine tie_tree q _ _ ?_
      (with_reducible refine go ?_)
      refine ⟨x, i, b, rfl, q, .inr rfl, ?_⟩
      cases b with
      | true =>
        (with_reducible refine go ?_)
        exact f_is_web v D xs (i + 1) t e' h1 h2
      | false =>
        cases e'
        (with_reducible refine go ?_)
        exact h2 rfl _
theorem h_is_web (xs : List DV) (Q : TV → Prop) (E : DErr → Prop) (h : sp_is_web xs Q E) : d_is_web (gSt N_is_web xs) (ends Q E) := by
  obtain ⟨x, b, rfl, e, h⟩ := h
  rw [e_is_web]
  unfold d_is_web
  cases x with
  | lst xs =>
    (with_reducible refine go ?_)
    refine f_is_web (.lst xs) _ xs 0 b e (fun hb => ?_) (fun hb S => ?_)
    · subst hb
      (with_reducible refine go ?_)
      exact h
    · subst hb
      (with_reducible refine go ?_)
      exact h
  | _ =>
    first
      | (cases e; done)
      | (cases e
         (with_reducible refine go ?_)
         exact h)

def sp_check_web : PSp := fun xs Q E => ∃ x b, xs = [x] ∧ isWebD x = some b ∧ (b = true → Q (.val .non)) ∧ (b = false → E ⟨"InvalidWeb", none⟩)
def d_check_web : DS :=
    (dIf (dNot (dTest (dCall sp_is_web (dBcons (dVar 0) dBnil)))) (dRaise "InvalidWeb") dNext)
def N_check_web : List Str := ["web"]
theorem e_check_web {v0 : DV} : gSt N_check_web [v0] = ⟨[some (.val v0)], noO⟩ := rfl

theorem l_check_web (xs : List DV) (Q : TV → Prop) (E : DErr → Prop) (h : sp_check_web xs Q E) : xs.length = 1 := by
  obtain ⟨_, _, rfl, _⟩ := h; rfl
theorem web_tree {x : DV} {b : Bool} (e : isWebD x = some b) : ∀ (S : DSt) (k : DV → Prop), k x → onS (tree S (.val x)) k := fun S k h => by
  cases x <;> first | exact h | (cases e; done)
theorem h_check_web (xs : List DV) (Q : TV → Prop) (E : DErr → Prop) (h : sp_check_web xs Q E) : d_check_web (gSt N_check_web xs) (ends Q E) := by
  obtain ⟨x, b, rfl, e, h1, h2⟩ := h
  rw [e_check_web]
  unfold d_check_web
  (with_reducible refine go ?_)
  refine web_tree e _ _ ?_
  (with_reducible refine go ?_)
  refine ⟨x, b, rfl, e, .inr rfl, ?_⟩
  cases b with
  | true => (with_reducible refine go ?_); exact h1 rfl
  | false => (with_reducible refine go ?_); exact h2 rfl

theorem tiesA_z {n : Int} : ∀ {r : List Int} {b : Int}, r.Pairwise (· < ·) → (∀ x ∈ r, b < x ∧ x < n) → tiesA b n (zInts r) = some true
  | [], _, _, _ => rfl
  | i :: r, b, h, hx => by
    rw [List.pairwise_cons] at h
    have h1 := hx i List.mem_cons_self
    show (if i ≤ b ∨ n ≤ i then some false else tiesA i n (zInts r)) = _
    rw [if_neg (by omega)]
    exact tiesA_z h.2 fun y hy => ⟨h.1 y hy, (hx y (List.mem_cons_of_mem _ hy)).2⟩

theorem webA_z : ∀ {w : List (List Int)} {i : Nat}, (∀ (t : Nat) r, w[t]? = some r → r.Pairwise (· < ·) ∧ ∀ x ∈ r, 0 ≤ x ∧ x < i + t) → webA i (zWeb w) = some true
  | [], _, _ => rfl
  | r :: w, i, h => by
    have h0 := h 0 r rfl
    have e : areTiesD (zRow r) (i : Int) = some true := tiesA_z h0.1 fun x hx => by have := h0.2 x hx; omega
    rw [w_cons]
    show (match areTiesD (zRow r) (i : Int) with
      | some true => webA (i + 1) (zWeb w)
      | some false => some false
      | none => none) = _
    rw [e]
    exact webA_z fun t s e => ⟨(h (t + 1) s (by simpa using e)).1, fun x hx => by have := (h (t + 1) s (by simpa using e)).2 x hx; omega⟩
theorem Wb.is {w : List (List Int)} (h : Wb w) : isWebD (.lst (zWeb w)) = some true := webA_z fun t r e => ⟨(h t r e).1, fun x hx => by have := (h t r e).2 x hx; omega⟩

def sp_is_forest : PSp := fun xs Q E => ∃ x, xs = [x] ∧ ((isWebD x = some false ∧ E ⟨"InvalidWeb", none⟩) ∨ ∃ w, x = .lst (zWeb w) ∧ Wb w ∧ w.length ≤ 4000 ∧ Q (.val (.bl (fstB w))))
def b_is_forest_1 : DS :=
    (dSeq (dSetX 4 (dFrz (dLc (iL (dFrz (dVar 3))) (gN 5) dYes (dFrz (d2 idxF (dVar 1) (dVar 5))) [5])))
    (dSeq (dIf (dTest (d2 ltF (d1 lenSetF (dVar 4)) (dN lenF (dBcons (dVar 4) dBnil)))) (dRet (dC (.bl false))) dNext)
    (dSeq (dSet 1 (dLc (iL (dFrz (dVar 1))) (gN 6) dYes (dFrz (dIfV (dTest (d2 (inF false) (dVar 6) (dVar 4))) (dVar 2) (dVar 6))) [6]))
    (dDrop (dBM appF (dVar 1) (dAcons (dFrz (dVar 2)) dAnil))))))
def d_is_forest : DS :=
    (dSeq (dDrop (dCall sp_check_web (dBcons (dVar 0) dBnil)))
    (dSeq (dSet 1 (dLst dAnil))
    (dSeq (dFor (iE (dFrz (dVar 0))) (gT 2 (gNs (gN 2) (gNs (gN 3) gN0)))
    b_is_forest_1 [2, 3, 4])
    (dRet (dC (.bl true))))))
def N_is_forest : List Str := ["web", "labels", "thing", "ties", "joined", "other", "label"]
theorem e_is_forest {v0 : DV} : gSt N_is_forest [v0] = ⟨[some (.val v0), none, none, none, none, none, none], noO⟩ := rfl

theorem l_is_forest (xs : List DV) (Q : TV → Prop) (E : DErr → Prop) (h : sp_is_forest xs Q E) : xs.length = 1 := by
  obtain ⟨_, rfl, _⟩ := h; rfl
theorem h_is_forest (xs : List DV) (Q : TV → Prop) (E : DErr → Prop) (h : sp_is_forest xs Q E) : d_is_forest (gSt N_is_forest xs) (ends Q E) := by
  obtain ⟨x, rfl, h⟩ := h
  rw [e_is_forest]
  unfold d_is_forest
  rcases h with ⟨e, h⟩ | ⟨w, rfl, hw, hl, h⟩
  · (with_reducible refine go ?_)
    refine web_tree e _ _ ?_
    (with_reducible refine go ?_)
    exact ⟨x, false, rfl, e, (fun z => by cases z), fun _ => ⟨.inr rfl, h⟩⟩
  · (with_reducible refine go ?_)
    refine ⟨_, true, rfl, hw.is, fun _ => ⟨.inr rfl, ?_⟩, (fun z => by cases z)⟩
    (with_reducible refine go ?_)
    refine forP_inv (fun i S => ∃ (L : List Int), S = ⟨[some (.val (.lst (zWeb w))), some (.own (.lst (zInts L))), none, none, none, none, none], noO⟩ ∧ LbC (w.take i) L ∧ Fst (w.take i)) ⟨[], rfl, LbC.nil, fun t r e => by simp at e⟩ ?_ ?_
    · rintro i x S1 k e ⟨L, rfl, lb, fs⟩ hk
      obtain ⟨y, e1, rfl⟩ := enumD_at e
      obtain ⟨r, e2, rfl⟩ := w_get e1
      have hi : i < w.length := (List.getElem?_eq_some_iff.mp e2).1
      have tl : (w.take i).length = i := by rw [List.length_take]; omega
      have tk : w.take (i + 1) = w.take i ++ [r] := by rw [List.take_add_one, e2]; rfl
      have hr : ∀ x ∈ r, 0 ≤ x ∧ x < (w.take i).length := fun x hx => by have := (hw i r e2).2 x hx; omega
      have rl := hw.row_len e2
      (with_reducible refine go ?_)
      refine ⟨rfl, ?_⟩
      (with_reducible refine go ?_)
      refine ⟨rfl, ?_⟩
      unfold b_is_forest_1
      (with_reducible refine go ?_)
      refine lc_map (inj := DV.int) (l := r) (fun o => DV.int (L.getD o.toNat 0)) (by rw [sizeLine_eq]; omega) ?_ ?_
      · intro o ho K hK
        have ro := hr o ho
        (with_reducible refine go ?_)
        rw [z_atI ro.1 (by rw [lb.len]; omega)]
        (with_reducible refine go ?_)
        exact hK _ rfl
      have ej : r.map (fun o => DV.int (L.getD o.toNat 0)) = zInts (r.map fun o => L.getD o.toNat 0) := by simp [zInts]
      rw [ej]
      (with_reducible refine go ?_)
      refine ⟨by rw [List.length_map]; omega, ?_⟩
      (with_reducible refine go ?_)
      rw [z_len]
      (with_reducible refine ite_go (fun c => ?_) (fun c => ?_))
      · (with_reducible refine go ?_)
        rw [fstB_no] at h
        · exact h
        · intro f
          have f1 : Fst (w.take (i + 1)) := fun t s e => by
            rw [List.getElem?_take] at e
            split at e
            · have := f t s e
              rw [List.take_take, show min t (i + 1) = t by omega]
              exact this
            · cases e
          rw [tk] at f1
          exact dd_lt.mp (by omega) ((lb.nodup_iff hr).mpr f1.init.2)
      · (with_reducible refine go ?_)
        refine lc_map (inj := DV.int) (l := L) (fun v => DV.int (if v ∈ (r.map fun o => L.getD o.toNat 0) then (i : Int) else v)) (by rw [lb.len, sizeLine_eq]; omega) ?_ ?_
        · intro v hv K hK
          (with_reducible refine go ?_)
          (with_reducible refine ite_go (fun c => ?_) (fun c => ?_))
          · (with_reducible refine go ?_)
            rw [if_pos c] at hK
            exact hK _ rfl
          · (with_reducible refine go ?_)
            rw [if_neg c] at hK
            exact hK _ rfl
        have en : L.map (fun v => DV.int (if v ∈ (r.map fun o => L.getD o.toNat 0) then (i : Int) else v)) = zInts (L.map fun v => if v ∈ (r.map fun o => L.getD o.toNat 0) then (i : Int) else v) := by simp [zInts]
        rw [en]
        (with_reducible refine go ?_)
        refine ⟨by rw [z_len, List.length_map, lb.len, sizeLine_eq]; omega, ?_⟩
        (with_reducible refine go ?_)
        rw [z_snoc]
        refine hk _ ⟨newL L (i : Int) (r.map fun o => L.getD o.toNat 0), rfl, ?_, ?_⟩
        · rw [tk]
          have := lb.snoc (hw.take i) hr
          rw [tl] at this
          exact this
        · rw [tk]
          refine fs.snoc ((lb.nodup_iff hr).mp ?_)
          by_cases n : (r.map fun o => L.getD o.toNat 0).Nodup
          · exact n
          · have := dd_lt.mpr n
            omega
    · rintro S1 ⟨L, rfl, lb, fs⟩
      rw [enumD_len, w_len, List.take_of_length_le (Nat.le_refl _)] at lb fs
      (with_reducible refine go ?_)
      rw [fstB_yes fs] at h
      exact h

def sp_check_size : PSp := fun xs Q E => ∃ i : Int, xs = [.int i] ∧ ((0 ≤ i ∧ i ≤ 5) → Q (.val .non)) ∧ (¬ (0 ≤ i ∧ i ≤ 5) → E ⟨"InvalidSize", none⟩)
def d_check_size : DS :=
    (dIf (dOr (dNot (dTest (dN isiF (dBcons (dVar 0) (dBcons (dC (.ty "int")) dBnil))))) (dOr (dTest (dN isiF (dBcons (dVar 0) (dBcons (dC (.ty "bool")) dBnil)))) (dNot (dTest (dChain leF leF (dC (.int 0)) (dVar 0) (dC (.int 5))))))) (dRaise "InvalidSize") dNext)
def N_check_size : List Str := ["size"]
theorem e_check_size {v0 : DV} : gSt N_check_size [v0] = ⟨[some (.val v0)], noO⟩ := rfl

theorem l_check_size (xs : List DV) (Q : TV → Prop) (E : DErr → Prop) (h : sp_check_size xs Q E) : xs.length = 1 := by
  obtain ⟨_, rfl, _⟩ := h; rfl
theorem h_check_size (xs : List DV) (Q : TV → Prop) (E : DErr → Prop) (h : sp_check_size xs Q E) : d_check_size (gSt N_check_size xs) (ends Q E) := by
  obtain ⟨i, rfl, h1, h2⟩ := h
  rw [e_check_size]
  unfold d_check_size
  (with_reducible refine go ?_)
  by_cases c : 0 ≤ i
  · rw [if_pos c]
    (with_reducible refine go ?_)
    (with_reducible refine ite_go (fun c2 => ?_) (fun c2 => ?_))
    · (with_reducible refine go ?_)
      exact h1 ⟨c, c2⟩
    · (with_reducible refine go ?_)
      exact h2 fun z => c2 z.2
  · rw [if_neg c]
    (with_reducible refine go ?_)
    exact h2 fun z => c z.1

def nbA (w : List (List Int)) (i a : Nat) : List Int := (if a < i then w.getD a [] else []) ++ ((List.range i).filter fun j => decide ((a : Int) ∈ w.getD j [])).map fun (j : Nat) => (j : Int)
/-- the neighbours of all things -/
def nbr (w : List (List Int)) : List (List Int) := (List.range w.length).map (nbA w w.length)
theorem Wb.no {w : List (List Int)} (h : Wb w) {a j : Nat} (hj : j ≤ a) : ¬ (a : Int) ∈ w.getD j [] := fun z => by
  rw [List.getD_eq_getElem?_getD] at z
  cases q : w[j]? with
  | none => rw [q] at z; simp at z
  | some r =>
    rw [q] at z
    have := ((h j r q).2 _ z).2
    omega
theorem nbA_end {w : List (List Int)} (h : Wb w) {i a : Nat} {r : List Int} (e : w[i]? = some r) : nbA w i a ++ (if a = i then r else []) ++ (if (a : Int) ∈ r then [(i : Int)] else []) = nbA w (i + 1) a := by
  have er : w.getD i [] = r := by rw [List.getD_eq_getElem?_getD, e]; rfl
  unfold nbA
  rw [List.range_succ, List.filter_append, List.map_append]
  have step : ([i].filter fun j => decide ((a : Int) ∈ w.getD j [])).map (fun (j : Nat) => (j : Int)) = if (a : Int) ∈ r then [(i : Int)] else [] := by
    by_cases c : (a : Int) ∈ r
    · rw [if_pos c, List.filter_cons_of_pos (by rw [er]; exact decide_eq_true c)]; rfl
    · rw [if_neg c, List.filter_cons_of_neg (by rw [er]; simpa using c)]; rfl
  rw [step]
  by_cases c1 : a = i
  · subst c1
    rw [if_neg (show ¬ a < a by omega), if_pos rfl, if_pos (show a < a + 1 by omega), er]
    have z : (List.range a).filter (fun j => decide ((a : Int) ∈ w.getD j [])) = [] := List.filter_eq_nil_iff.mpr fun j hj => by
      have := h.no (a := a) (j := j) (by have := List.mem_range.mp hj; omega)
      simpa using this
    rw [z]
    have z2 : ¬ (a : Int) ∈ r := by rw [← er]; exact h.no (Nat.le_refl _)
    rw [if_neg z2]
    simp
  · rw [if_neg c1]
    by_cases c2 : a < i
    · rw [if_pos c2, if_pos (show a < i + 1 by omega)]
      simp
    · rw [if_neg c2, if_neg (show ¬ a < i + 1 by omega)]
      simp
theorem nbA_len (w : List (List Int)) (h : Wb w) (i a : Nat) : (nbA w i a).length ≤ a + i := by
  unfold nbA
  rw [List.length_append, List.length_map]
  have h1 := List.length_filter_le (fun j => decide ((a : Int) ∈ w.getD j [])) (List.range i)
  rw [List.length_range] at h1
  have h2 : (if a < i then w.getD a [] else []).length ≤ a := by
    split
    · rw [List.getD_eq_getElem?_getD]
      cases q : w[a]? with
      | none => simp
      | some r => exact h.row_len q
    · simp
  omega
/-- the neighbours of a thing, as the law reckons them -/
theorem nbA_due {w : List (List Int)} (h : Wb w) {t : Nat} (ht : t < w.length) :
    w.getD t [] ++ (((List.range (w.length - (t + 1))).filter fun i => decide ((t : Int) ∈ w.getD (t + 1 + i) [])).map fun (i : Nat) => ((t + 1 + i : Nat) : Int)) = nbA w w.length t := by
  unfold nbA
  rw [if_pos ht]
  congr 1
  have e : List.range w.length = List.range (t + 1) ++ (List.range (w.length - (t + 1))).map (t + 1 + ·) := by
    rw [← List.range_add]
    congr 1
    omega
  rw [e, List.filter_append, List.map_append]
  have z : (List.range (t + 1)).filter (fun j => decide ((t : Int) ∈ w.getD j [])) = [] := List.filter_eq_nil_iff.mpr fun j hj => by
    have := h.no (a := t) (j := j) (by have := List.mem_range.mp hj; omega)
    simpa using this
  rw [z, List.filter_map, List.map_map]
  rfl

def sp_all_neighbours : GSp := fun xs O Q _ => ∃ w, xs = [.lst (zWeb w)] ∧ Wb w ∧ w.length ≤ 100000 ∧ ∀ rs O', RwF O' rs w.length (nbA w w.length) → (∀ a ∈ rs, O a = none) → (∀ a, a ∉ rs → O' a = O a) → Q (.own (.lst (refs rs))) O'
def b_all_neighbours_2 : DS :=
    (dSeq (dDrop (dBM appF (d2 idxF (dVar 1) (dVar 3)) (dAcons (dFrz (dVar 4)) dAnil)))
    (dDrop (dBM appF (d2 idxF (dVar 1) (dVar 4)) (dAcons (dFrz (dVar 3)) dAnil))))
def b_all_neighbours_1 : DS :=
    (dFor (iL (dFrz (dVar 2))) (gN 4)
    b_all_neighbours_2 [4])
def d_all_neighbours : DS :=
    (dSeq (dSet 1 (dLc (iL (dFrz (dVar 0))) (gN 2) dYes (dMap (dLst dAnil)) [2]))
    (dSeq (dFor (iE (dFrz (dVar 0))) (gT 2 (gNs (gN 3) (gNs (gN 2) gN0)))
    b_all_neighbours_1 [3, 2, 4])
    (dRet (dVar 1))))
def N_all_neighbours : List Str := ["web", "rows", "ties", "thing", "other"]
theorem e_all_neighbours {v0 : SV} {O : OM} : gSv N_all_neighbours [v0] O = ⟨[some v0, none, none, none, none], O⟩ := rfl

theorem l_all_neighbours (xs : List DV) (O : OM) (Q : TV → OM → Prop) (E : DErr → OM → Prop) (h : sp_all_neighbours xs O Q E) : xs.length = 1 := by
  obtain ⟨_, rfl, _⟩ := h; rfl
theorem h_all_neighbours (xs : List DV) (O : OM) (Q : TV → OM → Prop) (E : DErr → OM → Prop) (h : sp_all_neighbours xs O Q E) :
    ∃ ss, SvOk ss xs ∧ d_all_neighbours (gSv N_all_neighbours ss O) (endsG Q E) := by
  obtain ⟨w, rfl, hw, hn, hq⟩ := h
  refine ⟨[.val (.lst (zWeb w))], .val .nil, ?_⟩
  rw [e_all_neighbours]
  unfold d_all_neighbours
  (with_reducible refine go ?_)
  refine lcL_inv (inj := zRow) (l := w) (fun pre acc S => ∃ rs O1, acc = refs rs ∧ S = ⟨[some (.val (.lst (zWeb w))), none, none, none, none], O1⟩ ∧ RwF O1 rs pre.length (fun _ => []) ∧ (∀ a ∈ rs, O a = none) ∧ (∀ a, a ∉ rs → O1 a = O a))
    ⟨[], O, rfl, rfl, ⟨.nil, rfl, fun i a h => by simp at h⟩, fun a h => by simp at h, fun a _ => rfl⟩ ?_ ?_
  · rintro pre r post acc S1 k e ⟨rs, O1, rfl, rfl, hr, hf, ho⟩ hk
    (with_reducible refine go ?_)
    intro p hp
    have hl : rs.length < w.length := by rw [hr.len, e, List.length_append, List.length_cons]; omega
    refine ⟨by rw [refs_len, sizeLine_eq]; omega, ?_⟩
    (with_reducible refine go ?_)
    rw [refs_snoc]
    have hpr : p ∉ rs := fun z => by
      obtain ⟨i, hi⟩ := List.mem_iff_getElem?.mp z
      have := hr.row i p hi
      rw [hp] at this; cases this
    refine hk _ _ ⟨rs ++ [p], _, rfl, rfl, ?_, fun a ha => ?_, fun a ha => ?_⟩
    · rw [List.length_append]
      exact (hr.new hp []).congr fun i _ => by simp
    · rcases List.mem_append.mp ha with z | z
      · exact hf a z
      · rw [List.mem_singleton.mp z, ← ho p hpr]; exact hp
    · rw [updO_ne fun z => ha (by rw [z]; simp)]
      exact ho a fun z => ha (List.mem_append_left _ z)
  · rintro acc S1 ⟨rs, O1, rfl, rfl, hr, hf, ho⟩
    (with_reducible refine go ?_)
    refine forP_inv (fun i S => ∃ O1, S = ⟨[some (.val (.lst (zWeb w))), some (.own (.lst (refs rs))), none, none, none], O1⟩ ∧ RwF O1 rs w.length (nbA w i) ∧ (∀ a, a ∉ rs → O1 a = O a)) ⟨O1, rfl, hr.congr fun i _ => by simp [nbA], ho⟩ ?_ ?_
    · rintro i x S1 k e ⟨O2, rfl, h2, ho2⟩ hk
      obtain ⟨y, e1, rfl⟩ := enumD_at e
      obtain ⟨r, e2, rfl⟩ := w_get e1
      have hi : i < w.length := (List.getElem?_eq_some_iff.mp e2).1
      have hz := hw i r e2
      (with_reducible refine go ?_)
      refine ⟨rfl, ?_⟩
      (with_reducible refine go ?_)
      refine ⟨rfl, ?_⟩
      unfold b_all_neighbours_1
      (with_reducible refine go ?_)
      refine forL_inv (inj := DV.int) (l := r) (fun pre S => ∃ O1, S = ⟨[some (.val (.lst (zWeb w))), some (.own (.lst (refs rs))), some (.val (.lst (zInts r))), some (.val (.int (i : Nat))), none], O1⟩ ∧
        RwF O1 rs w.length (fun a => nbA w i a ++ (if a = i then pre else []) ++ (if (a : Int) ∈ pre then [(i : Int)] else [])) ∧ (∀ a, a ∉ rs → O1 a = O a)) ⟨O2, rfl, h2.congr fun a _ => by simp, ho2⟩ ?_ ?_
      · rintro pre o post S1 k2 e3 ⟨O3, rfl, h3, ho3⟩ hk2
        have mo : o ∈ r := by rw [e3]; simp
        obtain ⟨o0, o1⟩ := hz.2 o mo
        obtain ⟨m, rfl⟩ := Int.eq_ofNat_of_zero_le o0
        have hm : m < i := by omega
        have plen : pre.length ≤ i := by
          have := hw.row_len e2
          rw [e3, List.length_append] at this; omega
        have npre : ¬ ((m : Nat) : Int) ∈ pre := fun z => by
          have := hz.1
          rw [e3, List.pairwise_append] at this
          have := this.2.2 _ z _ List.mem_cons_self
          omega
        obtain ⟨a1, b1, c1, d1⟩ := h3.at hi
        (with_reducible refine go ?_)
        unfold b_all_neighbours_2
        (with_reducible refine go ?_)
        rw [d1]
        (with_reducible refine go ?_)
        rw [c1]
        (with_reducible refine go ?_)
        rw [c1]
        (with_reducible refine go ?_)
        have l1 := nbA_len w hw i i
        refine ⟨?_, ?_⟩
        · have e1 : (if (i : Int) ∈ pre then [(i : Int)] else []).length ≤ 1 := by split <;> simp
          rw [z_len, sizeLine_eq, if_pos rfl]
          simp only [List.length_append]
          omega
        (with_reducible refine go ?_)
        have h4 := h3.upd b1 ((nbA w i i ++ (if i = i then pre else []) ++ (if (i : Int) ∈ pre then [(i : Int)] else [])) ++ [(m : Int)])
        obtain ⟨a2, b2, c2, d2⟩ := h4.at (show m < w.length by omega)
        rw [z_snoc] 
        rw [d2]
        (with_reducible refine go ?_)
        rw [c2]
        (with_reducible refine go ?_)
        rw [c2]
        (with_reducible refine go ?_)
        have l2 := nbA_len w hw i m
        refine ⟨?_, ?_⟩
        · have e1 : (if (m : Int) ∈ pre then [(i : Int)] else []).length ≤ 1 := by split <;> simp
          rw [z_len, sizeLine_eq, if_neg (show ¬ m = i by omega), if_neg (show ¬ m = i by omega)]
          simp only [List.length_append, List.length_nil]
          omega
        (with_reducible refine go ?_)
        rw [z_snoc]
        refine hk2 _ ⟨_, rfl, (h4.upd b2 _).congr fun a ha => ?_, fun a ha => ?_⟩
        · by_cases q1 : a = m
          · subst q1
            rw [if_pos rfl, if_neg (show ¬ a = i by omega), if_neg (show ¬ a = i by omega), if_neg npre]
            simp [show ¬ a = i by omega]
          · rw [if_neg q1]
            by_cases q2 : a = i
            · subst q2
              rw [if_pos rfl, if_pos rfl, if_pos rfl]
              have n1 : ¬ (a : Int) ∈ pre := fun z => by
                have := (hz.2 _ (show (a : Int) ∈ r by rw [e3]; simp [z])).2
                omega
              have n2 : ¬ (a : Int) ∈ pre ++ [(m : Int)] := fun z => by
                rcases List.mem_append.mp z with z | z
                · exact n1 z
                · have := List.mem_singleton.mp z; omega
              rw [if_neg n1, if_neg n2]
              simp
            · rw [if_neg q2, if_neg q2, if_neg q2]
              have eq : ((a : Int) ∈ pre ++ [(m : Int)]) ↔ (a : Int) ∈ pre := by
                rw [List.mem_append, List.mem_singleton]
                exact ⟨fun z => z.resolve_right (by omega), .inl⟩
              by_cases q3 : (a : Int) ∈ pre
              · rw [if_pos q3, if_pos (eq.mpr q3)]
              · rw [if_neg q3, if_neg fun z => q3 (eq.mp z)]
        · rw [updO_ne fun z => ha (by rw [z]; exact List.mem_of_getElem? b2), updO_ne fun z => ha (by rw [z]; exact List.mem_of_getElem? b1)]
          exact ho3 a ha
      · rintro S1 ⟨O3, rfl, h3, ho3⟩
        (with_reducible refine go ?_)
        exact hk _ ⟨O3, rfl, h3.congr fun a _ => nbA_end hw e2, ho3⟩
    · rintro S1 ⟨O2, rfl, h2, ho2⟩
      rw [enumD_len, w_len] at h2
      (with_reducible refine go ?_)
      exact ⟨O2, SubO.refl _, hq rs O2 h2 hf ho2⟩

/-- reached from s over the rows -/
inductive Rch (R : List (List Int)) (s : Int) : Int → Prop where
  | refl : Rch R s s
  | step {x y : Int} : Rch R s x → y ∈ R.getD x.toNat [] → Rch R s y
def sp_reached : PSp := fun xs Q _ => ∃ (R : List (List Int)) (s : Int), xs = [.lst (zWeb R), .int s] ∧ R.length ≤ 100000 ∧ 0 ≤ s ∧ s < R.length ∧ (∀ r ∈ R, ∀ x ∈ r, 0 ≤ x ∧ x < R.length) ∧
  ∀ l : List Int, l.Pairwise (· < ·) → (∀ x, x ∈ l ↔ Rch R s x) → Q (.own (.lst (zInts l)))
def c_reached_1 : DT :=
    (dTest (d2 ltF (dVar 4) (dN lenF (dBcons (dVar 3) dBnil))))
def b_reached_2 : DS :=
    (dIf (dTest (d2 (inDF true) (dVar 5) (dVar 2))) (dSeq (dDPut (dVar 2) (dVar 5) (dFrz (dC (.bl true))))
    (dDrop (dBM appF (dVar 3) (dAcons (dFrz (dVar 5)) dAnil)))) dNext)
def b_reached_1 : DS :=
    (dSeq (dFor (iL (dFrz (d2 idxF (dVar 0) (d2 idxF (dVar 3) (dVar 4))))) (gN 5)
    b_reached_2 [5])
    (dAug 4 (vI fun i j => i + j) (dC (.int 1))))
def d_reached : DS :=
    (dSeq (dSet 2 (dDic1 (dVar 1) (dFrz (dC (.bl true)))))
    (dSeq (dSet 3 (dLst (dAcons (dFrz (dVar 1)) dAnil)))
    (dSeq (dSetX 4 (dFrz (dC (.int 0))))
    (dSeq (dWhile c_reached_1
    b_reached_1 [5])
    (dRet (dN sortF (dBcons (dVar 3) dBnil)))))))
def N_reached : List Str := ["rows", "start", "known", "found", "index", "other"]
theorem e_reached {v0 v1 : DV} : gSt N_reached [v0, v1] = ⟨[some (.val v0), some (.val v1), none, none, none, none], noO⟩ := rfl

theorem l_reached (xs : List DV) (Q : TV → Prop) (E : DErr → Prop) (h : sp_reached xs Q E) : xs.length = 2 := by
  obtain ⟨_, _, rfl, _⟩ := h; rfl
/-- what the two lists say of each other -/
structure Knw (R : List (List Int)) (s : Int) (kvs : List (Key × DV)) (fd : List Int) : Prop where
  kn : ∀ o : Int, (valD kvs (.inl o)).isSome = true ↔ o ∈ fd
  len : kvs.length = fd.length
  nd : fd.Nodup
  lt : ∀ x ∈ fd, 0 ≤ x ∧ x < R.length
  rc : ∀ x ∈ fd, Rch R s x
  st : s ∈ fd
theorem Knw.add {R : List (List Int)} {s : Int} {kvs : List (Key × DV)} {fd : List Int} (h : Knw R s kvs fd) {o : Int} (hn : o ∉ fd) (hl : 0 ≤ o ∧ o < R.length) (hr : Rch R s o) (x : DV) : Knw R s (putD kvs (.inl o) x) (fd ++ [o]) := by
  refine ⟨fun q => ?_, ?_, ?_, fun y hy => ?_, fun y hy => ?_, List.mem_append_left _ h.st⟩
  · rw [valD_put, List.mem_append, List.mem_singleton]
    by_cases c : q = o
    · subst c; simp
    · rw [if_neg fun e => c (Sum.inl.inj e).symm, h.kn q]
      exact ⟨.inl, fun z => z.resolve_right c⟩
  · unfold putD
    have : ¬ (valD kvs (.inl o)).isSome = true := fun z => hn ((h.kn o).mp z)
    rw [if_neg this, List.length_append, List.length_append, h.len]
    rfl
  · rw [List.nodup_append]
    exact ⟨h.nd, by simp, fun a ha b hb e => hn (by rw [← List.mem_singleton.mp hb, ← e]; exact ha)⟩
  · rcases List.mem_append.mp hy with z | z
    · exact h.lt y z
    · rw [List.mem_singleton.mp z]; exact hl
  · rcases List.mem_append.mp hy with z | z
    · exact h.rc y z
    · rw [List.mem_singleton.mp z]; exact hr
theorem h_reached (xs : List DV) (Q : TV → Prop) (E : DErr → Prop) (h : sp_reached xs Q E) : d_reached (gSt N_reached xs) (ends Q E) := by
  obtain ⟨R, s, rfl, hR, s0, s1, hx, hq⟩ := h
  rw [e_reached]
  unfold d_reached
  (with_reducible refine go ?_)
  refine while_inv (fun m S => ∃ (kvs : List (Key × DV)) (fd : List Int) (ix : Nat) (o5 : Option SV), S = ⟨[some (.val (.lst (zWeb R))), some (.val (.int s)), some (.own (.dic kvs)), some (.own (.lst (zInts fd))), some (.val (.int ix)), o5], noO⟩ ∧ Knw R s kvs fd ∧ ix ≤ fd.length ∧
    (∀ j x, j < ix → fd[j]? = some x → ∀ y ∈ R.getD x.toNat [], y ∈ fd) ∧ R.length - ix ≤ m) R.length ⟨_, [s], 0, none, rfl, ⟨fun o => ?_, rfl, by simp, fun x hx' => ?_, fun x hx' => ?_, by simp⟩, Nat.zero_le _, fun j x hj => by omega, Nat.le_refl _⟩ ?_
  · by_cases c : s = o
    · subst c; simp [valD]
    · have : ¬ (Sum.inl s : Key) = .inl o := fun e => c (Sum.inl.inj e)
      simp [valD, this]
      exact fun e => c e.symm
  · rw [List.mem_singleton.mp hx']; exact ⟨s0, s1⟩
  · rw [List.mem_singleton.mp hx']; exact .refl
  · rintro m S1 k ⟨kvs, fd, ix, o5, rfl, hk, hix, hcl, hm⟩ hkk
    unfold c_reached_1
    (with_reducible refine go ?_)
    rw [z_len]
    have fl := nodup_le hk.nd hk.lt
    (with_reducible refine ite_go (fun c => ?_) (fun c => ?_))
    · have hlt : ix < fd.length := by omega
      have hxi : fd[ix]? = some fd[ix] := List.getElem?_eq_getElem hlt
      have hmem := List.mem_of_getElem? hxi
      obtain ⟨x0, x1⟩ := hk.lt _ hmem
      unfold b_reached_1
      (with_reducible refine go ?_)
      rw [z_at hlt]
      (with_reducible refine go ?_)
      rw [w_atI x0 x1]
      (with_reducible refine go ?_)
      have rowin : ∀ y ∈ R.getD (fd[ix]).toNat [], (0 ≤ y ∧ y < R.length) ∧ Rch R s y := fun y hy => by
        refine ⟨?_, .step (hk.rc _ hmem) hy⟩
        have hl : (fd[ix]).toNat < R.length := by omega
        rw [List.getD_eq_getElem?_getD, List.getElem?_eq_getElem hl] at hy
        exact hx _ (List.getElem_mem hl) y hy
      refine forL_inv (inj := DV.int) (l := R.getD (fd[ix]).toNat []) (fun pre S => ∃ (kvs2 : List (Key × DV)) (fd2 : List Int) (o5 : Option SV), S = ⟨[some (.val (.lst (zWeb R))), some (.val (.int s)), some (.own (.dic kvs2)), some (.own (.lst (zInts fd2))), some (.val (.int ix)), o5], noO⟩ ∧ Knw R s kvs2 fd2 ∧ (∃ more, fd2 = fd ++ more) ∧ ∀ y ∈ pre, y ∈ fd2) ⟨kvs, fd, o5, rfl, hk, ⟨[], by simp⟩, fun y h => by simp at h⟩ ?_ ?_
      · rintro pre y post S1 k2 e ⟨kvs2, fd2, o5, rfl, hk2, ⟨more, rfl⟩, hp⟩ hkk2
        obtain ⟨yl, yr⟩ := rowin y (by rw [e]; simp)
        have fl2 := nodup_le hk2.nd hk2.lt
        (with_reducible refine go ?_)
        unfold b_reached_2
        (with_reducible refine go ?_)
        by_cases d : y ∈ fd ++ more
        · rw [(hk2.kn y).mpr d]
          (with_reducible refine go ?_)
          refine hkk2 _ ⟨_, _, _, rfl, hk2, ⟨more, rfl⟩, fun z hz => ?_⟩
          rcases List.mem_append.mp hz with q | q
          · exact hp z q
          · rw [List.mem_singleton.mp q]; exact d
        · have nn : (valD kvs2 (.inl y)).isSome = false := by
            cases q : (valD kvs2 (.inl y)).isSome with
            | false => rfl
            | true => exact absurd ((hk2.kn y).mp q) d
          rw [nn]
          (with_reducible refine go ?_)
          refine ⟨by rw [hk2.len, sizeLine_eq]; omega, ?_⟩
          (with_reducible refine go ?_)
          refine ⟨by rw [z_len, sizeLine_eq]; omega, ?_⟩
          (with_reducible refine go ?_)
          rw [z_snoc]
          refine hkk2 _ ⟨_, _, _, rfl, hk2.add d yl yr _, ⟨more ++ [y], by simp⟩, fun z hz => ?_⟩
          rcases List.mem_append.mp hz with q | q
          · exact List.mem_append_left _ (hp z q)
          · rw [List.mem_singleton.mp q]; simp
      · rintro S1 ⟨kvs2, fd2, o5, rfl, hk2, ⟨more, rfl⟩, hp⟩
        (with_reducible refine go ?_)
        refine hkk (m - 1) _ (by omega) ⟨_, _, ix + 1, _, rfl, hk2, by rw [List.length_append]; omega, fun j x hj hjx z hz => ?_, by omega⟩
        by_cases cj : j < ix
        · have hjf : j < fd.length := by omega
          rw [List.getElem?_append_left hjf] at hjx
          exact List.mem_append_left _ (hcl j x cj hjx z hz)
        · have : j = ix := by omega
          subst this
          rw [List.getElem?_append_left hlt, hxi] at hjx
          cases hjx
          exact hp z hz
    · (with_reducible refine go ?_)
      refine hq _ (lt_of_le_nodup _ (isort_asc _) ((isort_perm _).nodup_iff.mpr hk.nd)) fun x => ?_
      rw [isort_mem]
      refine ⟨hk.rc x, fun r => ?_⟩
      induction r with
      | refl => exact hk.st
      | step r hy ih =>
        obtain ⟨j, hj⟩ := List.mem_iff_getElem?.mp ih
        exact hcl j _ (by have := (List.getElem?_eq_some_iff.mp hj).1; omega) hj _ hy

theorem nbA_mem {w : List (List Int)} {t : Nat} (ht : t < w.length) {o : Int} : o ∈ nbA w w.length t ↔ o ∈ w.getD t [] ∨ ∃ j : Nat, j < w.length ∧ o = j ∧ (t : Int) ∈ w.getD j [] := by
  unfold nbA
  rw [if_pos ht, List.mem_append, List.mem_map]
  refine or_congr .rfl ⟨fun ⟨j, h1, h2⟩ => ?_, fun ⟨j, h1, h2, h3⟩ => ⟨j, List.mem_filter.mpr ⟨List.mem_range.mpr h1, decide_eq_true h3⟩, h2.symm⟩⟩
  obtain ⟨h3, h4⟩ := List.mem_filter.mp h1
  exact ⟨j, List.mem_range.mp h3, h2.symm, of_decide_eq_true h4⟩
theorem nbA_adj {w : List (List Int)} {t : Nat} (ht : t < w.length) {o : Int} (h0 : 0 ≤ o) (h1 : o < w.length) : o ∈ nbA w w.length t ↔ adj w o t = true := by
  rw [nbA_mem ht]
  unfold adj
  rw [Bool.or_eq_true, decide_eq_true_iff, decide_eq_true_iff, Int.toNat_natCast]
  obtain ⟨m, rfl⟩ := Int.eq_ofNat_of_zero_le h0
  refine or_congr .rfl ⟨fun ⟨j, _, e, z⟩ => ?_, fun z => ⟨m, by omega, rfl, by simpa using z⟩⟩
  have : j = m := by omega
  rw [Int.toNat_natCast, ← this]; exact z
theorem nbA_range {w : List (List Int)} (h : Wb w) {t : Nat} (ht : t < w.length) {o : Int} (hm : o ∈ nbA w w.length t) : 0 ≤ o ∧ o < w.length := by
  rcases (nbA_mem ht).mp hm with z | ⟨j, h1, h2, h3⟩
  · have := h.mem_lt z; omega
  · omega
theorem nbA_nodup {w : List (List Int)} (h : Wb w) (t : Nat) (ht : t < w.length) : (nbA w w.length t).Nodup := by
  unfold nbA
  rw [if_pos ht, List.nodup_append]
  refine ⟨?_, ?_, ?_⟩
  · rw [List.getD_eq_getElem?_getD, List.getElem?_eq_getElem ht]
    exact lt_nodup (h t _ (List.getElem?_eq_getElem ht)).1
  · refine lt_nodup ?_
    rw [List.pairwise_map]
    exact (List.Pairwise.filter _ List.pairwise_lt_range).imp fun h => by omega
  · intro a ha b hb e
    obtain ⟨j, h1, h2⟩ := List.mem_map.mp hb
    have h3 := h.mem_lt ha
    have h4 := h.mem_lt (of_decide_eq_true (List.mem_filter.mp h1).2)
    omega

theorem nbr_row {w : List (List Int)} {t : Nat} (h : t < w.length) : (nbr w).getD t [] = nbA w w.length t := by
  unfold nbr
  rw [List.getD_eq_getElem?_getD, List.getElem?_map, List.getElem?_range h]
  rfl
theorem nbr_len (w : List (List Int)) : (nbr w).length = w.length := by
  unfold nbr
  rw [List.length_map, List.length_range]

theorem rch_cn {w : List (List Int)} (hw : Wb w) {x y : Int} (hx : 0 ≤ x ∧ x < w.length) : Rch (nbr w) x y ↔ Cn w x y := by
  constructor
  · intro h
    have : Cn w x y ∧ (0 ≤ y ∧ y < w.length) := by
      induction h with
      | refl => exact ⟨.refl, hx⟩
      | @step a b _ hy ih =>
        obtain ⟨ih, a0, a1⟩ := ih
        have ha : a.toNat < w.length := by omega
        rw [nbr_row ha] at hy
        have r := nbA_range hw ha hy
        have z := (nbA_adj ha r.1 r.2).mp hy
        rw [show ((a.toNat : Nat) : Int) = a by omega, adj_comm] at z
        exact ⟨.step ih z, r⟩
    exact this.1
  · intro h
    induction h with
    | refl => exact .refl
    | @step a b p hy ih =>
      have r := adj_range hw hy
      refine .step ih ?_
      have ha : a.toNat < w.length := by omega
      rw [nbr_row ha, nbA_adj ha r.2.1 r.2.2, show ((a.toNat : Nat) : Int) = a by omega, adj_comm]
      exact hy

theorem bls_len {l : List Bool} : (bls l).length = l.length := List.length_map ..
theorem bls_at {l : List Bool} {i : Int} (h0 : 0 ≤ i) (h1 : i < l.length) : atI (bls l) i = some (.bl (l.getD i.toNat false)) := by
  obtain ⟨n, rfl⟩ := Int.eq_ofNat_of_zero_le h0
  rw [at_nat (by rw [bls_len]; omega)]
  simp [bls, List.getD_eq_getElem?_getD, List.getElem?_eq_getElem (show n < l.length by omega)]
theorem bls_set (l : List Bool) (n : Nat) (b : Bool) : (bls l).set n (.bl b) = bls (l.set n b) := by simp [bls, List.map_set]
theorem ixN_of {n : Nat} {i : Int} (h0 : 0 ≤ i) (h1 : i < n) : ixN n i = some i.toNat := by
  unfold ixN
  rw [if_pos h0, if_pos h1]
theorem bls_rep (n : Nat) : (List.replicate n [DV.bl false]).flatten = bls (List.replicate n false) := by
  induction n with
  | zero => rfl
  | succ n ih => rw [List.replicate_succ, List.flatten_cons, ih]; rfl
theorem bset_iff {l : List Bool} {m j : Nat} (h : m < l.length) : (l.set m true).getD j false = true ↔ l.getD j false = true ∨ j = m := by
  rw [List.getD_eq_getElem?_getD, List.getD_eq_getElem?_getD]
  by_cases c : j = m
  · subst c
    rw [List.getElem?_set_self h]
    simp
  · rw [List.getElem?_set_ne (Ne.symm c)]
    simp [c]

def sp_pieces : GSp := fun xs O Q E => ∃ x, xs = [x] ∧ ((isWebD x = some false ∧ E ⟨"InvalidWeb", none⟩ O) ∨ ∃ w, x = .lst (zWeb w) ∧ Wb w ∧ w.length ≤ 100000 ∧
  ∀ rs O', Rws O' rs (pcs w) → (∀ a ∈ rs, O a = none) → (∀ a, a ∉ rs → O a ≠ none → O' a = O a) → Q (.own (.lst (refs rs))) O')
def b_pieces_2 : DS :=
    (dSetItem (dFrz (dC (.bl true))) (dVar 2) (dVar 6))
def b_pieces_1 : DS :=
    (dIf (dNot (dTest (d2 idxF (dVar 2) (dVar 4)))) (dSeq (dSetR 5 (dCall sp_reached (dBcons (dVar 1) (dBcons (dVar 4) dBnil))))
    (dSeq (dForG (iM (dFrz (dVar 5))) (gN 6)
    b_pieces_2 [6])
    (dDrop (dBM appF (dVar 3) (dAcons (dMap (dVar 5)) dAnil))))) dNext)
def d_pieces : DS :=
    (dSeq (dDrop (dCall sp_check_web (dBcons (dVar 0) dBnil)))
    (dSeq (dSetX 1 (dShift (dFrz (dCallG sp_all_neighbours (dAcons (dFrz (dVar 0)) dAnil)))))
    (dSeq (dSet 2 (d2 mulB (dLst (dAcons (dFrz (dC (.bl false))) dAnil)) (dN lenF (dBcons (dVar 0) dBnil))))
    (dSeq (dSet 3 (dLst dAnil))
    (dSeq (dFor (iR1 (dN lenF (dBcons (dVar 0) dBnil))) (gN 4)
    b_pieces_1 [4, 5, 6])
    (dRet (dVar 3)))))))
def N_pieces : List Str := ["web", "rows", "known", "result", "start", "piece", "thing"]
theorem e_pieces {v0 : SV} {O : OM} : gSv N_pieces [v0] O = ⟨[some v0, none, none, none, none, none, none], O⟩ := rfl

theorem l_pieces (xs : List DV) (O : OM) (Q : TV → OM → Prop) (E : DErr → OM → Prop) (h : sp_pieces xs O Q E) : xs.length = 1 := by
  obtain ⟨_, rfl, _⟩ := h; rfl
theorem h_pieces (xs : List DV) (O : OM) (Q : TV → OM → Prop) (E : DErr → OM → Prop) (h : sp_pieces xs O Q E) :
    ∃ ss, SvOk ss xs ∧ d_pieces (gSv N_pieces ss O) (endsG Q E) := by
  obtain ⟨x, rfl, h⟩ := h
  refine ⟨[.val x], .val .nil, ?_⟩
  rw [e_pieces]
  unfold d_pieces
  rcases h with ⟨e, h⟩ | ⟨w, rfl, hw, hl, hq⟩
  · (with_reducible refine go ?_)
    refine web_tree e _ _ ?_
    (with_reducible refine go ?_)
    exact ⟨x, false, rfl, e, (fun z => by cases z), fun _ => ⟨.inr rfl, _, SubO.refl _, h⟩⟩
  · (with_reducible refine go ?_)
    refine ⟨_, true, rfl, hw.is, fun _ => ⟨.inr rfl, ?_⟩, (fun z => by cases z)⟩
    (with_reducible refine go ?_)
    refine ⟨w, rfl, hw, hl, fun rs0 O1 hr hf hO => ?_⟩
    (with_reducible refine go ?_)
    refine shift_rows hr.rws fun O2 hO2 => ?_
    (with_reducible refine go ?_)
    have nbl : (List.range w.length).map (nbA w w.length) = nbr w := rfl
    rw [nbl, w_len]
    refine ⟨⟨by omega, by omega, by rw [Int.toNat_natCast, sizeLine_eq]; simp; omega⟩, ?_⟩
    (with_reducible refine go ?_)
    rw [Int.toNat_natCast, bls_rep, w_len]
    refine ⟨⟨by omega, by omega⟩, ?_⟩
    rw [Int.toNat_natCast]
    refine forR_inv (fun i S => ∃ (kn : List Bool) (rs : List Addr) (O3 : OM), S = ⟨[some (.val (.lst (zWeb w))), some (.val (.lst (zWeb (nbr w)))), some (.own (.lst (bls kn))), some (.own (.lst (refs rs))), none, none, none], O3⟩ ∧ kn.length = w.length ∧
      (∀ j : Nat, j < w.length → (kn.getD j false = true ↔ ∃ s : Nat, s < i ∧ Cn w s j)) ∧ Rws O3 rs (pcsU w i) ∧ (∀ a ∈ rs, O a = none) ∧ (∀ a, a ∉ rs → O a ≠ none → O3 a = O a))
      ⟨List.replicate w.length false, [], O2, rfl, List.length_replicate .., fun j hj => ?_, ⟨.nil, rfl, fun i a r h => by simp at h⟩, fun a h => by simp at h, fun a _ hn => ?_⟩ ?_ ?_
    · rw [List.getD_eq_getElem?_getD, List.getElem?_replicate, if_pos hj]
      exact ⟨fun z => (by cases z), fun ⟨s, hs, _⟩ => (by omega)⟩
    · have hnr : a ∉ rs0 := fun z => hn (hf a z)
      exact (hO2 a hnr).trans (hO a hnr)
    · rintro i S1 k hi ⟨kn, rs, O3, rfl, hk, hkn, hrs, hfr, ho⟩ hkk
      (with_reducible refine go ?_)
      rw [Int.zero_add]
      unfold b_pieces_1
      (with_reducible refine go ?_)
      rw [bls_at (by omega) (by omega), Int.toNat_natCast]
      (with_reducible refine go ?_)
      by_cases c : kn.getD i false = true
      · rw [c]
        (with_reducible refine go ?_)
        have nr : ¬ rep w i = true := fun z => by
          obtain ⟨s, hs, hc⟩ := (hkn i hi).mp c
          have := rep_iff.mp z s (by omega) hc
          omega
        refine hkk _ ⟨kn, rs, O3, rfl, hk, fun j hj => ?_, by rw [pcsU_no nr]; exact hrs, hfr, ho⟩
        rw [hkn j hj]
        refine ⟨fun ⟨s, h1, h2⟩ => ⟨s, by omega, h2⟩, fun ⟨s, h1, h2⟩ => ?_⟩
        by_cases e : s = i
        · subst e
          obtain ⟨s', hs, hc⟩ := (hkn s hi).mp c
          exact ⟨s', hs, hc.trans h2⟩
        · exact ⟨s, by omega, h2⟩
      · have cf : kn.getD i false = false := by
          cases q : kn.getD i false with
          | false => rfl
          | true => exact absurd q c
        rw [cf]
        (with_reducible refine go ?_)
        have yr : rep w i = true := rep_iff.mpr fun s s0 hc => by
          by_cases hs : s < i
          · exact absurd ((hkn i hi).mpr ⟨s.toNat, by omega, by rw [show ((s.toNat : Nat) : Int) = s by omega]; exact hc⟩) c
          · omega
        refine ⟨nbr w, i, rfl, by rw [nbr_len]; exact hl, by omega, by rw [nbr_len]; omega, fun r hr x hx => ?_, fun l hasc hmem => ?_⟩
        · obtain ⟨t, ht, rfl⟩ := List.mem_map.mp hr
          rw [nbr_len]
          exact nbA_range hw (List.mem_range.mp ht) hx
        have hle : l = cls w i := asc_uniq hasc (cls_asc w i) fun x => by
          rw [hmem, rch_cn hw (by omega), cls_mem]
          exact ⟨fun z => ⟨z.range hw (by omega), z⟩, fun z => z.2⟩
        subst hle
        refine ⟨.inl rfl, ?_⟩
        (with_reducible refine go ?_)
        intro p hp
        (with_reducible refine go ?_)
        refine forG_inv (inj := DV.int) (l := cls w i) (fun pre S => ∃ kn2 : List Bool, S = ⟨[some (.val (.lst (zWeb w))), some (.val (.lst (zWeb (nbr w)))), some (.own (.lst (bls kn2))), some (.own (.lst (refs rs))), some (.val (.int i)), some (.rf p), none], updO O3 p (.lst (zInts (cls w i)))⟩ ∧ kn2.length = w.length ∧
          ∀ j : Nat, j < w.length → (kn2.getD j false = true ↔ kn.getD j false = true ∨ (j : Int) ∈ pre)) ⟨kn, rfl, hk, fun j _ => by simp⟩ ?_ ?_ ?_
        · rintro pre S1 ⟨kn2, rfl, _⟩
          exact updO_same
        · rintro pre a post S1 k2 e ⟨kn2, rfl, h2, h3⟩ hk2
          have ma : a ∈ cls w i := by rw [e]; simp
          obtain ⟨ra, _⟩ := cls_mem.mp ma
          (with_reducible refine go ?_)
          unfold b_pieces_2
          (with_reducible refine go ?_)
          rw [bls_len, ixN_of (by omega) (by omega)]
          (with_reducible refine go ?_)
          refine lsx_go ?_
          rw [bls_set]
          (with_reducible refine go ?_)
          refine hk2 _ ⟨_, rfl, by rw [List.length_set]; exact h2, fun j hj => ?_⟩
          rw [bset_iff (by omega), h3 j hj, List.mem_append, List.mem_singleton, or_assoc]
          refine or_congr .rfl (or_congr .rfl ?_)
          omega
        · rintro S1 ⟨kn2, rfl, h2, h3⟩
          have rl : rs.length ≤ i := by rw [hrs.len]; exact pcsU_len w i
          have hpr : p ∉ rs := fun z => by
            obtain ⟨j, hj⟩ := List.mem_iff_getElem?.mp z
            have hjl : j < (pcsU w i).length := by rw [← hrs.len]; exact (List.getElem?_eq_some_iff.mp hj).1
            have := hrs.row j p _ hj (List.getElem?_eq_getElem hjl)
            rw [hp] at this; cases this
          have hOp : O p = none := by
            cases q : O p with
            | none => rfl
            | some u =>
              have := ho p hpr (by rw [q]; exact fun z => by cases z)
              rw [hp, q] at this; cases this
          (with_reducible refine go ?_)
          refine ⟨by rw [refs_len, sizeLine_eq]; omega, ?_⟩
          (with_reducible refine go ?_)
          rw [refs_snoc]
          refine hkk _ ⟨kn2, rs ++ [p], _, rfl, h2, fun j hj => ?_, by rw [pcsU_yes yr]; exact hrs.new hp _, fun a ha => ?_, fun a ha hn => ?_⟩
          · rw [h3 j hj, hkn j hj, cls_mem]
            refine ⟨fun z => ?_, fun ⟨s, h1, h4⟩ => ?_⟩
            · rcases z with ⟨s, h1, h4⟩ | ⟨_, z⟩
              · exact ⟨s, by omega, h4⟩
              · exact ⟨i, by omega, z⟩
            · by_cases es : s = i
              · subst es; exact .inr ⟨by omega, h4⟩
              · exact .inl ⟨s, by omega, h4⟩
          · rcases List.mem_append.mp ha with z | z
            · exact hfr a z
            · rw [List.mem_singleton.mp z]; exact hOp
          · rw [updO_ne fun z => ha (by rw [z]; simp)]
            exact ho a (fun z => ha (List.mem_append_left _ z)) hn
    · rintro S1 ⟨kn, rs, O3, rfl, hk, hkn, hrs, hfr, ho⟩
      (with_reducible refine go ?_)
      exact ⟨O3, SubO.refl _, hq rs O3 hrs hfr ho⟩

/-- the pieces in some order -/
structure Prt (w : List (List Int)) (P : List (List Int)) : Prop where
  one : ∀ p ∈ P, ∃ t : Int, (0 ≤ t ∧ t < w.length) ∧ p = cls w t
  all : ∀ t : Int, 0 ≤ t ∧ t < w.length → cls w t ∈ P
  nd : P.Nodup
theorem cls_self {w : List (List Int)} {t : Int} (h : 0 ≤ t ∧ t < w.length) : t ∈ cls w t := cls_mem.mpr ⟨h, .refl⟩
theorem cls_eq {w : List (List Int)} {a b : Int} (h : Cn w a b) : cls w a = cls w b :=
  asc_uniq (cls_asc w a) (cls_asc w b) fun x => by
    rw [cls_mem, cls_mem]
    exact and_congr_right fun _ => ⟨fun z => h.symm.trans z, fun z => h.trans z⟩
theorem cls_cn {w : List (List Int)} {a b : Int} (hb : 0 ≤ b ∧ b < w.length) (h : cls w a = cls w b) : Cn w a b := by
  have := cls_self hb
  rw [← h] at this
  exact (cls_mem.mp this).2
theorem Prt.has {w P : List (List Int)} (h : Prt w P) {t : Int} (ht : 0 ≤ t ∧ t < w.length) {p : List Int} (hp : p ∈ P) : t ∈ p ↔ p = cls w t := by
  obtain ⟨s, hs, rfl⟩ := h.one p hp
  exact ⟨fun z => cls_eq (cls_mem.mp z).2, fun z => by rw [z]; exact cls_self ht⟩
theorem Prt.len {w P : List (List Int)} (h : Prt w P) : P.length ≤ w.length := by
  have e : (P.map fun p => p.headD 0).Nodup := by
    rw [List.nodup_iff_pairwise_ne, List.pairwise_map]
    have := h.nd
    rw [List.nodup_iff_pairwise_ne] at this
    refine this.imp_of_mem fun {a b} ha hb ne e => ne ?_
    obtain ⟨s, hs, rfl⟩ := h.one a ha
    obtain ⟨t, ht, rfl⟩ := h.one b hb
    have m : ∀ u : Int, 0 ≤ u ∧ u < w.length → (cls w u).headD 0 ∈ cls w u := fun u hu => by
      have := cls_self hu
      cases q : cls w u with
      | nil => rw [q] at this; cases this
      | cons y ys => simp
    have m1 := (cls_mem.mp (m s hs)).2
    have m2 := (cls_mem.mp (m t ht)).2
    rw [e] at m1
    exact cls_eq (m1.trans m2.symm)
  have := nodup_le (n := w.length) e fun x hx => by
    obtain ⟨p, hp, rfl⟩ := List.mem_map.mp hx
    obtain ⟨s, hs, rfl⟩ := h.one p hp
    have := cls_self hs
    cases q : cls w s with
    | nil => rw [q] at this; cases this
    | cons y ys => exact (cls_mem.mp (show y ∈ cls w s by rw [q]; simp)).1
  rw [List.length_map] at this
  exact this
theorem pcs_prt (w : List (List Int)) : Prt w (pcs w) := by
  have key : ∀ t : Int, 0 ≤ t ∧ t < w.length → cls w t ∈ pcs w := fun t ht => by
    have lt : ∀ (n : Nat) (t : Int), t.toNat ≤ n → (0 ≤ t ∧ t < w.length) → cls w t ∈ pcs w := by
      intro n
      induction n with
      | zero =>
        intro t hn ht
        have e : t = 0 := by omega
        subst e
        exact List.mem_map.mpr ⟨0, List.mem_filter.mpr ⟨thg_mem.mpr ht, rep_iff.mpr fun s hs _ => hs⟩, rfl⟩
      | succ n ih =>
        intro t hn ht
        by_cases c : rep w t = true
        · exact List.mem_map.mpr ⟨t, List.mem_filter.mpr ⟨thg_mem.mpr ht, c⟩, rfl⟩
        · have : ∃ s : Int, 0 ≤ s ∧ Cn w s t ∧ s < t := by
            refine Classical.byContradiction fun no => c (rep_iff.mpr fun s hs hc => ?_)
            by_cases q : s < t
            · exact absurd ⟨s, hs, hc, q⟩ no
            · omega
          obtain ⟨s, s0, hc, hst⟩ := this
          rw [← cls_eq hc]
          exact ih s (by omega) ⟨s0, by omega⟩
    exact lt t.toNat t (Nat.le_refl _) ht
  refine ⟨fun p hp => ?_, key, ?_⟩
  · obtain ⟨t, ht, rfl⟩ := List.mem_map.mp hp
    exact ⟨t, thg_mem.mp (List.mem_filter.mp ht).1, rfl⟩
  · unfold pcs pcsU
    rw [List.nodup_iff_pairwise_ne, List.pairwise_map]
    refine (List.Pairwise.filter _ (thg_asc _)).imp_of_mem fun {a b} ha hb hab e => ?_
    obtain ⟨a1, a2⟩ := List.mem_filter.mp ha
    obtain ⟨b1, b2⟩ := List.mem_filter.mp hb
    have := rep_iff.mp b2 a (thg_mem.mp a1).1 (cls_cn (thg_mem.mp b1) e)
    omega
theorem rep_head {w : List (List Int)} {t : Int} (ht : 0 ≤ t ∧ t < w.length) (h : rep w t = true) : ∃ l, cls w t = t :: l := by
  have m := cls_self ht
  have as := cls_asc w t
  cases q : cls w t with
  | nil => rw [q] at m; cases m
  | cons y ys =>
    rw [q, List.pairwise_cons] at as
    have my : y ∈ cls w t := by rw [q]; simp
    obtain ⟨r, c⟩ := cls_mem.mp my
    have h1 := rep_iff.mp h y r.1 c.symm
    rw [q] at m
    rcases List.mem_cons.mp m with e | e
    · exact ⟨ys, by rw [e]⟩
    · have := as.1 t e; omega
/-- sorted, the pieces stand as they are due -/
theorem Prt.sort {w P : List (List Int)} (h : Prt w P) : P.mergeSort (fun a b => decide (a ≤ b)) = pcs w := by
  have tr : ∀ a b c : List Int, decide (a ≤ b) = true → decide (b ≤ c) = true → decide (a ≤ c) = true := fun a b c h1 h2 => decide_eq_true (List.le_trans (of_decide_eq_true h1) (of_decide_eq_true h2))
  have tot : ∀ a b : List Int, (decide (a ≤ b) || decide (b ≤ a)) = true := fun a b => by
    rw [Bool.or_eq_true, decide_eq_true_iff, decide_eq_true_iff]
    exact List.le_total a b
  have s1 := List.pairwise_mergeSort (le := fun a b : List Int => decide (a ≤ b)) tr tot P
  have q := pcs_prt w
  have pm : (P.mergeSort (fun a b => decide (a ≤ b))).Perm (pcs w) := (List.mergeSort_perm _ _).trans ((List.perm_ext_iff_of_nodup h.nd q.nd).mpr fun x => ⟨fun z => by
    obtain ⟨t, ht, rfl⟩ := h.one x z
    exact q.all t ht, fun z => by
    obtain ⟨t, ht, rfl⟩ := q.one x z
    exact h.all t ht⟩)
  have s2 : (pcs w).Pairwise fun a b => decide (a ≤ b) = true := by
    unfold pcs pcsU
    rw [List.pairwise_map]
    refine (List.Pairwise.filter _ (thg_asc _)).imp_of_mem fun {a b} ha hb hab => decide_eq_true ?_
    obtain ⟨a1, a2⟩ := List.mem_filter.mp ha
    obtain ⟨b1, b2⟩ := List.mem_filter.mp hb
    obtain ⟨la, ea⟩ := rep_head (thg_mem.mp a1) a2
    obtain ⟨lb, eb⟩ := rep_head (thg_mem.mp b1) b2
    rw [ea, eb]
    exact List.le_of_lt (List.cons_lt_cons_iff.mpr (.inl hab))
  exact List.Perm.eq_of_pairwise (le := fun a b : List Int => decide (a ≤ b) = true) (fun a b _ _ x y => List.le_antisymm (of_decide_eq_true x) (of_decide_eq_true y)) s1 s2 pm
section
variable {w : List (List Int)} {r : List Int}
theorem cls_snoc_no (hw : Wb w) (hr : ∀ x ∈ r, 0 ≤ x ∧ x < w.length) {t : Int} (ht : 0 ≤ t ∧ t < w.length) (h : ¬ ∃ a ∈ r, Cn w t a) : cls (w ++ [r]) t = cls w t :=
  asc_uniq (cls_asc _ t) (cls_asc w t) fun x => by
    rw [cls_mem, cls_mem]
    have hl : (w ++ [r]).length = w.length + 1 := by rw [List.length_append]; rfl
    rw [hl]
    constructor
    · rintro ⟨hx, hc⟩
      by_cases c : x < w.length
      · refine ⟨⟨hx.1, c⟩, ?_⟩
        rcases (cn_snoc hw hr ht ⟨hx.1, c⟩).mp hc with z | z
        · exact z
        · exact absurd z.1 h
      · have e : x = w.length := by omega
        subst e
        exact absurd ((cn_snoc_hi hw hr ht).mp hc) h
    · rintro ⟨hx, hc⟩
      exact ⟨by omega, hc.mono_snoc hw⟩
theorem cls_snoc_hi (hw : Wb w) (hr : ∀ x ∈ r, 0 ≤ x ∧ x < w.length) {x : Int} : x ∈ cls (w ++ [r]) w.length ↔ x = w.length ∨ (0 ≤ x ∧ x < w.length) ∧ ∃ a ∈ r, Cn w x a := by
  have hl : (w ++ [r]).length = w.length + 1 := by rw [List.length_append]; rfl
  rw [cls_mem, hl]
  constructor
  · rintro ⟨hx, hc⟩
    by_cases c : x < w.length
    · exact .inr ⟨⟨hx.1, c⟩, (cn_snoc_hi hw hr ⟨hx.1, c⟩).mp hc.symm⟩
    · exact .inl (by omega)
  · rintro (e | ⟨hx, hc⟩)
    · subst e
      exact ⟨by omega, .refl⟩
    · exact ⟨by omega, ((cn_snoc_hi hw hr hx).mpr hc).symm⟩
end
/-- the homes of the ties -/
structure Hms (w P : List (List Int)) (r hs : List Int) : Prop where
  len : hs.length = r.length
  at_ : ∀ (i : Nat) o, r[i]? = some o → ∃ k : Nat, hs[i]? = some (k : Int) ∧ P[k]? = some (cls w o)
theorem Hms.mem {w P : List (List Int)} {r hs : List Int} (h : Hms w P r hs) {k : Nat} (z : (k : Int) ∈ hs) : ∃ o ∈ r, P[k]? = some (cls w o) := by
  obtain ⟨i, hi⟩ := List.mem_iff_getElem?.mp z
  have hl : i < r.length := by rw [← h.len]; exact (List.getElem?_eq_some_iff.mp hi).1
  obtain ⟨k', e1, e2⟩ := h.at_ i _ (List.getElem?_eq_getElem hl)
  rw [hi] at e1
  have : k = k' := by have := Option.some.inj e1; omega
  subst this
  exact ⟨_, List.getElem_mem hl, e2⟩
theorem Hms.mem' {w P : List (List Int)} {r hs : List Int} (h : Hms w P r hs) (nd : P.Nodup) {k : Nat} {o : Int} (ho : o ∈ r) (e : P[k]? = some (cls w o)) : (k : Int) ∈ hs := by
  obtain ⟨i, hi⟩ := List.mem_iff_getElem?.mp ho
  obtain ⟨k', e1, e2⟩ := h.at_ i o hi
  obtain ⟨l1, q1⟩ := List.getElem?_eq_some_iff.mp e
  obtain ⟨l2, q2⟩ := List.getElem?_eq_some_iff.mp e2
  have := (List.getElem_inj nd).mp (q1.trans q2.symm)
  subst this
  exact List.mem_of_getElem? e1
theorem Hms.snoc {w P : List (List Int)} {r hs : List Int} (h : Hms w P r hs) {k : Nat} {o : Int} (e : P[k]? = some (cls w o)) : Hms w P (r ++ [o]) (hs ++ [(k : Int)]) := by
  refine ⟨by rw [List.length_append, List.length_append, h.len]; rfl, fun i o' hi => ?_⟩
  by_cases c : i < r.length
  · rw [List.getElem?_append_left c] at hi
    obtain ⟨k', e1, e2⟩ := h.at_ i o' hi
    exact ⟨k', by rw [List.getElem?_append_left (by rw [h.len]; exact c)]; exact e1, e2⟩
  · rw [List.getElem?_append_right (by omega)] at hi
    have z : i - r.length = 0 := by
      cases q : i - r.length with
      | zero => rfl
      | succ m => rw [q] at hi; simp at hi
    rw [z] at hi
    simp at hi
    subst hi
    exact ⟨k, by rw [List.getElem?_append_right (by rw [h.len]; omega), h.len, z]; rfl, e⟩
theorem Hms.nat {w P : List (List Int)} {r hs : List Int} (h : Hms w P r hs) {z : Int} (hz : z ∈ hs) : ∃ k : Nat, z = k ∧ k < P.length := by
  obtain ⟨i, hi⟩ := List.mem_iff_getElem?.mp hz
  have hl : i < r.length := by rw [← h.len]; exact (List.getElem?_eq_some_iff.mp hi).1
  obtain ⟨k', e1, e2⟩ := h.at_ i _ (List.getElem?_eq_getElem hl)
  rw [hi] at e1
  exact ⟨k', Option.some.inj e1, (List.getElem?_eq_some_iff.mp e2).1⟩
def newP (P : List (List Int)) (hs J : List Int) : List (List Int) := ((List.range P.length).filter fun k : Nat => !decide ((k : Int) ∈ hs)).map (fun k => P.getD k []) ++ [isort J]
theorem getD_at {P : List (List Int)} {k : Nat} {p : List Int} (h : P[k]? = some p) : P.getD k [] = p := by rw [List.getD_eq_getElem?_getD, h]; rfl
/-- the parts behind a further thing -/
theorem Hms.next {w P : List (List Int)} {r hs J : List Int} (h : Hms w P r hs) (hw : Wb w) (hP : Prt w P) (hr : ∀ x ∈ r, 0 ≤ x ∧ x < w.length) (jn : J.Nodup) (jm : ∀ y, y ∈ J ↔ y = w.length ∨ ∃ q : Nat, (q : Int) ∈ hs ∧ y ∈ P.getD q []) : Prt (w ++ [isort r]) (newP P hs J) := by
  have hir : ∀ x ∈ isort r, 0 ≤ x ∧ x < w.length := fun x hx => hr x (isort_mem.mp hx)
  have hl : (w ++ [isort r]).length = w.length + 1 := by rw [List.length_append]; rfl
  have idx : ∀ t : Int, 0 ≤ t ∧ t < w.length → ∃ q : Nat, P[q]? = some (cls w t) := fun t ht => List.mem_iff_getElem?.mp (hP.all t ht)
  have con : ∀ (q : Nat) (t : Int), 0 ≤ t ∧ t < w.length → P[q]? = some (cls w t) → ((q : Int) ∈ hs ↔ ∃ a ∈ r, Cn w t a) := fun q t ht e => by
    constructor
    · intro z
      obtain ⟨o, ho, e'⟩ := h.mem z
      rw [e] at e'
      exact ⟨o, ho, cls_cn (hr o ho) (Option.some.inj e')⟩
    · rintro ⟨a, ha, c⟩
      exact h.mem' hP.nd ha (by rw [e, cls_eq c])
  have jc : isort J = cls (w ++ [isort r]) w.length := by
    refine asc_uniq (lt_of_le_nodup _ (isort_asc _) ((isort_perm _).nodup_iff.mpr jn)) (cls_asc _ _) fun y => ?_
    rw [isort_mem, jm, cls_snoc_hi hw hir]
    refine or_congr .rfl ⟨fun ⟨q, h1, h2⟩ => ?_, fun ⟨hy, a, ha, c⟩ => ?_⟩
    · obtain ⟨o, ho, e⟩ := h.mem h1
      rw [getD_at e] at h2
      obtain ⟨ry, c⟩ := cls_mem.mp h2
      exact ⟨ry, o, isort_mem.mpr ho, c.symm⟩
    · have ha := isort_mem.mp ha
      obtain ⟨q, e⟩ := idx a (hr a ha)
      exact ⟨q, h.mem' hP.nd ha e, by rw [getD_at e]; exact cls_mem.mpr ⟨hy, c.symm⟩⟩
  have old : ∀ p, p ∈ ((List.range P.length).filter fun k : Nat => !decide ((k : Int) ∈ hs)).map (fun k => P.getD k []) ↔ ∃ t : Int, (0 ≤ t ∧ t < w.length) ∧ p = cls w t ∧ ¬ ∃ a ∈ r, Cn w t a := fun p => by
    rw [List.mem_map]
    constructor
    · rintro ⟨q, hq, rfl⟩
      obtain ⟨h1, h2⟩ := List.mem_filter.mp hq
      have hql := List.mem_range.mp h1
      have e : P[q]? = some P[q] := List.getElem?_eq_getElem hql
      obtain ⟨t, ht, et⟩ := hP.one _ (List.getElem_mem hql)
      rw [et] at e
      refine ⟨t, ht, getD_at e, fun z => ?_⟩
      have := (con q t ht e).mpr z
      simp [this] at h2
    · rintro ⟨t, ht, rfl, no⟩
      obtain ⟨q, e⟩ := idx t ht
      refine ⟨q, List.mem_filter.mpr ⟨List.mem_range.mpr (List.getElem?_eq_some_iff.mp e).1, ?_⟩, getD_at e⟩
      have : ¬ (q : Int) ∈ hs := fun z => no ((con q t ht e).mp z)
      simp [this]
  have no' : ∀ t, (¬ ∃ a ∈ r, Cn w t a) → ¬ ∃ a ∈ isort r, Cn w t a := fun t n ⟨a, ha, c⟩ => n ⟨a, isort_mem.mp ha, c⟩
  refine ⟨fun p hp => ?_, fun t ht => ?_, ?_⟩
  · rcases List.mem_append.mp hp with z | z
    · obtain ⟨t, ht, rfl, no⟩ := (old p).mp z
      exact ⟨t, by rw [hl]; omega, (cls_snoc_no hw hir ht (no' t no)).symm⟩
    · rw [List.mem_singleton.mp z, jc]
      exact ⟨_, by rw [hl]; omega, rfl⟩
  · rw [hl] at ht
    unfold newP
    rw [List.mem_append, List.mem_singleton, jc]
    by_cases c : t < w.length
    · by_cases ex : ∃ a ∈ r, Cn w t a
      · right
        obtain ⟨a, ha, ca⟩ := ex
        exact cls_eq ((cn_snoc_hi hw hir ⟨ht.1, c⟩).mpr ⟨a, isort_mem.mpr ha, ca⟩)
      · left
        rw [cls_snoc_no hw hir ⟨ht.1, c⟩ (no' t ex)]
        exact (old _).mpr ⟨t, ⟨ht.1, c⟩, rfl, ex⟩
    · right
      have : t = w.length := by omega
      rw [this]
  · unfold newP
    rw [List.nodup_append]
    refine ⟨?_, by simp, fun a ha b hb e => ?_⟩
    · rw [List.nodup_iff_pairwise_ne, List.pairwise_map]
      refine (List.Pairwise.filter _ List.pairwise_lt_range).imp_of_mem fun {a b} ha hb hab e => ?_
      have al := List.mem_range.mp (List.mem_filter.mp ha).1
      have bl := List.mem_range.mp (List.mem_filter.mp hb).1
      rw [getD_at (List.getElem?_eq_getElem al), getD_at (List.getElem?_eq_getElem bl)] at e
      have := (List.getElem_inj hP.nd).mp e
      omega
    · obtain ⟨t, ht, rfl, _⟩ := (old a).mp ha
      rw [List.mem_singleton.mp hb, jc] at e
      have m : (w.length : Int) ∈ cls (w ++ [isort r]) w.length := cls_self (by rw [hl]; omega)
      rw [← e] at m
      have := (cls_mem.mp m).1
      omega
theorem Hms.cons {w P : List (List Int)} {r hs : List Int} (h : Hms w P r hs) {k : Nat} {o : Int} (e : P[k]? = some (cls w o)) : Hms w P (o :: r) ((k : Int) :: hs) := by
  refine ⟨by rw [List.length_cons, List.length_cons, h.len], fun i o' hi => ?_⟩
  cases i with
  | zero => simp at hi; subst hi; exact ⟨k, rfl, e⟩
  | succ i => exact h.at_ i o' (by simpa using hi)
theorem Prt.homes {w P : List (List Int)} (h : Prt w P) : ∀ {r : List Int}, (∀ x ∈ r, 0 ≤ x ∧ x < w.length) → ∃ hs, Hms w P r hs
  | [], _ => ⟨[], rfl, fun i o e => by simp at e⟩
  | o :: r, hr => by
    obtain ⟨hs, hh⟩ := h.homes (r := r) fun x hx => hr x (List.mem_cons_of_mem _ hx)
    obtain ⟨k, e⟩ := List.mem_iff_getElem?.mp (h.all o (hr o List.mem_cons_self))
    exact ⟨_, hh.cons e⟩
theorem Hms.nodup {w P : List (List Int)} {r hs : List Int} (h : Hms w P r hs) (nd : P.Nodup) (hr : ∀ x ∈ r, 0 ≤ x ∧ x < w.length) : hs.Nodup ↔ r.Pairwise fun a b => ¬ Cn w a b := by
  rw [List.nodup_iff_pairwise_ne, List.pairwise_iff_getElem, List.pairwise_iff_getElem]
  have key : ∀ (i j : Nat) (hi : i < r.length) (hj : j < r.length), (hs[i]'(by rw [h.len]; exact hi) = hs[j]'(by rw [h.len]; exact hj) ↔ Cn w r[i] r[j]) := fun i j hi hj => by
    obtain ⟨k, a1, a2⟩ := h.at_ i _ (List.getElem?_eq_getElem hi)
    obtain ⟨k', b1, b2⟩ := h.at_ j _ (List.getElem?_eq_getElem hj)
    have e1 := (List.getElem?_eq_some_iff.mp a1).2
    have e2 := (List.getElem?_eq_some_iff.mp b1).2
    rw [e1, e2]
    constructor
    · intro e
      have : k = k' := by omega
      subst this
      rw [a2] at b2
      exact cls_cn (hr _ (List.getElem_mem hj)) (Option.some.inj b2)
    · intro c
      rw [cls_eq c] at a2
      obtain ⟨l1, q1⟩ := List.getElem?_eq_some_iff.mp a2
      obtain ⟨l2, q2⟩ := List.getElem?_eq_some_iff.mp b2
      have := (List.getElem_inj nd).mp (q1.trans q2.symm)
      omega
  constructor
  · intro z i j hi hj hij c
    exact z i j (by rw [h.len]; exact hi) (by rw [h.len]; exact hj) hij ((key i j hi hj).mpr c)
  · intro z i j hi hj hij e
    exact z i j (by rw [← h.len]; exact hi) (by rw [← h.len]; exact hj) hij ((key i j (by rw [← h.len]; exact hi) (by rw [← h.len]; exact hj)).mp e)
theorem Prt.count {w P : List (List Int)} (h : Prt w P) : P.length = (pcs w).length := by
  have q := pcs_prt w
  exact ((List.perm_ext_iff_of_nodup h.nd q.nd).mpr fun x => ⟨fun z => by
    obtain ⟨t, ht, rfl⟩ := h.one x z
    exact q.all t ht, fun z => by
    obtain ⟨t, ht, rfl⟩ := q.one x z
    exact h.all t ht⟩).length_eq
theorem filter_two {α : Type} (p : α → Bool) : ∀ l : List α, (l.filter p).length + (l.filter fun x => !p x).length = l.length
  | [] => rfl
  | x :: l => by
    have ih := filter_two p l
    by_cases c : p x = true
    · rw [List.filter_cons_of_pos c, List.filter_cons_of_neg (by simp [c]), List.length_cons, List.length_cons]; omega
    · rw [List.filter_cons_of_neg c, List.filter_cons_of_pos (by simpa using c), List.length_cons, List.length_cons]; omega
theorem newP_len {w P : List (List Int)} {r hs J : List Int} (h : Hms w P r hs) : (newP P hs J).length + (dd hs).length = P.length + 1 := by
  unfold newP
  rw [List.length_append, List.length_map]
  have f2 := filter_two (fun k : Nat => decide ((k : Int) ∈ hs)) (List.range P.length)
  rw [List.length_range] at f2
  have e : (((List.range P.length).filter fun k : Nat => decide ((k : Int) ∈ hs)).map fun (k : Nat) => (k : Int)).length = (dd hs).length := by
    refine dd_len (lt_nodup ?_) fun x => ?_
    · rw [List.pairwise_map]
      exact (List.Pairwise.filter _ List.pairwise_lt_range).imp fun h => by omega
    · rw [List.mem_map]
      constructor
      · rintro ⟨k, hk, rfl⟩
        exact of_decide_eq_true (List.mem_filter.mp hk).2
      · intro hx
        obtain ⟨k, rfl, hk⟩ := h.nat hx
        exact ⟨k, List.mem_filter.mpr ⟨List.mem_range.mpr hk, decide_eq_true hx⟩, rfl⟩
  rw [List.length_map] at e
  show _ + 1 + _ = _
  omega
/-- how many ties there are -/
def ties (w : List (List Int)) : Nat := (w.map List.length).sum
theorem isort_id {r : List Int} (h : r.Pairwise (· < ·)) : isort r = r :=
  asc_uniq (lt_of_le_nodup _ (isort_asc _) ((isort_perm r).nodup_iff.mpr (lt_nodup h))) h fun x => isort_mem
/-- a web has as many ties as a forest just if it is one -/
theorem ties_forest : ∀ (n : Nat) (w : List (List Int)), w.length = n → Wb w → w.length ≤ ties w + (pcs w).length ∧ (ties w + (pcs w).length = w.length ↔ Fst w)
  | 0, w, hn, _ => by
    have : w = [] := List.length_eq_zero_iff.mp hn
    subst this
    refine ⟨by simp, ⟨fun _ t r e => by simp at e, fun _ => rfl⟩⟩
  | n + 1, w', hn, hw' => by
    rcases List.eq_nil_or_concat w' with e | ⟨w, r, e⟩
    · subst e; simp at hn
    rw [List.concat_eq_append] at e
    subst e
    obtain ⟨hw, hra, hr⟩ := hw'.init
    have hl : w.length = n := by rw [List.length_append] at hn; simp at hn; exact hn
    have hl' : (w ++ [r]).length = w.length + 1 := by rw [List.length_append]; rfl
    obtain ⟨ih1, ih2⟩ := ties_forest n w hl hw
    have hP := pcs_prt w
    obtain ⟨hs, hh⟩ := hP.homes hr
    have nx := hh.next (J := cls (w ++ [r]) w.length) hw hP hr (lt_nodup (cls_asc _ _)) fun y => by
      rw [cls_snoc_hi hw hr]
      refine or_congr .rfl ⟨fun ⟨hy, a, ha, c⟩ => ?_, fun ⟨q, h1, h2⟩ => ?_⟩
      · obtain ⟨q, e⟩ := List.mem_iff_getElem?.mp (hP.all a (hr a ha))
        exact ⟨q, hh.mem' hP.nd ha e, by rw [getD_at e]; exact cls_mem.mpr ⟨hy, c.symm⟩⟩
      · obtain ⟨o, ho, e⟩ := hh.mem h1
        rw [getD_at e] at h2
        obtain ⟨ry, c⟩ := cls_mem.mp h2
        exact ⟨ry, o, ho, c.symm⟩
    rw [isort_id hra] at nx
    have c1 := nx.count
    have c2 := newP_len (J := cls (w ++ [r]) w.length) hh
    have e1 : ties (w ++ [r]) = ties w + r.length := by
      unfold ties
      rw [List.map_append, List.sum_append]
      simp
    have dl := dd_le hs
    have hlen := hh.len
    refine ⟨by omega, ⟨fun z => ?_, fun z => ?_⟩⟩
    · have f1 : Fst w := ih2.mp (by omega)
      refine f1.snoc ((hh.nodup hP.nd hr).mp ?_)
      by_cases nd : hs.Nodup
      · exact nd
      · have := dd_lt.mpr nd
        omega
    · obtain ⟨f1, f2⟩ := z.init
      have g1 := ih2.mpr f1
      have nd := (hh.nodup hP.nd hr).mpr f2
      have := dd_len nd fun x => Iff.rfl
      omega

/-! all small forests -/
def srt (L : List (List Int)) : List (List Int) := L.mergeSort fun a b => decide (a ≤ b)
theorem srt_perm (L : List (List Int)) : (srt L).Perm L := List.mergeSort_perm ..
theorem srt_asc (L : List (List Int)) : (srt L).Pairwise fun a b => decide (a ≤ b) = true := by
  have tr : ∀ a b c : List Int, decide (a ≤ b) = true → decide (b ≤ c) = true → decide (a ≤ c) = true := fun a b c h1 h2 => decide_eq_true (List.le_trans (of_decide_eq_true h1) (of_decide_eq_true h2))
  have tot : ∀ a b : List Int, (decide (a ≤ b) || decide (b ≤ a)) = true := fun a b => by
    rw [Bool.or_eq_true, decide_eq_true_iff, decide_eq_true_iff]
    exact List.le_total a b
  exact List.pairwise_mergeSort (le := fun a b : List Int => decide (a ≤ b)) tr tot L
theorem asc_perm {A B : List (List Int)} (hA : A.Pairwise fun a b => decide (a ≤ b) = true) (hB : B.Pairwise fun a b => decide (a ≤ b) = true) (h : A.Perm B) : A = B :=
  List.Perm.eq_of_pairwise (le := fun a b : List Int => decide (a ≤ b) = true) (fun a b _ _ x y => List.le_antisymm (of_decide_eq_true x) (of_decide_eq_true y)) hA hB h
theorem srt_len (L : List (List Int)) : (srt L).length = L.length := (srt_perm L).length_eq
theorem srt_mem {L : List (List Int)} {t : List Int} : t ∈ srt L ↔ t ∈ L := (srt_perm L).mem_iff
/-- the ascending lists of things below n -/
def sbts : Nat → List (List Int)
  | 0 => [[]]
  | n + 1 => sbts n ++ (sbts n).map (· ++ [(n : Int)])
theorem sbts_len : ∀ n, (sbts n).length = 2 ^ n
  | 0 => rfl
  | n + 1 => by
    show (sbts n ++ (sbts n).map (· ++ [(n : Int)])).length = _
    rw [List.length_append, List.length_map, sbts_len n, Nat.pow_succ]
    omega
theorem sbts_mem : ∀ {n : Nat} {t : List Int}, t ∈ sbts n ↔ t.Pairwise (· < ·) ∧ ∀ x ∈ t, 0 ≤ x ∧ x < n
  | 0, t => by
    show t ∈ [[]] ↔ _
    rw [List.mem_singleton]
    constructor
    · rintro rfl; exact ⟨.nil, fun x hx => (List.not_mem_nil hx).elim⟩
    · rintro ⟨_, h⟩
      cases t with
      | nil => rfl
      | cons x l => have := h x List.mem_cons_self; omega
  | n + 1, t => by
    show t ∈ sbts n ++ (sbts n).map (· ++ [(n : Int)]) ↔ _
    rw [List.mem_append, List.mem_map]
    constructor
    · rintro (h | ⟨u, h, rfl⟩)
      · obtain ⟨h1, h2⟩ := sbts_mem.mp h
        exact ⟨h1, fun x hx => by have := h2 x hx; omega⟩
      · obtain ⟨h1, h2⟩ := sbts_mem.mp h
        refine ⟨List.pairwise_append.mpr ⟨h1, by simp, fun a ha b hb => ?_⟩, fun x hx => ?_⟩
        · rw [List.mem_singleton.mp hb]; exact (h2 a ha).2
        · rcases List.mem_append.mp hx with z | z
          · have := h2 x z; omega
          · rw [List.mem_singleton.mp z]; omega
    · rintro ⟨h1, h2⟩
      rcases List.eq_nil_or_concat t with rfl | ⟨u, b, rfl⟩
      · exact .inl (sbts_mem.mpr ⟨.nil, fun x hx => (List.not_mem_nil hx).elim⟩)
      · rw [List.concat_eq_append] at h1 h2 ⊢
        obtain ⟨a1, _, a3⟩ := List.pairwise_append.mp h1
        have hb := h2 b (by simp)
        by_cases c : b = n
        · subst c
          refine .inr ⟨u, sbts_mem.mpr ⟨a1, fun x hx => ?_⟩, rfl⟩
          have := a3 x hx n (by simp)
          have := h2 x (List.mem_append_left _ hx)
          omega
        · refine .inl (sbts_mem.mpr ⟨h1, fun x hx => ?_⟩)
          have := h2 x hx
          rcases List.mem_append.mp hx with z | z
          · have := a3 x z b (by simp); omega
          · rw [List.mem_singleton.mp z] at this ⊢; omega
theorem sbts_nodup : ∀ n, (sbts n).Nodup
  | 0 => by show ([[]] : List (List Int)).Nodup; simp
  | n + 1 => by
    show (sbts n ++ (sbts n).map (· ++ [(n : Int)])).Nodup
    have ih := sbts_nodup n
    rw [List.nodup_iff_pairwise_ne] at ih ⊢
    rw [List.pairwise_append, List.pairwise_map]
    refine ⟨ih, ih.imp fun {a b} h e => h (List.append_cancel_right e), fun a ha b hb e => ?_⟩
    obtain ⟨u, hu, rfl⟩ := List.mem_map.mp hb
    subst e
    have := (sbts_mem.mp ha).2 (n : Int) (by simp)
    omega
/-- no two of the things hang together -/
def Aprt (w : List (List Int)) (t : List Int) : Prop := t.Pairwise fun a b => ¬ Cn w a b
noncomputable def aprB (w : List (List Int)) (t : List Int) : Bool := @decide (Aprt w t) (Classical.propDecidable _)
theorem aprB_iff {w : List (List Int)} {t : List Int} : aprB w t = true ↔ Aprt w t := by
  unfold aprB
  exact @decide_eq_true_iff _ (Classical.propDecidable _)
/-- the lists of ties with which one thing more leaves a forest -/
noncomputable def tl (w : List (List Int)) : List (List Int) := (srt (sbts w.length)).filter (aprB w)
noncomputable def FL : Nat → List (List (List Int))
  | 0 => [[]]
  | n + 1 => (FL n).flatMap fun w => (tl w).map fun t => w ++ [t]
theorem tl_mem {w : List (List Int)} {t : List Int} : t ∈ tl w ↔ (t.Pairwise (· < ·) ∧ ∀ x ∈ t, 0 ≤ x ∧ x < w.length) ∧ Aprt w t := by
  unfold tl
  rw [List.mem_filter, srt_mem, sbts_mem, aprB_iff]
theorem tl_len (w : List (List Int)) : (tl w).length ≤ 2 ^ w.length := by
  unfold tl
  exact Nat.le_trans (List.length_filter_le _ _) (by rw [srt_len, sbts_len]; exact Nat.le_refl _)
theorem FL_ok : ∀ {n : Nat} {w : List (List Int)}, w ∈ FL n → Wb w ∧ w.length = n ∧ Fst w
  | 0, w, h => by
    have : w = [] := List.mem_singleton.mp h
    subst this
    exact ⟨fun t r e => by simp at e, rfl, fun t r e => by simp at e⟩
  | n + 1, w, h => by
    obtain ⟨u, hu, h2⟩ := List.mem_flatMap.mp h
    obtain ⟨t, ht, rfl⟩ := List.mem_map.mp h2
    obtain ⟨a, b, c⟩ := FL_ok hu
    obtain ⟨⟨d1, d2⟩, d3⟩ := tl_mem.mp ht
    exact ⟨a.snoc d1 d2, by rw [List.length_append, b]; rfl, c.snoc d3⟩
theorem FL_all : ∀ {n : Nat} {w : List (List Int)}, Wb w → w.length = n → Fst w → w ∈ FL n
  | 0, w, _, h, _ => by rw [List.length_eq_zero_iff.mp h]; exact List.mem_singleton.mpr rfl
  | n + 1, w, hw, h, hf => by
    rcases List.eq_nil_or_concat w with rfl | ⟨u, t, rfl⟩
    · simp at h
    · rw [List.concat_eq_append] at *
      obtain ⟨f1, f2⟩ := hf.init
      have ul : u.length = n := by rw [List.length_append] at h; simpa using h
      have hu : Wb u := fun j r e => by
        have jl := (List.getElem?_eq_some_iff.mp e).1
        exact hw j r (by rw [List.getElem?_append_left jl]; exact e)
      have ht := hw u.length t (by rw [List.getElem?_append_right (Nat.le_refl _), Nat.sub_self]; rfl)
      exact List.mem_flatMap.mpr ⟨u, FL_all hu ul f1, List.mem_map.mpr ⟨t, tl_mem.mpr ⟨⟨ht.1, fun x hx => by have := ht.2 x hx; omega⟩, f2⟩, rfl⟩⟩
theorem fm_len {α β : Type} {l : List α} {f : α → List β} {k : Nat} (h : ∀ a ∈ l, (f a).length ≤ k) : (l.flatMap f).length ≤ l.length * k := by
  induction l with
  | nil => exact Nat.zero_le _
  | cons a l ih =>
    rw [List.flatMap_cons, List.length_append, List.length_cons, Nat.succ_mul]
    have := h a List.mem_cons_self
    have := ih fun b hb => h b (List.mem_cons_of_mem _ hb)
    omega
theorem FL_len (n : Nat) : (FL (n + 1)).length ≤ (FL n).length * 2 ^ n := by
  show ((FL n).flatMap fun w => (tl w).map fun t => w ++ [t]).length ≤ _
  refine fm_len fun w hw => ?_
  rw [List.length_map]
  have := tl_len w
  rw [(FL_ok hw).2.1] at this
  exact this
theorem FL_few {n : Nat} (h : n ≤ 5) : (FL n).length ≤ 1024 := by
  have l0 : (FL 0).length ≤ 1 := Nat.le_refl _
  have l1 : (FL 1).length ≤ 1 := by have : (FL 1).length ≤ (FL 0).length * 2 ^ 0 := FL_len 0; omega
  have l2 : (FL 2).length ≤ 2 := by have : (FL 2).length ≤ (FL 1).length * 2 ^ 1 := FL_len 1; omega
  have l3 : (FL 3).length ≤ 8 := by have : (FL 3).length ≤ (FL 2).length * 2 ^ 2 := FL_len 2; omega
  have l4 : (FL 4).length ≤ 64 := by have : (FL 4).length ≤ (FL 3).length * 2 ^ 3 := FL_len 3; omega
  have l5 : (FL 5).length ≤ 1024 := by have : (FL 5).length ≤ (FL 4).length * 2 ^ 4 := FL_len 4; omega
  have : n = 0 ∨ n = 1 ∨ n = 2 ∨ n = 3 ∨ n = 4 ∨ n = 5 := by omega
  rcases this with rfl | rfl | rfl | rfl | rfl | rfl <;> omega
/-- one piece more -/
def fstp (F : List (List Int)) (p : List Int) : List (List Int) := F ++ F.flatMap fun t => p.map fun x => isort (t ++ [x])
structure Fnds (w pre F : List (List Int)) : Prop where
  nd : F.Nodup
  mem : ∀ t, t ∈ F ↔ t.Pairwise (· < ·) ∧ Aprt w t ∧ ∀ x ∈ t, ∃ p ∈ pre, x ∈ p
theorem Fnds.nil {w : List (List Int)} : Fnds w [] [[]] := ⟨by simp, fun t => by
  rw [List.mem_singleton]
  constructor
  · rintro rfl; exact ⟨.nil, .nil, fun x hx => (List.not_mem_nil hx).elim⟩
  · rintro ⟨_, _, h⟩
    cases t with
    | nil => rfl
    | cons x l => obtain ⟨p, hp, _⟩ := h x List.mem_cons_self; cases hp⟩
theorem Aprt.perm {w : List (List Int)} {a b : List Int} (h : a.Perm b) : Aprt w a ↔ Aprt w b := h.pairwise_iff fun z q => z q.symm
theorem Fnds.step {w pre post F : List (List Int)} {p : List Int} (e : pcs w = pre ++ p :: post) (h : Fnds w pre F) : Fnds w (pre ++ [p]) (fstp F p) := by
  have q := pcs_prt w
  obtain ⟨s, hs, ep⟩ := q.one p (by rw [e]; simp)
  have np : p ∉ pre := fun z => by
    have := q.nd
    rw [e, List.nodup_append] at this
    exact this.2.2 p z p List.mem_cons_self rfl
  have far : ∀ p' ∈ pre, ∀ y ∈ p', ∀ x ∈ p, ¬ Cn w y x := fun p' hp' y hy x hx hc => by
    obtain ⟨s', hs', ep'⟩ := q.one p' (by rw [e]; exact List.mem_append_left _ hp')
    subst ep
    rw [ep'] at hy hp'
    have c1 := (cls_mem.mp hy).2
    have c2 := (cls_mem.mp hx).2
    have : cls w s' = cls w s := cls_eq ((c1.trans hc).trans c2.symm)
    rw [this] at hp'
    exact np hp'
  have near : ∀ x ∈ p, ∀ y ∈ p, Cn w x y := fun x hx y hy => by
    subst ep
    exact (cls_mem.mp hx).2.symm.trans (cls_mem.mp hy).2
  have out : ∀ {u : List Int}, u ∈ F → ∀ y ∈ u, ∀ x ∈ p, ¬ Cn w y x := fun {u} hu y hy x hx => by
    obtain ⟨p', hp', hy'⟩ := ((h.mem u).mp hu).2.2 y hy
    exact far p' hp' y hy' x hx
  have ninn : ∀ {u : List Int}, u ∈ F → ∀ x ∈ p, x ∉ u := fun {u} hu x hx z => out hu x z x hx .refl
  have inj : ∀ {u v : List Int} {x y : Int}, u ∈ F → v ∈ F → x ∈ p → y ∈ p → isort (u ++ [x]) = isort (v ++ [y]) → u = v ∧ x = y := fun {u v x y} hu hv hx hy ee => by
    have mm : ∀ z, z ∈ u ++ [x] ↔ z ∈ v ++ [y] := fun z => by
      rw [← isort_mem (l := u ++ [x]), ee, isort_mem]
    have exy : x = y := by
      have := (mm x).mp (by simp)
      rcases List.mem_append.mp this with z | z
      · exact absurd z (ninn hv x hx)
      · exact List.mem_singleton.mp z
    subst exy
    refine ⟨asc_uniq ((h.mem u).mp hu).1 ((h.mem v).mp hv).1 fun z => ?_, rfl⟩
    constructor
    · intro hz
      rcases List.mem_append.mp ((mm z).mp (List.mem_append_left _ hz)) with k | k
      · exact k
      · rw [List.mem_singleton.mp k] at hz; exact absurd hz (ninn hu x hx)
    · intro hz
      rcases List.mem_append.mp ((mm z).mpr (List.mem_append_left _ hz)) with k | k
      · exact k
      · rw [List.mem_singleton.mp k] at hz; exact absurd hz (ninn hv x hx)
  refine ⟨?_, fun t => ?_⟩
  · have nd := h.nd
    unfold fstp
    rw [List.nodup_iff_pairwise_ne] at nd ⊢
    rw [List.pairwise_append, List.pairwise_flatMap]
    refine ⟨nd, ⟨fun u hu => ?_, nd.imp_of_mem fun {u v} hu hv ne x hx y hy ee => ?_⟩, fun a ha b hb ee => ?_⟩
    · rw [List.pairwise_map]
      have asc : p.Pairwise (· < ·) := by rw [ep]; exact cls_asc w s
      refine asc.imp_of_mem fun {a b} ha hb ab ee => ?_
      have := (inj hu hu ha hb ee).2
      omega
    · obtain ⟨a, ha, rfl⟩ := List.mem_map.mp hx
      obtain ⟨b, hb, rfl⟩ := List.mem_map.mp hy
      exact ne (inj hu hv ha hb ee).1
    · obtain ⟨u, hu, hb⟩ := List.mem_flatMap.mp hb
      obtain ⟨x, hx, rfl⟩ := List.mem_map.mp hb
      subst ee
      exact ninn ha x hx (isort_mem.mpr (by simp))
  · unfold fstp
    rw [List.mem_append, List.mem_flatMap]
    constructor
    · rintro (z | ⟨u, hu, z⟩)
      · obtain ⟨a1, a2, a3⟩ := (h.mem t).mp z
        exact ⟨a1, a2, fun x hx => by obtain ⟨p', hp', hx'⟩ := a3 x hx; exact ⟨p', List.mem_append_left _ hp', hx'⟩⟩
      · obtain ⟨x, hx, rfl⟩ := List.mem_map.mp z
        obtain ⟨a1, a2, a3⟩ := (h.mem u).mp hu
        have nd : (u ++ [x]).Nodup := by
          rw [List.nodup_append]
          refine ⟨lt_nodup a1, by simp, fun a ha b hb ee => ?_⟩
          rw [List.mem_singleton.mp hb] at ee
          subst ee
          exact ninn hu a hx ha
        refine ⟨lt_of_le_nodup _ (isort_asc _) ((isort_perm _).nodup_iff.mpr nd), (Aprt.perm (isort_perm _)).mpr ?_, fun y hy => ?_⟩
        · refine List.pairwise_append.mpr ⟨a2, by simp, fun a ha b hb => ?_⟩
          rw [List.mem_singleton.mp hb]
          exact out hu a ha x hx
        · rcases List.mem_append.mp (isort_mem.mp hy) with k | k
          · obtain ⟨p', hp', hx'⟩ := a3 y k; exact ⟨p', List.mem_append_left _ hp', hx'⟩
          · rw [List.mem_singleton.mp k]; exact ⟨p, by simp, hx⟩
    · rintro ⟨a1, a2, a3⟩
      by_cases c : ∃ x ∈ t, x ∈ p
      · obtain ⟨x, hx, hxp⟩ := c
        obtain ⟨l1, l2, rfl⟩ := List.append_of_mem hx
        have sub : (l1 ++ l2).Sublist (l1 ++ x :: l2) := List.Sublist.append (List.Sublist.refl _) (List.sublist_cons_self x l2)
        obtain ⟨b1, b2, b3⟩ := List.pairwise_append.mp a2
        rw [List.pairwise_cons] at b2
        refine .inr ⟨l1 ++ l2, (h.mem _).mpr ⟨a1.sublist sub, a2.sublist sub, fun y hy => ?_⟩, List.mem_map.mpr ⟨x, hxp, ?_⟩⟩
        · obtain ⟨p', hp', hy'⟩ := a3 y (sub.subset hy)
          rcases List.mem_append.mp hp' with k | k
          · exact ⟨p', k, hy'⟩
          · rw [List.mem_singleton.mp k] at hy'
            rcases List.mem_append.mp hy with k2 | k2
            · exact absurd (near y hy' x hxp) (b3 y k2 x List.mem_cons_self)
            · exact absurd (near x hxp y hy') (b2.1 y k2)
        · refine (isort_uniq ?_ (a1.imp fun z => Int.le_of_lt z)).symm
          rw [List.append_assoc]
          refine List.Perm.append_left _ ?_
          exact (List.perm_append_singleton x l2).symm
      · refine .inl ((h.mem t).mpr ⟨a1, a2, fun x hx => ?_⟩)
        obtain ⟨p', hp', hx'⟩ := a3 x hx
        rcases List.mem_append.mp hp' with k | k
        · exact ⟨p', k, hx'⟩
        · rw [List.mem_singleton.mp k] at hx'
          exact absurd ⟨x, hx, hx'⟩ c
theorem Fnds.fin {w F : List (List Int)} (h : Fnds w (pcs w) F) : srt F = tl w := by
  refine asc_perm (srt_asc F) (List.Pairwise.filter _ (srt_asc _)) ((srt_perm F).trans ?_)
  refine (List.perm_ext_iff_of_nodup h.nd ?_).mpr fun t => ?_
  · exact ((srt_perm _).nodup_iff.mpr (sbts_nodup _)).sublist List.filter_sublist
  · show _ ↔ t ∈ tl w
    rw [h.mem, tl_mem]
    have q := pcs_prt w
    constructor
    · rintro ⟨a, b, c⟩
      refine ⟨⟨a, fun x hx => ?_⟩, b⟩
      obtain ⟨p, hp, hxp⟩ := c x hx
      obtain ⟨s, hs, rfl⟩ := q.one p hp
      exact (cls_mem.mp hxp).1
    · rintro ⟨⟨a, c⟩, b⟩
      exact ⟨a, b, fun x hx => ⟨_, q.all x (c x hx), cls_self (c x hx)⟩⟩
/-! lists of webs -/
def zNet (w : List (List Int)) : DV := .lst (zWeb w)
def zNets (l : List (List (List Int))) : List DV := l.map zNet
theorem n_len (l : List (List (List Int))) : (zNets l).length = l.length := List.length_map ..
theorem n_app (a b : List (List (List Int))) : zNets a ++ zNets b = zNets (a ++ b) := (List.map_append ..).symm
theorem n_one (w : List (List Int)) : zNets [w] = [.lst (zWeb w)] := rfl
theorem n_inj {a b : List (List (List Int))} : zNets a = zNets b ↔ a = b := by
  constructor
  · intro h
    unfold zNets at h
    induction a generalizing b with
    | nil => cases b with
      | nil => rfl
      | cons y b => cases h
    | cons x a ih => cases b with
      | nil => cases h
      | cons y b =>
        rw [List.map_cons, List.map_cons] at h
        injection h with h1 h2
        rw [w_inj.mp (DV.lst.inj h1), ih h2]
  · rintro rfl; rfl

def sp_ties_lists : PSp := fun xs Q _ => ∃ w : List (List Int), xs = [.lst (zWeb w)] ∧ Wb w ∧ w.length ≤ 5 ∧ Q (.own (.lst (zWeb (tl w))))
theorem fm_map {F : List (List Int)} {p : List Int} : zWeb (F ++ F.flatMap fun t => p.map fun x => isort (t ++ [x])) = zWeb (fstp F p) := rfl
theorem fstp_len {F : List (List Int)} {p : List Int} : (fstp F p).length ≤ F.length * (p.length + 1) := by
  unfold fstp
  rw [List.length_append, Nat.mul_succ]
  have : (F.flatMap fun t => p.map fun x => isort (t ++ [x])).length ≤ F.length * p.length := fm_len fun t _ => by rw [List.length_map]; exact Nat.le_refl _
  omega
def b_ties_lists_1 : DS :=
    (dSetX 1 (dFrz (d2 addF (dVar 1) (dLc2 (iL (dFrz (dVar 1))) (gN 3) dYes (iL (dFrz (dVar 2))) (gN 4) dYes (dFrz (dN sortF (dBcons (d2 addF (dVar 3) (dLst (dAcons (dFrz (dVar 4)) dAnil))) dBnil))) [3, 4] [4]))))
def d_ties_lists : DS :=
    (dSeq (dSetX 1 (dFrz (dLst (dAcons (dFrz (dLst dAnil)) dAnil))))
    (dSeq (dFor (iL (dShift (dFrz (dCallG sp_pieces (dAcons (dFrz (dVar 0)) dAnil))))) (gN 2)
    b_ties_lists_1 [2])
    (dRet (dN sortDF (dBcons (dVar 1) dBnil)))))
def N_ties_lists : List Str := ["web", "found", "piece", "ties", "thing"]
theorem e_ties_lists {v0 : DV} : gSt N_ties_lists [v0] = ⟨[some (.val v0), none, none, none, none], noO⟩ := rfl

theorem l_ties_lists (xs : List DV) (Q : TV → Prop) (E : DErr → Prop) (h : sp_ties_lists xs Q E) : xs.length = 1 := by
  obtain ⟨_, rfl, _⟩ := h; rfl
theorem h_ties_lists (xs : List DV) (Q : TV → Prop) (E : DErr → Prop) (h : sp_ties_lists xs Q E) : d_ties_lists (gSt N_ties_lists xs) (ends Q E) := by
  obtain ⟨w, rfl, hw, hl, h⟩ := h
  rw [e_ties_lists]
  unfold d_ties_lists
  (with_reducible refine go ?_)
  refine ⟨_, rfl, .inr ⟨w, rfl, hw, by omega, fun rs O' hr hf hO => ?_⟩⟩
  (with_reducible refine go ?_)
  refine shift_rows hr fun O2 hO2 => ?_
  (with_reducible refine go ?_)
  have pl : (pcs w).length ≤ 5 := by have := (pcs_prt w).len; omega
  refine forL_inv (inj := zRow) (l := pcs w) (fun pre S => ∃ (F : List (List Int)) (O : OM), S = ⟨[some (.val (.lst (zWeb w))), some (.val (.lst (zWeb F))), none, none, none], O⟩ ∧ Fnds w pre F ∧ F.length ≤ 6 ^ pre.length) ⟨[[]], _, rfl, Fnds.nil, Nat.le_refl _⟩ ?_ ?_
  · rintro pre p post S1 kk e ⟨F, O, rfl, fn, fl⟩ hkk
    have ppl : p.length ≤ 5 := by have := pcs_row (w := w) (r := p) (by rw [e]; simp); omega
    have prl : pre.length ≤ 4 := by rw [e, List.length_append, List.length_cons] at pl; omega
    have f6 : F.length ≤ 1296 := Nat.le_trans fl (Nat.le_trans (Nat.pow_le_pow_right (by decide) prl) (by decide))
    show gN 2 (.lst (zInts p)) _ _
    (with_reducible refine go ?_)
    unfold b_ties_lists_1
    (with_reducible refine go ?_)
    have rowl : ∀ t ∈ F, t.length ≤ 5 := fun t ht => by
      obtain ⟨a1, _, a3⟩ := (fn.mem t).mp ht
      have := nodup_le (n := w.length) (lt_nodup a1) fun x hx => by
        obtain ⟨p', hp', hx'⟩ := a3 x hx
        obtain ⟨s, hs, ep⟩ := (pcs_prt w).one p' (by rw [e]; exact List.mem_append_left _ hp')
        rw [ep] at hx'
        exact (cls_mem.mp hx').1
      omega
    refine lcO_inv (inj := zRow) (l := F) (fun pre2 acc S => acc = zWeb (pre2.flatMap fun t => p.map fun x => isort (t ++ [x])) ∧ S = ⟨[some (.val (.lst (zWeb w))), some (.val (.lst (zWeb F))), some (.val (.lst (zInts p))), none, none], O⟩) ⟨rfl, rfl⟩ ?_ ?_
    · rintro pre2 t post2 acc S2 k2 e2 ⟨rfl, rfl⟩ hk2
      have tF : t ∈ F := by rw [e2]; simp
      have tl5 := rowl t tF
      have pre2l : pre2.length ≤ 1296 := by have := congrArg List.length e2; rw [List.length_append] at this; omega
      have al : (pre2.flatMap fun t => p.map fun x => isort (t ++ [x])).length ≤ pre2.length * 5 := fm_len fun t _ => by rw [List.length_map]; exact ppl
      show gN 3 (.lst (zInts t)) _ _
      (with_reducible refine go ?_)
      refine lcA_pure (inj := DV.int) (l := p) (fun _ => true) (fun x => DV.lst (zInts (isort (t ++ [x])))) (by rw [w_len, sizeLine_eq]; omega) ?_ ?_
      · intro x hx K Kf k1 _
        (with_reducible refine go ?_)
        refine ⟨by rw [z_len, sizeLine_eq]; simp only [List.length_singleton]; omega, ?_⟩
        rw [z_snoc]
        (with_reducible refine go ?_)
        exact k1 rfl _ rfl
      · rw [List.filter_eq_self.mpr fun _ _ => rfl, show p.map (fun x => DV.lst (zInts (isort (t ++ [x])))) = zWeb (p.map fun x => isort (t ++ [x])) by unfold zWeb; rw [List.map_map]; rfl, w_app]
        (with_reducible refine go ?_)
        refine hk2 _ _ ⟨?_, rfl⟩
        rw [List.flatMap_append]
        simp
    rintro acc S2 ⟨rfl, rfl⟩
    (with_reducible refine go ?_)
    have al : (F.flatMap fun t => p.map fun x => isort (t ++ [x])).length ≤ F.length * 5 := fm_len fun t _ => by rw [List.length_map]; exact ppl
    refine ⟨by rw [w_len, w_len, sizeLine_eq]; omega, ?_⟩
    rw [w_app, fm_map]
    (with_reducible refine go ?_)
    refine hkk _ ⟨fstp F p, O, rfl, fn.step e, ?_⟩
    have := fstp_len (F := F) (p := p)
    rw [List.length_append, List.length_singleton, Nat.pow_succ]
    exact Nat.le_trans this (Nat.mul_le_mul fl (by omega))
  · rintro S1 ⟨F, O, rfl, fn, fl⟩
    (with_reducible refine go ?_)
    rw [show F.mergeSort (fun a b => decide (a ≤ b)) = srt F from rfl, fn.fin]
    exact h

def sp_forests : PSp := fun xs Q E => ∃ i : Int, xs = [.int i] ∧ ((0 ≤ i ∧ i ≤ 5) → Q (.val (.lst (zNets (FL i.toNat))))) ∧ (¬ (0 ≤ i ∧ i ≤ 5) → E ⟨"InvalidSize", none⟩)
def b_forests_1 : DS :=
    (dSetX 1 (dFrz (dLc2 (iL (dFrz (dVar 1))) (gN 4) dYes (iL (dFrz (dCall sp_ties_lists (dBcons (dVar 4) dBnil)))) (gN 5) dYes (dFrz (d2 addF (dLc (iL (dFrz (dVar 4))) (gN 3) dYes (dFrz (dN listF (dBcons (dVar 3) dBnil))) [3]) (dLst (dAcons (dFrz (dVar 5)) dAnil)))) [4, 5] [5])))
def d_forests : DS :=
    (dSeq (dDrop (dCall sp_check_size (dBcons (dVar 0) dBnil)))
    (dSeq (dSetX 1 (dFrz (dLst (dAcons (dFrz (dLst dAnil)) dAnil))))
    (dSeq (dFor (iR1 (dVar 0)) (gN 2)
    b_forests_1 [2])
    (dRet (dVar 1)))))
def N_forests : List Str := ["size", "webs", "step", "row", "web", "ties"]
theorem e_forests {v0 : DV} : gSt N_forests [v0] = ⟨[some (.val v0), none, none, none, none, none], noO⟩ := rfl

theorem l_forests (xs : List DV) (Q : TV → Prop) (E : DErr → Prop) (h : sp_forests xs Q E) : xs.length = 1 := by
  obtain ⟨_, rfl, _⟩ := h; rfl
theorem h_forests (xs : List DV) (Q : TV → Prop) (E : DErr → Prop) (h : sp_forests xs Q E) : d_forests (gSt N_forests xs) (ends Q E) := by
  obtain ⟨i, rfl, h1, h2⟩ := h
  rw [e_forests]
  unfold d_forests
  (with_reducible refine go ?_)
  refine ⟨i, rfl, fun hi => ⟨.inl rfl, ?_⟩, fun hi => ⟨.inl rfl, ?_⟩⟩
  case refine_2 => exact h2 hi
  have h1 := h1 hi
  obtain ⟨n, rfl⟩ := Int.eq_ofNat_of_zero_le hi.1
  have n5 : n ≤ 5 := by omega
  (with_reducible refine go ?_)
  refine ⟨⟨by omega, by omega⟩, ?_⟩
  rw [Int.toNat_natCast] at h1 ⊢
  refine forR_inv (fun i S => S = ⟨[some (.val (.int n)), some (.val (.lst (zNets (FL i)))), none, none, none, none], noO⟩) rfl ?_ ?_
  · rintro i S1 kk hi rfl hkk
    have i4 : i ≤ 4 := by omega
    have fi := FL_few (n := i) (by omega)
    (with_reducible refine go ?_)
    unfold b_forests_1
    (with_reducible refine go ?_)
    refine lcO_inv (inj := zNet) (l := FL i) (fun pre acc S => acc = zNets (pre.flatMap fun w => (tl w).map fun t => w ++ [t]) ∧ S = ⟨[some (.val (.int n)), some (.val (.lst (zNets (FL i)))), some (.val (.int (0 + (i : Int)))), none, none, none], noO⟩) ⟨rfl, rfl⟩ ?_ ?_
    · rintro pre w post acc S2 k2 e ⟨rfl, rfl⟩ hk2
      have wF : w ∈ FL i := by rw [e]; simp
      obtain ⟨wb, wl, wf⟩ := FL_ok wF
      have t16 : ∀ w ∈ FL i, (tl w).length ≤ 16 := fun w hw => Nat.le_trans (tl_len w) (by rw [(FL_ok hw).2.1]; exact Nat.le_trans (Nat.pow_le_pow_right (by decide) i4) (by decide))
      have prl : pre.length ≤ 1024 := by have := congrArg List.length e; rw [List.length_append] at this; omega
      have al : (pre.flatMap fun w => (tl w).map fun t => w ++ [t]).length ≤ pre.length * 16 := fm_len fun w hw => by rw [List.length_map]; exact t16 w (by rw [e]; exact List.mem_append_left _ hw)
      show gN 4 (.lst (zWeb w)) _ _
      (with_reducible refine go ?_)
      refine ⟨w, rfl, wb, by omega, .inl rfl, ?_⟩
      (with_reducible refine go ?_)
      refine lcA_pure (inj := zRow) (l := tl w) (fun _ => true) (fun t => zNet (w ++ [t])) (by rw [n_len, sizeLine_eq]; have := t16 w wF; omega) ?_ ?_
      · intro t ht K Kf k1 _
        show gN 5 (.lst (zInts t)) _ _
        (with_reducible refine go ?_)
        refine lc_map (inj := zRow) (l := w) zRow (by rw [sizeLine_eq]; omega) ?_ ?_
        · intro r hr K2 hK2
          show gN 3 (.lst (zInts r)) _ _
          (with_reducible refine go ?_)
          exact hK2 _ rfl
        rw [show w.map zRow = zWeb w from rfl]
        (with_reducible refine go ?_)
        refine ⟨by rw [w_len, sizeLine_eq]; simp only [List.length_singleton]; omega, ?_⟩
        rw [w_snoc]
        (with_reducible refine go ?_)
        exact k1 rfl _ rfl
      · rw [List.filter_eq_self.mpr fun _ _ => rfl, show (tl w).map (fun t => zNet (w ++ [t])) = zNets ((tl w).map fun t => w ++ [t]) by unfold zNets; rw [List.map_map]; rfl, n_app]
        (with_reducible refine go ?_)
        refine hk2 _ _ ⟨?_, rfl⟩
        rw [List.flatMap_append]
        simp
    rintro acc S2 ⟨rfl, rfl⟩
    (with_reducible refine go ?_)
    exact hkk _ rfl
  · rintro S1 rfl
    (with_reducible refine go ?_)
    exact h1

def sp_law_is_forest : PSp := fun xs Q _ => ∃ w, xs = [.lst (zWeb w)] ∧ Wb w ∧ w.length ≤ 1000 ∧ Q (.val (.bl (fstB w)))
theorem Fst.pre {w u : List (List Int)} (h : Fst (w ++ u)) : Fst w := fun t r e => by
  have tl := (List.getElem?_eq_some_iff.mp e).1
  have := h t r (by rw [List.getElem?_append_left tl]; exact e)
  rwa [List.take_append_of_le_length (by omega)] at this
def b_law_is_forest_1 : DS :=
    (dSeq (dSetX 3 (dFrz (dLc (iL (dFrz (d2 idxF (dVar 0) (dVar 2)))) (gN 4) dYes (dFrz (d2 idxF (dVar 1) (dVar 4))) [4])))
    (dSeq (dIf (dTest (d2 ltF (d1 lenSetF (dVar 3)) (dN lenF (dBcons (dVar 3) dBnil)))) (dRet (dC (.bl false))) dNext)
    (dSetX 1 (dFrz (d2 addF (dLc (iL (dFrz (dVar 1))) (gN 5) dYes (dFrz (dIfV (dTest (d2 (inF false) (dVar 5) (dVar 3))) (dVar 2) (dVar 5))) [5]) (dLst (dAcons (dFrz (dVar 2)) dAnil)))))))
def d_law_is_forest : DS :=
    (dSeq (dSetX 1 (dFrz (dLst dAnil)))
    (dSeq (dFor (iR1 (dN lenF (dBcons (dVar 0) dBnil))) (gN 2)
    b_law_is_forest_1 [2, 3])
    (dRet (dC (.bl true)))))
def N_law_is_forest : List Str := ["web", "labels", "thing", "joined", "tied", "label"]
theorem e_law_is_forest {v0 : DV} : gSt N_law_is_forest [v0] = ⟨[some (.val v0), none, none, none, none, none], noO⟩ := rfl

theorem l_law_is_forest (xs : List DV) (Q : TV → Prop) (E : DErr → Prop) (h : sp_law_is_forest xs Q E) : xs.length = 1 := by
  obtain ⟨_, rfl, _⟩ := h; rfl
theorem h_law_is_forest (xs : List DV) (Q : TV → Prop) (E : DErr → Prop) (h : sp_law_is_forest xs Q E) : d_law_is_forest (gSt N_law_is_forest xs) (ends Q E) := by
  obtain ⟨w, rfl, hw, wl, h⟩ := h
  rw [e_law_is_forest]
  unfold d_law_is_forest
  (with_reducible refine go ?_)
  rw [w_len]
  refine ⟨⟨by omega, by omega⟩, ?_⟩
  rw [Int.toNat_natCast]
  refine forR_inv (fun i S => ∃ L, S = ⟨[some (.val (.lst (zWeb w))), some (.val (.lst (zInts L))), none, none, none, none], noO⟩ ∧ LbC (w.take i) L ∧ Fst (w.take i)) ⟨[], rfl, LbC.nil, fun t r e => by simp at e⟩ ?_ ?_
  · rintro i S1 k hi ⟨L, rfl, lb, fs⟩ hk
    have hi : i < w.length := hi
    have er : w[i]? = some (w.getD i []) := by rw [List.getD_eq_getElem?_getD, List.getElem?_eq_getElem hi]; rfl
    obtain ⟨ra, rr⟩ := hw _ _ er
    have rl := hw.row_len er
    have tl : (w.take i).length = i := by rw [List.length_take]; omega
    have tk : w.take (i + 1) = w.take i ++ [w.getD i []] := by rw [List.take_succ, er]; rfl
    have wsp : w = w.take (i + 1) ++ w.drop (i + 1) := (List.take_append_drop _ _).symm
    have ll := lb.len
    rw [tl] at ll
    generalize er2 : w.getD i [] = r at *
    (with_reducible refine go ?_)
    rw [Int.zero_add]
    unfold b_law_is_forest_1
    (with_reducible refine go ?_)
    rw [w_atI (by omega) (by omega), Int.toNat_natCast, er2]
    (with_reducible refine go ?_)
    refine lc_map (inj := DV.int) (l := r) (fun o => DV.int (L.getD o.toNat 0)) (by rw [sizeLine_eq]; omega) ?_ ?_
    · intro o ho K hK
      have ro := rr o ho
      (with_reducible refine go ?_)
      rw [z_atI ro.1 (by rw [ll]; omega)]
      (with_reducible refine go ?_)
      exact hK _ rfl
    rw [show r.map (fun o => DV.int (L.getD o.toNat 0)) = zInts (r.map fun o => L.getD o.toNat 0) by simp [zInts]]
    have nd := lb.nodup_iff (r := r) (by rw [tl]; exact rr)
    generalize eJ : (r.map fun o => L.getD o.toNat 0) = J at nd
    have Jl : J.length ≤ 1000 := by rw [← eJ, List.length_map]; omega
    (with_reducible refine go ?_)
    refine ⟨by omega, ?_⟩
    (with_reducible refine go ?_)
    rw [z_len]
    (with_reducible refine ite_go (fun c => ?_) (fun c => ?_))
    · (with_reducible refine go ?_)
      have nf : ¬ Fst w := fun z => by
        rw [wsp] at z
        have z := z.pre
        rw [tk] at z
        have := nd.mpr z.init.2
        exact dd_lt.mp (by omega) this
      rw [fstB_no nf] at h
      exact h
    · (with_reducible refine go ?_)
      refine lc_map (inj := DV.int) (l := L) (fun v => DV.int (if v ∈ J then (i : Int) else v)) (by rw [ll, sizeLine_eq]; omega) ?_ ?_
      · intro v hv K hK
        (with_reducible refine go ?_)
        (with_reducible refine ite_go (fun c => ?_) (fun c => ?_))
        · (with_reducible refine go ?_)
          rw [if_pos c] at hK
          exact hK _ rfl
        · (with_reducible refine go ?_)
          rw [if_neg c] at hK
          exact hK _ rfl
      rw [show L.map (fun v => DV.int (if v ∈ J then (i : Int) else v)) = zInts (L.map fun v => if v ∈ J then (i : Int) else v) by simp [zInts]]
      (with_reducible refine go ?_)
      refine ⟨by rw [z_len, List.length_map, ll, sizeLine_eq]; show _ + 1 ≤ _; omega, ?_⟩
      (with_reducible refine go ?_)
      rw [z_snoc]
      have un := nd.mp (Classical.byContradiction fun z => c (by have := dd_lt.mpr z; omega))
      refine hk _ ⟨newL L i J, rfl, ?_, by rw [tk]; exact fs.snoc un⟩
      have := lb.snoc (hw.take i) (r := r) (by rw [tl]; exact rr)
      rw [tl, eJ] at this
      rw [tk]
      exact this
  · rintro S1 ⟨L, rfl, lb, fs⟩
    rw [List.take_length] at fs
    (with_reducible refine go ?_)
    rw [fstB_yes fs] at h
    exact h

theorem n_pu : ∀ L : List (List (List Int)), puA (zNets L) = true
  | [] => rfl
  | w :: L => by
    show (pu (.lst (zWeb w)) && puA (zNets L)) = true
    rw [pw, n_pu L]; rfl
theorem n_dp : ∀ L : List (List (List Int)), dpA (zNets L) ≤ 3
  | [] => Nat.zero_le _
  | w :: L => by
    show max (dp (.lst (zWeb w))) (dpA (zNets L)) ≤ 3
    have := n_dp L
    have h : dp (.lst (zWeb w)) ≤ 2 := by have := w_dp w; simp only [dp]; omega
    omega
theorem n_mem {L : List (List (List Int))} {w : List (List Int)} : DV.lst (zWeb w) ∈ zNets L ↔ w ∈ L := by
  unfold zNets zNet
  rw [List.mem_map]
  refine ⟨fun ⟨s, h, e⟩ => ?_, fun h => ⟨w, h, rfl⟩⟩
  rw [← w_inj.mp (DV.lst.inj e)]; exact h
instance p_in_n {w : List (List Int)} {L : List (List (List Int))} {k : TV → Prop} : Step (onS (inF false (.lst (zWeb w)) (.lst (zNets L))) k) (k (.val (.bl (decide (w ∈ L))))) := ⟨fun h => by
  show onS (inP false (.lst (zWeb w)) (zNets L)) k
  rw [inP_pu (c := w ∈ L) pw (n_pu L) dw (by have := n_dp L; omega) n_mem]; exact h⟩
instance p_notin_n {w : List (List Int)} {L : List (List (List Int))} {k : TV → Prop} : Step (onS (inF true (.lst (zWeb w)) (.lst (zNets L))) k) (k (.val (.bl (!decide (w ∈ L))))) := ⟨fun h => by
  show onS (inP true (.lst (zWeb w)) (zNets L)) k
  rw [inP_pu (c := w ∈ L) pw (n_pu L) dw (by have := n_dp L; omega) n_mem]; exact h⟩

def sp_law_listed : PSp := fun xs Q _ => ∃ (w : List (List Int)), xs = [.lst (zWeb w)] ∧ Wb w ∧ w.length ≤ 5 ∧ Q (.val (.bl true))
def d_law_listed : DS :=
    (dSeq (dSetX 1 (dFrz (dCall sp_forests (dBcons (dN lenF (dBcons (dVar 0) dBnil)) dBnil))))
    (dSeq (dSetX 2 (dFrz (dCall sp_law_is_forest (dBcons (dVar 0) dBnil))))
    (dSeq (dSetX 3 (dFrz (dCall sp_is_forest (dBcons (dLc (iL (dFrz (dVar 0))) (gN 4) dYes (dFrz (dN listF (dBcons (dVar 4) dBnil))) [4]) dBnil))))
    (dRet (dAndV (d2 eqF (d2 (inF false) (dVar 0) (dVar 1)) (dVar 2)) (dAndV (dN isiF (dBcons (dVar 3) (dBcons (dC (.ty "bool")) dBnil))) (d2 eqF (dVar 3) (dVar 2))))))))
def N_law_listed : List Str := ["web", "rows", "due", "told", "ties"]
theorem e_law_listed {v0 : DV} : gSt N_law_listed [v0] = ⟨[some (.val v0), none, none, none, none], noO⟩ := rfl

theorem l_law_listed (xs : List DV) (Q : TV → Prop) (E : DErr → Prop) (h : sp_law_listed xs Q E) : xs.length = 1 := by
  obtain ⟨_, rfl, _⟩ := h; rfl
theorem h_law_listed (xs : List DV) (Q : TV → Prop) (E : DErr → Prop) (h : sp_law_listed xs Q E) : d_law_listed (gSt N_law_listed xs) (ends Q E) := by
  obtain ⟨w, rfl, hw, hl, h⟩ := h
  have rows : ∀ s ∈ w, s.length ≤ 5 := fun s hs => by
    obtain ⟨t, ht⟩ := List.mem_iff_getElem?.mp hs
    have := hw.row_len ht
    have := (List.getElem?_eq_some_iff.mp ht).1
    omega
  rw [e_law_listed]
  unfold d_law_listed
  (with_reducible refine go ?_)
  rw [w_len]
  refine ⟨_, rfl, fun _ => ⟨.inl rfl, ?_⟩, fun z => absurd ⟨by omega, by omega⟩ z⟩
  rw [Int.toNat_natCast]
  (with_reducible refine go ?_)
  refine ⟨w, rfl, hw, by omega, .inl rfl, ?_⟩
  (with_reducible refine go ?_)
  refine lc_map (inj := zRow) (l := w) zRow (by rw [sizeLine_eq]; omega) ?_ ?_
  · intro s hs K hK
    have := rows s hs
    show gN 4 (.lst (zInts s)) _ _
    (with_reducible refine go ?_)
    exact hK _ rfl
  rw [show w.map zRow = zWeb w from rfl]
  (with_reducible refine go ?_)
  refine ⟨_, rfl, .inr ⟨w, rfl, hw, by omega, .inr rfl, ?_⟩⟩
  have mem : decide (w ∈ FL w.length) = fstB w := by
    by_cases c : Fst w
    · rw [fstB_yes c]
      exact decide_eq_true (FL_all hw rfl c)
    · have : ¬ w ∈ FL w.length := fun z => c (FL_ok z).2.2
      rw [decide_eq_false this, fstB_no c]
  (with_reducible refine go ?_)
  rw [mem]
  rw [if_pos (beq_self_eq_true _)]
  (with_reducible refine go ?_)
  rw [beq_self_eq_true]
  exact h

/-! the small forests ascend, and how many there are -/
theorem lt_app_of {s t : List Int} : ∀ {w u : List (List Int)}, w.length = u.length → w < u → w ++ [s] < u ++ [t]
  | [], [], _, h => absurd h (List.not_lt_nil _)
  | r :: w, q :: u, e, h => by
    rw [List.cons_append, List.cons_append, List.cons_lt_cons_iff]
    rcases List.cons_lt_cons_iff.mp h with z | ⟨z, y⟩
    · exact .inl z
    · exact .inr ⟨z, lt_app_of (by simpa using e) y⟩
theorem lt_app_same {s t : List Int} (h : s < t) : ∀ w : List (List Int), w ++ [s] < w ++ [t]
  | [] => List.cons_lt_cons_iff.mpr (.inl h)
  | r :: w => by
    rw [List.cons_append, List.cons_append, List.cons_lt_cons_iff]
    exact .inr ⟨rfl, lt_app_same h w⟩
theorem tl_lt (w : List (List Int)) : (tl w).Pairwise (· < ·) := by
  unfold tl
  refine List.Pairwise.filter _ ?_
  have nd : (srt (sbts w.length)).Nodup := (srt_perm _).nodup_iff.mpr (sbts_nodup _)
  refine (srt_asc (sbts w.length)).imp₂ (fun a b h ne => ?_) (List.nodup_iff_pairwise_ne.mp nd)
  have le := of_decide_eq_true h
  exact List.not_le.mp fun z => ne (List.le_antisymm le z)
theorem FL_lt : ∀ n, (FL n).Pairwise (· < ·)
  | 0 => List.pairwise_singleton _ _
  | n + 1 => by
    show ((FL n).flatMap fun w => (tl w).map fun t => w ++ [t]).Pairwise (· < ·)
    rw [List.pairwise_flatMap]
    refine ⟨fun w _ => ?_, (FL_lt n).imp_of_mem fun {w u} hw hu h x hx y hy => ?_⟩
    · rw [List.pairwise_map]
      exact (tl_lt w).imp fun h => lt_app_same h w
    · obtain ⟨s, _, rfl⟩ := List.mem_map.mp hx
      obtain ⟨t, _, rfl⟩ := List.mem_map.mp hy
      exact lt_app_of (by rw [(FL_ok hw).2.1, (FL_ok hu).2.1]) h
/-! counts -/
def okL (L t : List Int) : Bool := decide ((t.map fun o => L.getD o.toNat 0).Nodup)
def cntL : Nat → List Int → Nat
  | 0, _ => 1
  | k + 1, L => (((sbts L.length).filter (okL L)).map fun t => cntL k (newL L (L.length : Nat) (t.map fun o => L.getD o.toNat 0))).sum
noncomputable def extN : Nat → List (List Int) → Nat
  | 0, _ => 1
  | k + 1, w => ((tl w).map fun t => extN k (w ++ [t])).sum
theorem sumN_perm {l k : List Nat} (h : l.Perm k) : l.sum = k.sum := by
  induction h with
  | nil => rfl
  | cons x _ ih => rw [List.sum_cons, List.sum_cons, ih]
  | swap x y l => rw [List.sum_cons, List.sum_cons, List.sum_cons, List.sum_cons]; omega
  | trans _ _ h1 h2 => exact h1.trans h2
theorem ext_cnt : ∀ (k : Nat) (w : List (List Int)) (L : List Int), Wb w → LbC w L → extN k w = cntL k L
  | 0, _, _, _, _ => rfl
  | k + 1, w, L, hw, lb => by
    show ((tl w).map fun t => extN k (w ++ [t])).sum = (((sbts L.length).filter (okL L)).map fun t => cntL k (newL L (L.length : Nat) (t.map fun o => L.getD o.toNat 0))).sum
    have e1 : ((tl w).map fun t => extN k (w ++ [t])) = (tl w).map fun t => cntL k (newL L (w.length : Nat) (t.map fun o => L.getD o.toNat 0)) := List.map_congr_left fun t ht => by
      obtain ⟨⟨a, b⟩, _⟩ := tl_mem.mp ht
      exact ext_cnt k (w ++ [t]) _ (hw.snoc a b) (lb.snoc hw b)
    rw [e1, lb.len]
    refine sumN_perm (List.Perm.map _ ?_)
    unfold tl
    refine ((srt_perm (sbts w.length)).filter _).trans ?_
    have e2 : (sbts w.length).filter (aprB w) = (sbts w.length).filter (okL L) := List.filter_congr fun t ht => by
      obtain ⟨_, b⟩ := sbts_mem.mp ht
      have i := lb.nodup_iff b
      cases q : okL L t with
      | true => exact aprB_iff.mpr (i.mp (of_decide_eq_true q))
      | false =>
        cases q2 : aprB w t with
        | false => rfl
        | true =>
          have := decide_eq_true (i.mpr (aprB_iff.mp q2))
          unfold okL at q
          rw [this] at q
          cases q
    rw [e2]
theorem sum_fm {f : List (List Int) → List (List (List Int))} {g : List (List Int) → Nat} : ∀ l : List (List (List Int)), ((l.flatMap f).map g).sum = (l.map fun w => ((f w).map g).sum).sum
  | [] => rfl
  | w :: l => by rw [List.flatMap_cons, List.map_append, List.sum_append, List.map_cons, List.sum_cons, sum_fm l]
theorem FL_ext : ∀ (k n : Nat), ((FL n).map (extN k)).sum = (FL (n + k)).length
  | 0, n => by
    have : ∀ l : List (List (List Int)), (l.map (extN 0)).sum = l.length := fun l => by
      induction l with
      | nil => rfl
      | cons a l ih => rw [List.map_cons, List.sum_cons, ih, List.length_cons]; show 1 + l.length = _; omega
    exact this _
  | k + 1, n => by
    have e := FL_ext k (n + 1)
    rw [show n + 1 + k = n + (k + 1) by omega] at e
    rw [← e]
    show ((FL n).map (extN (k + 1))).sum = (((FL n).flatMap fun w => (tl w).map fun t => w ++ [t]).map (extN k)).sum
    rw [sum_fm]
    refine congrArg List.sum (List.map_congr_left fun w _ => ?_)
    show ((tl w).map fun t => extN k (w ++ [t])).sum = _
    rw [List.map_map]
    rfl
theorem FL_count (k : Nat) : (FL k).length = cntL k [] := by
  have := FL_ext k 0
  rw [Nat.zero_add] at this
  rw [← this]
  show extN k [] + 0 = _
  rw [Nat.add_zero]
  exact ext_cnt k [] [] (fun t r e => by simp at e) LbC.nil
theorem FL_counts : [(FL 0).length, (FL 1).length, (FL 2).length, (FL 3).length, (FL 4).length, (FL 5).length] = [1, 1, 2, 7, 38, 291] := by
  simp only [FL_count]
  decide +kernel

theorem w_cutTo5 {w : List (List Int)} (n : Nat) : L3.cutD (zWeb w) none (some (n : Int)) = zWeb (w.take n) := by
  rw [L3.cut_to (by omega), Int.toNat_natCast]
  simp [zWeb, List.map_take]
theorem n_at {L : List (List (List Int))} {k : Nat} (h : k < L.length) : atI (zNets L) (k : Int) = some (.lst (zWeb L[k])) := by
  rw [at_nat (by unfold zNets; rw [List.length_map]; exact h)]
  unfold zNets zNet
  rw [List.getElem_map]
theorem FL_take {n : Nat} {w : List (List Int)} (h : w ∈ FL n) : w.take (n - 1) ∈ FL (n - 1) := by
  obtain ⟨hw, hl, hf⟩ := FL_ok h
  have e : w = w.take (n - 1) ++ w.drop (n - 1) := (List.take_append_drop ..).symm
  refine FL_all (fun t r er => ?_) (by rw [List.length_take]; omega) (Fst.pre (u := w.drop (n - 1)) (by rw [← e]; exact hf))
  rw [List.getElem?_take] at er
  split at er
  · exact hw t r er
  · cases er
theorem FL_tab {n : Nat} (h : n ≤ 5) : atI [DV.int 1, DV.int 1, DV.int 2, DV.int 7, DV.int 38, DV.int 291] (n : Int) = some (.int ((FL n).length : Nat)) := by
  have c := FL_counts
  simp only [List.cons.injEq] at c
  obtain ⟨c0, c1, c2, c3, c4, c5, _⟩ := c
  match n, h with
  | 0, _ => rw [c0]; rfl
  | 1, _ => rw [c1]; rfl
  | 2, _ => rw [c2]; rfl
  | 3, _ => rw [c3]; rfl
  | 4, _ => rw [c4]; rfl
  | 5, _ => rw [c5]; rfl
  | n + 6, h => omega
def sp_law_ascends : PSp := fun xs Q _ => ∃ n : Nat, xs = [.int n] ∧ n ≤ 5 ∧ Q (.val (.bl true))
def b_law_ascends_1 : DS :=
    (dSeq (dIf (dOr (dTest (d2 neF (dN lenF (dBcons (d2 idxF (dVar 1) (dVar 3)) dBnil)) (dVar 0))) (dTest (d2 (inF true) (dSl (d2 idxF (dVar 1) (dVar 3)) dNoPart (dPart (dN max2F (dBcons (d2 subF (dVar 0) (dC (.int 1))) (dBcons (dC (.int 0)) dBnil))))) (dVar 2)))) (dRet (dC (.bl false))) dNext)
    (dIf (dAnd (dTest (d2 gtF (dVar 3) (dC (.int 0)))) (dNot (dTest (d2 ltDF (d2 idxF (dVar 1) (d2 subF (dVar 3) (dC (.int 1)))) (d2 idxF (dVar 1) (dVar 3)))))) (dRet (dC (.bl false))) dNext))
def d_law_ascends : DS :=
    (dSeq (dSetX 1 (dFrz (dCall sp_forests (dBcons (dVar 0) dBnil))))
    (dSeq (dSetX 2 (dFrz (dCall sp_forests (dBcons (dN max2F (dBcons (d2 subF (dVar 0) (dC (.int 1))) (dBcons (dC (.int 0)) dBnil))) dBnil))))
    (dSeq (dFor (iR1 (dN lenF (dBcons (dVar 1) dBnil))) (gN 3)
    b_law_ascends_1 [3])
    (dRet (d2 eqF (dN lenF (dBcons (dVar 1) dBnil)) (d2 idxF (dLst (dAcons (dFrz (dC (.int 1))) (dAcons (dFrz (dC (.int 1))) (dAcons (dFrz (dC (.int 2))) (dAcons (dFrz (dC (.int 7))) (dAcons (dFrz (dC (.int 38))) (dAcons (dFrz (dC (.int 291))) dAnil))))))) (dVar 0)))))))
def N_law_ascends : List Str := ["size", "rows", "below", "k"]
theorem e_law_ascends {v0 : DV} : gSt N_law_ascends [v0] = ⟨[some (.val v0), none, none, none], noO⟩ := rfl

theorem l_law_ascends (xs : List DV) (Q : TV → Prop) (E : DErr → Prop) (h : sp_law_ascends xs Q E) : xs.length = 1 := by
  obtain ⟨_, rfl, _⟩ := h; rfl
theorem h_law_ascends (xs : List DV) (Q : TV → Prop) (E : DErr → Prop) (h : sp_law_ascends xs Q E) : d_law_ascends (gSt N_law_ascends xs) (ends Q E) := by
  obtain ⟨n, rfl, hn, h⟩ := h
  have few := FL_few hn
  have mx : (if 0 > (n : Int) - 1 then 0 else (n : Int) - 1) = ((n - 1 : Nat) : Int) := by split <;> omega
  rw [e_law_ascends]
  unfold d_law_ascends
  (with_reducible refine go ?_)
  refine ⟨_, rfl, fun _ => ⟨.inl rfl, ?_⟩, fun z => absurd ⟨by omega, by omega⟩ z⟩
  rw [Int.toNat_natCast]
  (with_reducible refine go ?_)
  rw [mx]
  refine ⟨_, rfl, fun _ => ⟨.inl rfl, ?_⟩, fun z => absurd ⟨by omega, by omega⟩ z⟩
  rw [Int.toNat_natCast]
  have fewB := FL_few (show n - 1 ≤ 5 by omega)
  have nl : (zNets (FL n)).length = (FL n).length := by unfold zNets; rw [List.length_map]
  (with_reducible refine go ?_)
  rw [nl]
  refine ⟨⟨by omega, by omega⟩, ?_⟩
  rw [Int.toNat_natCast]
  refine forR_inv (fun i S => S = ⟨[some (.val (.int n)), some (.val (.lst (zNets (FL n)))), some (.val (.lst (zNets (FL (n - 1))))), none], noO⟩) rfl ?_ ?_
  · rintro i S1 k hi rfl hk
    have hi : i < (FL n).length := hi
    have mem : (FL n)[i] ∈ FL n := List.getElem_mem hi
    have len := (FL_ok mem).2.1
    (with_reducible refine go ?_)
    rw [Int.zero_add]
    unfold b_law_ascends_1
    (with_reducible refine go ?_)
    rw [n_at hi]
    (with_reducible refine go ?_)
    rw [w_len, len, if_pos rfl]
    (with_reducible refine go ?_)
    rw [n_at hi]
    (with_reducible refine go ?_)
    rw [mx, w_cutTo5]
    (with_reducible refine go ?_)
    rw [if_pos (FL_take mem)]
    (with_reducible refine go ?_)
    (with_reducible refine ite_go (fun c => ?_) (fun c => ?_))
    · (with_reducible refine go ?_)
      rw [show (i : Int) - 1 = ((i - 1 : Nat) : Int) by omega, n_at (show i - 1 < (FL n).length by omega)]
      (with_reducible refine go ?_)
      rw [n_at hi]
      (with_reducible refine go ?_)
      rw [if_pos (List.pairwise_iff_getElem.mp (FL_lt n) (i - 1) i (by omega) hi (by omega))]
      (with_reducible refine go ?_)
      exact hk _ rfl
    · (with_reducible refine go ?_)
      exact hk _ rfl
  · rintro S1 rfl
    (with_reducible refine go ?_)
    rw [FL_tab hn]
    (with_reducible refine go ?_)
    rw [nl, decide_eq_true rfl]
    exact h

/-! a web of values, shifted, stays -/
theorem shift_web {w : List (List Int)} {g : List (Option SV)} {O : OM} {Q : DV → DSt → Prop} (q : Q (.lst (zWeb w)) ⟨g, O⟩) : shiftK (.lst (zWeb w)) ⟨g, O⟩ Q := by
  refine ⟨fun _ => none, fun a xs e => (by cases e), ?_⟩
  have e : fz (fun _ => none) (.lst (zWeb w)) = .lst (zWeb w) := by
    unfold fz
    rw [fzs_w]
  rw [e]
  exact q

def sp_law : PSp := fun xs Q _ => ∃ ns : List Int, xs = [.seq (zInts ns)] ∧ ns.length ≤ 63 ∧ Q (.val (.bl true))
theorem rng_thg65 (n : Nat) : rngD 0 n = zInts (thg n) := by
  unfold rngD zInts thg
  rw [List.map_map]
  refine List.map_congr_left fun i _ => ?_
  simp
def b_law_1 : DS :=
    (dSeq (dSetR 2 (dCall sp_law_source (dBcons (dVar 0) (dBcons (dVar 1) dBnil))))
    (dSeq (dSetX 3 (dFrz (dCallG sp_law_draw_c (dAcons (dFrz (dVar 2)) (dAcons (dFrz (dC (.int 2))) dAnil)))))
    (dSeq (dSetX 4 (dFrz (dCallG sp_law_draw_c (dAcons (dFrz (dVar 2)) (dAcons (dFrz (dC (.int 6))) dAnil)))))
    (dSeq (dSetX 5 (dFrz (d2 addF (dC (.int 1)) (dCallG sp_law_draw_c (dAcons (dFrz (dVar 2)) (dAcons (dFrz (dC (.int 4))) dAnil))))))
    (dJoin (dIf (dTest (d2 eqF (dVar 3) (dC (.int 0)))) (dSetX 6 (dShift (dFrz (dCallG sp_law_web_b (dAcons (dFrz (dVar 2)) (dAcons (dFrz (dVar 4)) (dAcons (dFrz (dVar 5)) dAnil))))))) (dSetX 6 (dShift (dFrz (dCallG sp_law_forest_b (dAcons (dFrz (dVar 2)) (dAcons (dFrz (dVar 4)) (dAcons (dFrz (dVar 5)) dAnil))))))))
    (dSeq (dIf (dOr (dNot (dTest (dCall sp_law_listed (dBcons (dVar 6) dBnil)))) (dNot (dTest (dCall sp_law_listed (dBcons (dVal (dFrz (dSl (dVar 6) dNoPart (dPart (dN max2F (dBcons (d2 subF (dVar 4) (dC (.int 1))) (dBcons (dC (.int 0)) dBnil))))))) dBnil))))) (dRet (dC (.bl false))) dNext)
    (dIf (dTest (d2 ltF (dVar 4) (dC (.int 5)))) (dSeq (dSetX 7 (dFrz (dCallG sp_law_chosen (dAcons (dFrz (dVar 2)) (dAcons (dFrz (dLR1 (dVar 4))) (dAcons (dFrz (dC (.int 2))) dAnil))))))
    (dIf (dOr (dNot (dTest (dCall sp_law_listed (dBcons (d2 addF (dVar 6) (dLst (dAcons (dFrz (dVar 7)) dAnil))) dBnil)))) (dNot (dTest (dCall sp_law_ascends (dBcons (dVar 4) dBnil))))) (dRet (dC (.bl false))) dNext)) (dIf (dAnd (dTest (d2 eqF (dVar 1) (dC (.int 0)))) (dNot (dTest (dCall sp_law_ascends (dBcons (dC (.int 5)) dBnil))))) (dRet (dC (.bl false))) dNext))))))))
def d_law : DS :=
    (dSeq (dFor (iR1 (dC (.int 3))) (gN 1)
    b_law_1 [1, 2, 3, 4, 5, 6, 7])
    (dRet (dC (.bl true))))
def N_law : List Str := ["script", "place", "source", "kind", "many", "share", "web", "more"]
theorem e_law {v0 : DV} : gSt N_law [v0] = ⟨[some (.val v0), none, none, none, none, none, none, none], noO⟩ := rfl

theorem l_law (xs : List DV) (Q : TV → Prop) (E : DErr → Prop) (h : sp_law xs Q E) : xs.length = 1 := by
  obtain ⟨_, rfl, _⟩ := h; rfl
theorem law_true (ns : List Int) (h : ns.length ≤ 63) : sp_law [.seq (zInts ns)] (fun y => y = .val (.bl true)) fun _ => False := ⟨ns, rfl, h, rfl⟩
theorem h_law (xs : List DV) (Q : TV → Prop) (E : DErr → Prop) (h : sp_law xs Q E) : d_law (gSt N_law xs) (ends Q E) := by
  obtain ⟨ns, rfl, hl, hQ⟩ := h
  rw [e_law]
  unfold d_law
  (with_reducible refine go ?_)
  refine ⟨⟨by omega, by omega⟩, ?_⟩
  refine forR_inv (fun i S => ∃ (O : OM), S = ⟨[some (.val (.seq (zInts ns))), none, none, none, none, none, none, none], O⟩) ⟨noO, rfl⟩ ?_ ?_
  · rintro i S1 kn hi ⟨O, rfl⟩ hkn
    have il : i ≤ 3 := by
      have : i < (3 : Int).toNat := hi
      omega
    (with_reducible refine go ?_)
    unfold b_law_1
    (with_reducible refine go ?_)
    rw [Int.zero_add]
    refine ⟨ns, i, rfl, by omega, fun q1 q2 q3 => ⟨.inr rfl, ?_⟩⟩
    (with_reducible refine go ?_)
    intro p hp
    have d0 : Src (updO O p (.lst [.int q1, .int q2, .bl q3])) p := ⟨_, _, _, updO_same⟩
    generalize updO O p (.lst [.int q1, .int q2, .bl q3]) = O1 at d0
    (with_reducible refine go ?_)
    refine ⟨p, 2, rfl, d0, by decide, by decide, fun kd O2 k0 k1 d2 b2 => ?_⟩
    (with_reducible refine go ?_)
    refine ⟨p, 6, rfl, d2, by decide, by decide, fun m O3 m0 m1 d3 b3 => ?_⟩
    obtain ⟨n, rfl⟩ := Int.eq_ofNat_of_zero_le m0
    (with_reducible refine go ?_)
    refine ⟨p, 4, rfl, d3, by decide, by decide, fun y O4 y0 y1 d4 b4 => ?_⟩
    (with_reducible refine go ?_)
    (with_reducible show dJoin _ _ _ _)
    refine join (fun S => ∃ (w : List (List Int)) (O2 : OM), S = ⟨[some (.val (.seq (zInts ns))), some (.val (.int i)), some (.rf p), some (.val (.int kd)), some (.val (.int n)), some (.val (.int (1 + y))), some (.val (.lst (zWeb w))), none], O2⟩ ∧ Wb w ∧ w.length = n ∧ Src O2 p) ?_ ?_
    · intro k2 hk2
      (with_reducible refine go ?_)
      (with_reducible refine ite_go (fun c => ?_) (fun c => ?_))
      · (with_reducible refine go ?_)
        refine ⟨p, n, 1 + y, rfl, d4, by omega, by omega, by omega, fun w O5 hw wl d5 b5 => ?_⟩
        (with_reducible refine go ?_)
        refine shift_web ?_
        (with_reducible refine go ?_)
        exact hk2 _ ⟨w, O5, rfl, hw, wl, d5⟩
      · (with_reducible refine go ?_)
        refine ⟨p, n, 1 + y, rfl, d4, by omega, by omega, by omega, fun w rs O5 hw hf wl hr fr d5 k5 => ?_⟩
        (with_reducible refine go ?_)
        refine shift_rows hr fun O6 hO6 => ?_
        (with_reducible refine go ?_)
        exact hk2 _ ⟨w, O6, rfl, hw, wl, d5.but (hO6 p fun z => by
          obtain ⟨_, _, _, e⟩ := d4
          have := fr p z; rw [e] at this; cases this)⟩
    rintro S ⟨w, O5, rfl, hw, wl, d5⟩
    have mx : (if 0 > (n : Int) - 1 then 0 else (n : Int) - 1) = ((n - 1 : Nat) : Int) := by split <;> omega
    have hwt : Wb (w.take (n - 1)) := fun t r er => by
      rw [List.getElem?_take] at er
      split at er
      · exact hw t r er
      · cases er
    (with_reducible refine go ?_)
    refine ⟨w, rfl, hw, by omega, .inl rfl, ?_⟩
    (with_reducible refine go ?_)
    rw [mx, w_cutTo5]
    (with_reducible refine go ?_)
    refine ⟨_, rfl, hwt, by rw [List.length_take]; omega, .inl rfl, ?_⟩
    (with_reducible refine go ?_)
    (with_reducible refine ite_go (fun c => ?_) (fun c => ?_))
    · (with_reducible refine go ?_)
      refine ⟨⟨by omega, by omega⟩, ?_⟩
      rw [Int.toNat_natCast, rng_thg65]
      (with_reducible refine go ?_)
      refine ⟨p, thg n, 2, rfl, d5, by decide, by decide, by rw [thg_len]; omega, fun r O6 sub d6 b6 => ?_⟩
      have ra := (thg_asc n).sublist sub
      have rr : ∀ x ∈ r, 0 ≤ x ∧ x < (w.length : Int) := fun x hx => by rw [wl]; exact thg_mem.mp (sub.subset hx)
      have hw2 := hw.snoc ra rr
      (with_reducible refine go ?_)
      refine ⟨by rw [w_len, sizeLine_eq]; simp only [List.length_singleton]; omega, ?_⟩
      rw [w_snoc]
      (with_reducible refine go ?_)
      refine ⟨_, rfl, hw2, by rw [List.length_append, List.length_singleton]; omega, .inr rfl, ?_⟩
      (with_reducible refine go ?_)
      refine ⟨n, rfl, by omega, .inl rfl, ?_⟩
      (with_reducible refine go ?_)
      exact hkn _ ⟨O6, rfl⟩
    · (with_reducible refine go ?_)
      (with_reducible refine ite_go (fun c2 => ?_) (fun c2 => ?_))
      · (with_reducible refine go ?_)
        refine ⟨5, rfl, by decide, .inl rfl, ?_⟩
        (with_reducible refine go ?_)
        exact hkn _ ⟨O5, rfl⟩
      · (with_reducible refine go ?_)
        exact hkn _ ⟨O5, rfl⟩
  · rintro S1 ⟨O, rfl⟩
    (with_reducible refine go ?_)
    exact hQ

end Pf
namespace Row
open PySem PySem.Spec PyProof.Rows L2 L3 Pf
theorem sc_law_source : FnScope N_law_source ["script", "place"] (defScope s_law_source) := ⟨rfl, rfl, rfl, by decide +kernel, rfl, by decide +kernel, by decide +kernel⟩
theorem sc_law_draw_c : FnScope N_law_draw_c ["source", "limit"] (defScope s_law_draw_c) := ⟨rfl, rfl, rfl, by decide +kernel, rfl, by decide +kernel, by decide +kernel⟩
theorem sc_law_chosen : FnScope N_law_chosen ["source", "things", "share"] (defScope s_law_chosen) := ⟨rfl, rfl, rfl, by decide +kernel, rfl, by decide +kernel, by decide +kernel⟩
theorem sc_law_forest_b : FnScope N_law_forest_b ["source", "many", "share"] (defScope s_law_forest_b) := ⟨rfl, rfl, rfl, by decide +kernel, rfl, by decide +kernel, by decide +kernel⟩
theorem sc_law_web_b : FnScope N_law_web_b ["source", "many", "share"] (defScope s_law_web_b) := ⟨rfl, rfl, rfl, by decide +kernel, rfl, by decide +kernel, by decide +kernel⟩
theorem sc_is_integer : FnScope N_is_integer ["value"] (defScope s_is_integer) := ⟨rfl, rfl, rfl, by decide +kernel, rfl, by decide +kernel, by decide +kernel⟩
theorem sc_are_ties : FnScope N_are_ties ["value", "size"] (defScope s_are_ties) := ⟨rfl, rfl, rfl, by decide +kernel, rfl, by decide +kernel, by decide +kernel⟩
theorem sc_is_web : FnScope N_is_web ["value"] (defScope s_is_web) := ⟨rfl, rfl, rfl, by decide +kernel, rfl, by decide +kernel, by decide +kernel⟩
theorem sc_check_web : FnScope N_check_web ["web"] (defScope s_check_web) := ⟨rfl, rfl, rfl, by decide +kernel, rfl, by decide +kernel, by decide +kernel⟩
theorem sc_is_forest : FnScope N_is_forest ["web"] (defScope s_is_forest) := ⟨rfl, rfl, rfl, by decide +kernel, rfl, by decide +kernel, by decide +kernel⟩
theorem sc_check_size : FnScope N_check_size ["size"] (defScope s_check_size) := ⟨rfl, rfl, rfl, by decide +kernel, rfl, by decide +kernel, by decide +kernel⟩
theorem sc_all_neighbours : FnScope N_all_neighbours ["web"] (defScope s_all_neighbours) := ⟨rfl, rfl, rfl, by decide +kernel, rfl, by decide +kernel, by decide +kernel⟩
theorem sc_reached : FnScope N_reached ["rows", "start"] (defScope s_reached) := ⟨rfl, rfl, rfl, by decide +kernel, rfl, by decide +kernel, by decide +kernel⟩
theorem sc_pieces : FnScope N_pieces ["web"] (defScope s_pieces) := ⟨rfl, rfl, rfl, by decide +kernel, rfl, by decide +kernel, by decide +kernel⟩
theorem sc_ties_lists : FnScope N_ties_lists ["web"] (defScope s_ties_lists) := ⟨rfl, rfl, rfl, by decide +kernel, rfl, by decide +kernel, by decide +kernel⟩
theorem sc_forests : FnScope N_forests ["size"] (defScope s_forests) := ⟨rfl, rfl, rfl, by decide +kernel, rfl, by decide +kernel, by decide +kernel⟩
theorem sc_law_is_forest : FnScope N_law_is_forest ["web"] (defScope s_law_is_forest) := ⟨rfl, rfl, rfl, by decide +kernel, rfl, by decide +kernel, by decide +kernel⟩
theorem sc_law_listed : FnScope N_law_listed ["web"] (defScope s_law_listed) := ⟨rfl, rfl, rfl, by decide +kernel, rfl, by decide +kernel, by decide +kernel⟩
theorem sc_law_ascends : FnScope N_law_ascends ["size"] (defScope s_law_ascends) := ⟨rfl, rfl, rfl, by decide +kernel, rfl, by decide +kernel, by decide +kernel⟩
theorem sc_law : FnScope N_law ["script"] (defScope s_law) := ⟨rfl, rfl, rfl, by decide +kernel, rfl, by decide +kernel, by decide +kernel⟩
structure Txt (K : PySem.W.Frag) (mg : Str → Option Value) : Prop where
  b_abs : mg "abs" = none
  b_bool : mg "bool" = none
  b_enumerate : mg "enumerate" = none
  b_int : mg "int" = none
  b_isinstance : mg "isinstance" = none
  b_len : mg "len" = none
  b_list : mg "list" = none
  b_max : mg "max" = none
  b_range : mg "range" = none
  b_set : mg "set" = none
  b_sorted : mg "sorted" = none
  c_LARGEST : ∃ t, mg "LARGEST" = some (.int 5 t)
  x_InvalidSize : XOk K mg "InvalidSize"
  x_InvalidWeb : XOk K mg "InvalidWeb"
section
variable {P : Program} {w : World} {K : PySem.W.Frag} {mg : Str → Option Value} {base : Heap}
abbrev FnP (K : PySem.W.Frag) (x : Str) (st : Stmt) (fd : FuncData) : Prop := FunD K x x (defArgs st) (defBody st) (defScope st) [] [] (He.ga K x) fd
theorem ok_law_source (T : Txt K mg) {fd : FuncData} (Fd : FnP K "_law_source" s_law_source fd) (g : mg "_law_source" = some (.ref (He.ga K "_law_source"))) :
    Cal P w K mg base 1 "_law_source" ["script", "place"] (liftP K sp_law_source) :=
  ⟨⟨fd, fn_pure (k := 0) (N := N_law_source) (d := d_law_source) Fd sc_law_source (fun xs Q E h => l_law_source xs Q E h) (fun cdv A outer s H E hr C => ⟨_, (pss_cons (ps_set (i := 2) sc_law_source.nd rfl (by first | exact Or.inl rfl | exact Or.inr rfl) (pe_op op_pow pe_int pe_int))
    (pss_cons (ps_if (pt_cmpR (op_lt) (pv 1) (pe_callB (call_len) (by rfl) T.b_len (by decide +kernel) (pa_cons (pv 0) pa_nil)) (nomark _)) (pss_one (ps_set (i := 2) sc_law_source.nd rfl (by first | exact Or.inl rfl | exact Or.inr rfl) (pe_callB (call_abs) (by rfl) T.b_abs (by decide +kernel) (pa_cons (pe_ix ix_seq (pv 0) (pv 1) (fun _ _ => rfl)) pa_nil)))) pss_nil)
    (pss_cons (ps_if (pt_cmpR (op_ge) (pv 2) (pe_op op_pow pe_int pe_int) (nomark _)) (pss_one (ps_ret (pe_lst (pa_cons (pe_op op_sub (pv 2) (pe_op op_pow pe_int pe_int)) (pa_cons pe_int (pa_cons pe_bl pa_nil)))))) pss_nil)
    (pss_one (ps_ret (pe_lst (pa_cons (pv 2) (pa_cons pe_int (pa_cons pe_bl pa_nil))))))))),
    (LS.seq (LS.setX (LE.frz (LE.b G2.iiI (LE.c (.int 10) fun _ => .int _) (LE.c (.int 18) fun _ => .int _))))
    (LS.join (LS.ite (LE.test (LE.b G2.iiB (LE.var 1) (LB.n Gn.len (LB.cons (LE.var 0) LB.nil)))) (LS.setX (LE.frz (LB.n Gn.abs (LB.cons (LE.b G2.idx (LE.var 0) (LE.var 1)) LB.nil)))) LS.next)
    (LS.seq (LS.ite (LE.test (LE.b G2.iiB (LE.var 2) (LE.b G2.iiI (LE.c (.int 10) fun _ => .int _) (LE.c (.int 18) fun _ => .int _)))) (LS.ret (LA.lst (LA.cons (LE.frz (LE.b G2.iiN (LE.var 2) (LE.b G2.iiI (LE.c (.int 10) fun _ => .int _) (LE.c (.int 18) fun _ => .int _)))) (LA.cons (LE.frz (LE.c (.int 0) fun _ => .int _)) (LA.cons (LE.frz (LE.c (.bl true) fun _ => .bl _)) LA.nil))))) LS.next)
    (LS.ret (LA.lst (LA.cons (LE.frz (LE.var 2)) (LA.cons (LE.frz (LE.c (.int 0) fun _ => .int _)) (LA.cons (LE.frz (LE.c (.bl false) fun _ => .bl _)) LA.nil))))))))⟩) h_law_source, Fd.bindsN fun _ _ _ _ _ _ us hl => match us, hl with | [_, _], _ => rfl⟩, g, Fd.kp⟩
theorem ok_law_draw_c (T : Txt K mg) {fd : FuncData} (Fd : FnP K "_law_draw" s_law_draw_c fd) (g : mg "_law_draw" = some (.ref (He.ga K "_law_draw"))) :
    Cal P w K mg base 1 "_law_draw" ["source", "limit"] (liftG K sp_law_draw_c) :=
  ⟨⟨fd, fn_gen (k := 0) (N := N_law_draw_c) (d := d_law_draw_c) Fd sc_law_draw_c (fun xs O Q E h => l_law_draw_c xs O Q E h) (fun cdv A outer s H E hr C => ⟨_, (pss_cons (ps_if (pt_val (pe_ix ix_seq (pv 0) pe_int (fun _ _ => rfl))) (pss_cons (ps_set (i := 2) sc_law_draw_c.nd rfl (by first | exact Or.inl rfl | exact Or.inr rfl) (pe_op op_mod (pe_callTy (call_int1) (by rfl) T.b_int (by decide +kernel) (pa_cons (pe_ix ix_seq (pv 0) pe_int (fun _ _ => rfl)) pa_nil)) (pv 1)))
    (pss_cons (ps_asg (pe_op op_fdivW (pe_ix ix_seq (pv 0) pe_int (fun _ _ => rfl)) (pv 1)) (pg_sub (pv 0) pe_int set_list))
    (pss_one (ps_ret (pv 2))))) pss_nil)
    (pss_cons (ps_asg (pe_op opA_add (pe_ix ix_seq (pv 0) pe_int (fun _ _ => rfl)) pe_int) (pg_sub (pv 0) pe_int set_list))
    (pss_cons (ps_set (i := 3) sc_law_draw_c.nd rfl (by first | exact Or.inl rfl | exact Or.inr rfl) (pe_op op_mod (pe_callTy (call_int1) (by rfl) T.b_int (by decide +kernel) (pa_cons (pe_op opA_add (pe_op opA_add (pe_op opA_mul (pe_ix ix_seq (pv 0) pe_int (fun _ _ => rfl)) pe_int) (pe_op opA_mul (pe_ix ix_seq (pv 0) pe_int (fun _ _ => rfl)) pe_int)) pe_int) pa_nil)) pe_int))
    (pss_cons (ps_set (i := 3) sc_law_draw_c.nd rfl (by first | exact Or.inl rfl | exact Or.inr rfl) (pe_op op_mod (pe_callTy (call_int1) (by rfl) T.b_int (by decide +kernel) (pa_cons (pe_op opA_add (pe_op opA_add (pe_op opA_mul (pv 3) (pv 3)) (pe_op opA_mul (pe_ix ix_seq (pv 0) pe_int (fun _ _ => rfl)) pe_int)) (pe_ix ix_seq (pv 0) pe_int (fun _ _ => rfl))) pa_nil)) pe_int))
    (pss_cons (ps_set (i := 3) sc_law_draw_c.nd rfl (by first | exact Or.inl rfl | exact Or.inr rfl) (pe_op op_mod (pe_callTy (call_int1) (by rfl) T.b_int (by decide +kernel) (pa_cons (pe_op opA_add (pe_op opA_add (pe_op opA_mul (pv 3) (pv 3)) (pe_op op_fdivW (pv 3) pe_int)) pe_int) pa_nil)) pe_int))
    (pss_one (ps_ret (pe_op op_mod (pe_callTy (call_int1) (by rfl) T.b_int (by decide +kernel) (pa_cons (pe_op op_fdivW (pv 3) pe_int) pa_nil)) (pv 1))))))))),
    (LS.seq (LS.ite (LE.testB (LE.b G2.idx (LE.var 0) (LE.c (.int 2) fun _ => .int _))) (LS.seq (LS.setX (LE.frz (LE.b G2.iiI (LB.n Gn.int (LB.cons (LE.b G2.idx (LE.var 0) (LE.c (.int 0) fun _ => .int _)) LB.nil)) (LE.var 1))))
    (LS.seq (LS.setItem (LE.frz (LE.b G2.iiI (LE.b G2.idx (LE.var 0) (LE.c (.int 0) fun _ => .int _)) (LE.var 1))) (LE.var 0) (LE.c (.int 0) fun _ => .int _))
    (LS.ret (LE.var 2)))) LS.next)
    (LS.seq (LS.setItem (LE.frz (LE.b G2.add (LE.b G2.idx (LE.var 0) (LE.c (.int 1) fun _ => .int _)) (LE.c (.int 1) fun _ => .int _))) (LE.var 0) (LE.c (.int 1) fun _ => .int _))
    (LS.seq (LS.setX (LE.frz (LE.b G2.iiI (LB.n Gn.int (LB.cons (LE.b G2.add (LE.b G2.add (LE.b G2.mulB (LE.b G2.idx (LE.var 0) (LE.c (.int 0) fun _ => .int _)) (LE.c (.int 48271) fun _ => .int _)) (LE.b G2.mulB (LE.b G2.idx (LE.var 0) (LE.c (.int 1) fun _ => .int _)) (LE.c (.int 40014) fun _ => .int _))) (LE.c (.int 2531011) fun _ => .int _)) LB.nil)) (LE.c (.int 2147483647) fun _ => .int _))))
    (LS.seq (LS.setX (LE.frz (LE.b G2.iiI (LB.n Gn.int (LB.cons (LE.b G2.add (LE.b G2.add (LE.b G2.mulB (LE.var 3) (LE.var 3)) (LE.b G2.mulB (LE.b G2.idx (LE.var 0) (LE.c (.int 1) fun _ => .int _)) (LE.c (.int 69621) fun _ => .int _))) (LE.b G2.idx (LE.var 0) (LE.c (.int 0) fun _ => .int _))) LB.nil)) (LE.c (.int 2147483563) fun _ => .int _))))
    (LS.seq (LS.setX (LE.frz (LE.b G2.iiI (LB.n Gn.int (LB.cons (LE.b G2.add (LE.b G2.add (LE.b G2.mulB (LE.var 3) (LE.var 3)) (LE.b G2.iiI (LE.var 3) (LE.c (.int 127773) fun _ => .int _))) (LE.c (.int 16807) fun _ => .int _)) LB.nil)) (LE.c (.int 2147483399) fun _ => .int _))))
    (LS.ret (LE.b G2.iiI (LB.n Gn.int (LB.cons (LE.b G2.iiI (LE.var 3) (LE.c (.int 3) fun _ => .int _)) LB.nil)) (LE.var 1))))))))⟩) h_law_draw_c, Fd.bindsN fun _ _ _ _ _ _ us hl => match us, hl with | [_, _], _ => rfl⟩, g, Fd.kp⟩
theorem ok_law_chosen (T : Txt K mg) {fd : FuncData} (Fd : FnP K "_law_chosen" s_law_chosen fd) (g : mg "_law_chosen" = some (.ref (He.ga K "_law_chosen")))
    (c_law_draw_c : Cal P w K mg base 1 "_law_draw" ["source", "limit"] (liftG K sp_law_draw_c)) :
    Cal P w K mg base 2 "_law_chosen" ["source", "things", "share"] (liftG K sp_law_chosen) :=
  ⟨⟨fd, fn_gen (k := 1) (N := N_law_chosen) (d := d_law_chosen) Fd sc_law_chosen (fun xs O Q E h => l_law_chosen xs O Q E h) (fun cdv A outer s H E hr C => ⟨_, (pss_cons (ps_set (i := 3) sc_law_chosen.nd rfl (by first | exact Or.inl rfl | exact Or.inr rfl) (pe_lst pa_nil))
    (pss_cons (ps_for C.po rfl (pi_list (pv 1)) (pg_name (i := 4) sc_law_chosen.nd rfl (by first | exact Or.inl rfl | exact Or.inr rfl))
    (pss_one (ps_if (pt_cmpR (opA_eq hr) (pe_cal c_law_draw_c hr C.tk (pa_cons (pv 0) (pa_cons (pv 2) pa_nil))) pe_int (nomark _)) (pss_one (ps_expr (pe_bm PySem.F.plainAttrs_list PySem.F.slot_list_append PySem.F.type_list_append mt_append (pv 3) (pa_cons (pv 4) pa_nil)))) pss_nil)))
    (pss_one (ps_ret (pv 3))))),
    (LS.seq (LS.set (LA.lst LA.nil))
    (LS.seq (LS.for_ (ks := [4]) (LI.list (LE.frz (LE.var 1))) LG.name
    (LS.ite (LE.test (LE.b G2.eq (LE.callG (LA.cons (LE.frz (LE.var 0)) (LA.cons (LE.frz (LE.var 2)) LA.nil))) (LE.c (.int 0) fun _ => .int _))) (LS.drop (LE.bm ML.append (LE.var 3) (LA.cons (LE.frz (LE.var 4)) LA.nil))) LS.next))
    (LS.ret (LE.var 3))))⟩) h_law_chosen, Fd.bindsN fun _ _ _ _ _ _ us hl => match us, hl with | [_, _, _], _ => rfl⟩, g, Fd.kp⟩
theorem ok_law_forest_b (T : Txt K mg) {fd : FuncData} (Fd : FnP K "_law_forest" s_law_forest_b fd) (g : mg "_law_forest" = some (.ref (He.ga K "_law_forest")))
    (c_law_draw_c : Cal P w K mg base 1 "_law_draw" ["source", "limit"] (liftG K sp_law_draw_c)) :
    Cal P w K mg base 2 "_law_forest" ["source", "many", "share"] (liftG K sp_law_forest_b) :=
  ⟨⟨fd, fn_gen (k := 1) (N := N_law_forest_b) (d := d_law_forest_b) Fd sc_law_forest_b (fun xs O Q E h => l_law_forest_b xs O Q E h) (fun cdv A outer s H E hr C => ⟨_, (pss_cons (ps_set (i := 3) sc_law_forest_b.nd rfl (by first | exact Or.inl rfl | exact Or.inr rfl) (pe_lst pa_nil))
    (pss_cons (ps_set (i := 4) sc_law_forest_b.nd rfl (by first | exact Or.inl rfl | exact Or.inr rfl) (pe_lst pa_nil))
    (pss_cons (ps_for C.po rfl (pi_range1 (by rfl) T.b_range (pa_cons (pv 1) pa_nil)) (pg_name (i := 5) sc_law_forest_b.nd rfl (by first | exact Or.inl rfl | exact Or.inr rfl))
    (pss_cons (ps_set (i := 6) sc_law_forest_b.nd rfl (by first | exact Or.inl rfl | exact Or.inr rfl) (pe_lst pa_nil))
    (pss_cons (ps_for C.po rfl (pi_range1 (by rfl) T.b_range (pa_cons (pv 5) pa_nil)) (pg_name (i := 7) sc_law_forest_b.nd rfl (by first | exact Or.inl rfl | exact Or.inr rfl))
    (pss_cons (ps_set (i := 8) sc_law_forest_b.nd rfl (by first | exact Or.inl rfl | exact Or.inr rfl) (pe_lc (own := [("tied", 9)]) rfl sc_law_forest_b.nd (pi_list (pv 6)) (blkOk_by (by kernel_rfl)) (fun _ _ _ _ _ => (pg_name (i := 9) sc_law_forest_b.nd rfl (by first | exact Or.inl rfl | exact Or.inr rfl))) (fun _ _ _ _ _ => pts_nil) (fun _ _ _ _ _ => (pe_ix ix_seq (pv 4) (pv 9) (fun _ _ => rfl)))))
    (pss_one (ps_if (PW.pt (pw_and (pt_cmpR (opA_notin hr) (pe_ix ix_seq (pv 4) (pv 7) (fun _ _ => rfl)) (pv 8) (by rfl)) (pw_and1 (pt_cmpR (opA_eq hr) (pe_cal c_law_draw_c hr C.tk (pa_cons (pv 0) (pa_cons (pv 2) pa_nil))) pe_int (nomark _))))) (pss_one (ps_expr (pe_bm PySem.F.plainAttrs_list PySem.F.slot_list_append PySem.F.type_list_append mt_append (pv 6) (pa_cons (pv 7) pa_nil)))) pss_nil))))
    (pss_cons (ps_set (i := 8) sc_law_forest_b.nd rfl (by first | exact Or.inl rfl | exact Or.inr rfl) (pe_lc (own := [("tied", 9)]) rfl sc_law_forest_b.nd (pi_list (pv 6)) (blkOk_by (by kernel_rfl)) (fun _ _ _ _ _ => (pg_name (i := 9) sc_law_forest_b.nd rfl (by first | exact Or.inl rfl | exact Or.inr rfl))) (fun _ _ _ _ _ => pts_nil) (fun _ _ _ _ _ => (pe_ix ix_seq (pv 4) (pv 9) (fun _ _ => rfl)))))
    (pss_cons (ps_set (i := 4) sc_law_forest_b.nd rfl (by first | exact Or.inl rfl | exact Or.inr rfl) (pe_lc (own := [("label", 10)]) rfl sc_law_forest_b.nd (pi_list (pv 4)) (blkOk_by (by kernel_rfl)) (fun _ _ _ _ _ => (pg_name (i := 10) sc_law_forest_b.nd rfl (by first | exact Or.inl rfl | exact Or.inr rfl))) (fun _ _ _ _ _ => pts_nil) (fun _ _ _ _ _ => (pe_ifExp (pt_cmpR (opA_in hr) (pv 10) (pv 8) (by rfl)) (pv 5) (pv 10)))))
    (pss_cons (ps_expr (pe_bm PySem.F.plainAttrs_list PySem.F.slot_list_append PySem.F.type_list_append mt_append (pv 4) (pa_cons (pv 5) pa_nil)))
    (pss_one (ps_expr (pe_bm PySem.F.plainAttrs_list PySem.F.slot_list_append PySem.F.type_list_append mt_append (pv 3) (pa_cons (pv 6) pa_nil))))))))))
    (pss_one (ps_ret (pv 3)))))),
    (LS.seq (LS.set (LA.lst LA.nil))
    (LS.seq (LS.set (LA.lst LA.nil))
    (LS.seq (LS.for_ (ks := [5, 6, 7, 8]) (LI.range1 (LE.var 1)) LG.name
    (LS.seq (LS.setR (LA.lst LA.nil))
    (LS.seq (LS.for_ (ks := [7]) (LI.range1 (LE.var 5)) LG.name
    (LS.seq (LS.setX (LE.frz (LE.lcG (LIG.map (LE.frz (LE.var 6))) LG.name (GW.name (by decide)) LT.yes (LE.frz (LE.b G2.idx (LE.var 4) (LE.var 9))))))
    (LS.ite (LT.and (LE.test (LE.b G2.notin (LE.b G2.idx (LE.var 4) (LE.var 7)) (LE.var 8))) (LE.test (LE.b G2.eq (LE.callG (LA.cons (LE.frz (LE.var 0)) (LA.cons (LE.frz (LE.var 2)) LA.nil))) (LE.c (.int 0) fun _ => .int _)))) (LS.drop (LE.bm ML.append (LE.var 6) (LA.cons (LE.frz (LE.var 7)) LA.nil))) LS.next)))
    (LS.seq (LS.setX (LE.frz (LE.lcG (LIG.map (LE.frz (LE.var 6))) LG.name (GW.name (by decide)) LT.yes (LE.frz (LE.b G2.idx (LE.var 4) (LE.var 9))))))
    (LS.seq (LS.set (LE.lc (LI.list (LE.frz (LE.var 4))) LG.name (GW.name (by decide)) LT.yes (LE.frz (LE.ifV (LE.test (LE.b G2.in_ (LE.var 10) (LE.var 8))) (LE.var 5) (LE.var 10)))))
    (LS.seq (LS.drop (LE.bm ML.append (LE.var 4) (LA.cons (LE.frz (LE.var 5)) LA.nil)))
    (LS.drop (LE.bm ML.append (LE.var 3) (LA.cons (LE.map (LE.var 6)) LA.nil)))))))))
    (LS.ret (LE.var 3)))))⟩) h_law_forest_b, Fd.bindsN fun _ _ _ _ _ _ us hl => match us, hl with | [_, _, _], _ => rfl⟩, g, Fd.kp⟩
theorem ok_law_web_b (T : Txt K mg) {fd : FuncData} (Fd : FnP K "_law_web" s_law_web_b fd) (g : mg "_law_web" = some (.ref (He.ga K "_law_web")))
    (c_law_chosen : Cal P w K mg base 2 "_law_chosen" ["source", "things", "share"] (liftG K sp_law_chosen)) :
    Cal P w K mg base 3 "_law_web" ["source", "many", "share"] (liftG K sp_law_web_b) :=
  ⟨⟨fd, fn_gen (k := 2) (N := N_law_web_b) (d := d_law_web_b) Fd sc_law_web_b (fun xs O Q E h => l_law_web_b xs O Q E h) (fun cdv A outer s H E hr C => ⟨_, (pss_cons (ps_set (i := 3) sc_law_web_b.nd rfl (by first | exact Or.inl rfl | exact Or.inr rfl) (pe_lst pa_nil))
    (pss_cons (ps_for C.po rfl (pi_range1 (by rfl) T.b_range (pa_cons (pv 1) pa_nil)) (pg_name (i := 4) sc_law_web_b.nd rfl (by first | exact Or.inl rfl | exact Or.inr rfl))
    (pss_one (ps_expr (pe_bm PySem.F.plainAttrs_list PySem.F.slot_list_append PySem.F.type_list_append mt_append (pv 3) (pa_cons (pe_cal c_law_chosen hr C.tk (pa_cons (pv 0) (pa_cons (pe_listRg rfl (by rfl) T.b_list (prg_1 (by rfl) T.b_range (pv 4))) (pa_cons (pv 2) pa_nil)))) pa_nil)))))
    (pss_one (ps_ret (pv 3))))),
    (LS.seq (LS.set (LA.lst LA.nil))
    (LS.seq (LS.for_ (ks := [4]) (LI.range1 (LE.var 1)) LG.name
    (LS.drop (LE.bm ML.append (LE.var 3) (LA.cons (LE.frz (LE.callG (LA.cons (LE.frz (LE.var 0)) (LA.cons (LE.frz (LE.lrg1 (LE.var 4))) (LA.cons (LE.frz (LE.var 2)) LA.nil))))) LA.nil))))
    (LS.ret (LE.var 3))))⟩) h_law_web_b, Fd.bindsN fun _ _ _ _ _ _ us hl => match us, hl with | [_, _, _], _ => rfl⟩, g, Fd.kp⟩
theorem ok_is_integer (T : Txt K mg) {fd : FuncData} (Fd : FnP K "is_integer" s_is_integer fd) (g : mg "is_integer" = some (.ref (He.ga K "is_integer"))) :
    Cal P w K mg base 1 "is_integer" ["value"] (liftP K sp_is_integer) :=
  ⟨⟨fd, fn_pure (k := 0) (N := N_is_integer) (d := d_is_integer) Fd sc_is_integer (fun xs Q E h => l_is_integer xs Q E h) (fun cdv A outer s H E hr C => ⟨_, (pss_one (ps_ret (pe_and (pe_callB (call_isi) (by rfl) T.b_isinstance (by decide +kernel) (pa_cons (pv 0) (pa_cons (pe_bltn (by rfl) T.b_int (by decide +kernel) rfl (v := .ty "int")) pa_nil))) (pe_one (pe_not (pe_callB (call_isi) (by rfl) T.b_isinstance (by decide +kernel) (pa_cons (pv 0) (pa_cons (pe_bltn (by rfl) T.b_bool (by decide +kernel) rfl (v := .ty "bool")) pa_nil)))))))),
    (LS.ret (LE.andV (LB.n Gn.isi (LB.cons (LE.var 0) (LB.cons (LE.c (.ty "int") fun _ => .ty _) LB.nil))) (LE.notV (LB.n Gn.isi (LB.cons (LE.var 0) (LB.cons (LE.c (.ty "bool") fun _ => .ty _) LB.nil))))))⟩) h_is_integer, Fd.bindsN fun _ _ _ _ _ _ us hl => match us, hl with | [_], _ => rfl⟩, g, Fd.kp⟩
theorem ok_are_ties (T : Txt K mg) {fd : FuncData} (Fd : FnP K "are_ties" s_are_ties fd) (g : mg "are_ties" = some (.ref (He.ga K "are_ties")))
    (c_is_integer : Cal P w K mg base 1 "is_integer" ["value"] (liftP K sp_is_integer)) :
    Cal P w K mg base 2 "are_ties" ["value", "size"] (liftP K sp_are_ties) :=
  ⟨⟨fd, fn_pure (k := 1) (N := N_are_ties) (d := d_are_ties) Fd sc_are_ties (fun xs Q E h => l_are_ties xs Q E h) (fun cdv A outer s H E hr C => ⟨_, (pss_cons (ps_if (pt_not (pt_val (pe_callB (call_isi) (by rfl) T.b_isinstance (by decide +kernel) (pa_cons (pv 0) (pa_cons (pe_bltn (by rfl) T.b_list (by decide +kernel) rfl (v := .ty "list")) pa_nil))))) (pss_one (ps_ret pe_bl)) pss_nil)
    (pss_cons (ps_set (i := 2) sc_are_ties.nd rfl (by first | exact Or.inl rfl | exact Or.inr rfl) (pe_un un_neg pe_int))
    (pss_cons (ps_for C.po rfl (pi_list (pv 0)) (pg_name (i := 3) sc_are_ties.nd rfl (by first | exact Or.inl rfl | exact Or.inr rfl))
    (pss_cons (ps_if (PW.pt (pw_or (pt_not (pt_val (pe_cal c_is_integer hr C.tk (pa_cons (pv 3) pa_nil)))) (pw_or (pt_cmpR (op_le) (pv 3) (pv 2) (nomark _)) (pw_or1 (pt_cmpR (op_ge) (pv 3) (pv 1) (nomark _)))))) (pss_one (ps_ret pe_bl)) pss_nil)
    (pss_one (ps_set (i := 2) sc_are_ties.nd rfl (by first | exact Or.inl rfl | exact Or.inr rfl) (pv 3)))))
    (pss_one (ps_ret pe_bl))))),
    (LS.seq (LS.ite (LT.not (LE.testB (LB.n Gn.isi (LB.cons (LE.var 0) (LB.cons (LE.c (.ty "list") fun _ => .ty _) LB.nil))))) (LS.ret (LE.c (.bl false) fun _ => .bl _)) LS.next)
    (LS.seq (LS.setX (LE.frz (LE.u G1.neg (LE.c (.int 1) fun _ => .int _))))
    (LS.seq (LS.for_ (ks := [3]) (LI.list (LE.frz (LE.var 0))) LG.name
    (LS.seq (LS.ite (LT.or (LT.not (LE.testB (LE.call (LB.cons (LE.var 3) LB.nil)))) (LT.or (LE.test (LE.b G2.iiB (LE.var 3) (LE.var 2))) (LE.test (LE.b G2.iiB (LE.var 3) (LE.var 1))))) (LS.ret (LE.c (.bl false) fun _ => .bl _)) LS.next)
    (LS.setX (LE.frz (LE.var 3)))))
    (LS.ret (LE.c (.bl true) fun _ => .bl _)))))⟩) h_are_ties, Fd.bindsN fun _ _ _ _ _ _ us hl => match us, hl with | [_, _], _ => rfl⟩, g, Fd.kp⟩
theorem ok_is_web (T : Txt K mg) {fd : FuncData} (Fd : FnP K "is_web" s_is_web fd) (g : mg "is_web" = some (.ref (He.ga K "is_web")))
    (c_are_ties : Cal P w K mg base 2 "are_ties" ["value", "size"] (liftP K sp_are_ties)) :
    Cal P w K mg base 3 "is_web" ["value"] (liftP K sp_is_web) :=
  ⟨⟨fd, fn_pure (k := 2) (N := N_is_web) (d := d_is_web) Fd sc_is_web (fun xs Q E h => l_is_web xs Q E h) (fun cdv A outer s H E hr C => ⟨_, (pss_cons (ps_if (pt_not (pt_val (pe_callB (call_isi) (by rfl) T.b_isinstance (by decide +kernel) (pa_cons (pv 0) (pa_cons (pe_bltn (by rfl) T.b_list (by decide +kernel) rfl (v := .ty "list")) pa_nil))))) (pss_one (ps_ret pe_bl)) pss_nil)
    (pss_cons (ps_for C.po rfl (pi_enum (by rfl) T.b_enumerate (pa_cons (pv 0) pa_nil)) (pg_tup rfl (pgs_cons (pg_name (i := 1) sc_is_web.nd rfl (by first | exact Or.inl rfl | exact Or.inr rfl)) (pgs_cons (pg_name (i := 2) sc_is_web.nd rfl (by first | exact Or.inl rfl | exact Or.inr rfl)) pgs_nil)))
    (pss_one (ps_if (pt_not (pt_val (pe_cal c_are_ties hr C.tk (pa_cons (pv 2) (pa_cons (pv 1) pa_nil))))) (pss_one (ps_ret pe_bl)) pss_nil)))
    (pss_one (ps_ret pe_bl)))),
    (LS.seq (LS.ite (LT.not (LE.testB (LB.n Gn.isi (LB.cons (LE.var 0) (LB.cons (LE.c (.ty "list") fun _ => .ty _) LB.nil))))) (LS.ret (LE.c (.bl false) fun _ => .bl _)) LS.next)
    (LS.seq (LS.for_ (ks := [1, 2]) (LI.enum (LE.frz (LE.var 0))) (LG.tup (LGs.cons LG.name (LGs.cons LG.name LGs.nil)))
    (LS.ite (LT.not (LE.testB (LE.call (LB.cons (LE.var 2) (LB.cons (LE.var 1) LB.nil))))) (LS.ret (LE.c (.bl false) fun _ => .bl _)) LS.next))
    (LS.ret (LE.c (.bl true) fun _ => .bl _))))⟩) h_is_web, Fd.bindsN fun _ _ _ _ _ _ us hl => match us, hl with | [_], _ => rfl⟩, g, Fd.kp⟩
theorem ok_check_web (T : Txt K mg) {fd : FuncData} (Fd : FnP K "check_web" s_check_web fd) (g : mg "check_web" = some (.ref (He.ga K "check_web")))
    (c_is_web : Cal P w K mg base 3 "is_web" ["value"] (liftP K sp_is_web)) :
    Cal P w K mg base 4 "check_web" ["web"] (liftP K sp_check_web) :=
  ⟨⟨fd, fn_pure (k := 3) (N := N_check_web) (d := d_check_web) Fd sc_check_web (fun xs Q E h => l_check_web xs Q E h) (fun cdv A outer s H E hr C => ⟨_, (pss_one (ps_if (pt_not (pt_val (pe_cal c_is_web hr C.tk (pa_cons (pv 0) pa_nil)))) (pss_one (ps_raiseX T.x_InvalidWeb C.tk)) pss_nil)),
    (LS.ite (LT.not (LE.testB (LE.call (LB.cons (LE.var 0) LB.nil)))) LS.raise LS.next)⟩) h_check_web, Fd.bindsN fun _ _ _ _ _ _ us hl => match us, hl with | [_], _ => rfl⟩, g, Fd.kp⟩
theorem ok_is_forest (T : Txt K mg) {fd : FuncData} (Fd : FnP K "is_forest" s_is_forest fd) (g : mg "is_forest" = some (.ref (He.ga K "is_forest")))
    (c_check_web : Cal P w K mg base 4 "check_web" ["web"] (liftP K sp_check_web)) :
    Cal P w K mg base 5 "is_forest" ["web"] (liftP K sp_is_forest) :=
  ⟨⟨fd, fn_pure (k := 4) (N := N_is_forest) (d := d_is_forest) Fd sc_is_forest (fun xs Q E h => l_is_forest xs Q E h) (fun cdv A outer s H E hr C => ⟨_, (pss_cons (ps_expr (pe_cal c_check_web hr C.tk (pa_cons (pv 0) pa_nil)))
    (pss_cons (ps_set (i := 1) sc_is_forest.nd rfl (by first | exact Or.inl rfl | exact Or.inr rfl) (pe_lst pa_nil))
    (pss_cons (ps_for C.po rfl (pi_enum (by rfl) T.b_enumerate (pa_cons (pv 0) pa_nil)) (pg_tup rfl (pgs_cons (pg_name (i := 2) sc_is_forest.nd rfl (by first | exact Or.inl rfl | exact Or.inr rfl)) (pgs_cons (pg_name (i := 3) sc_is_forest.nd rfl (by first | exact Or.inl rfl | exact Or.inr rfl)) pgs_nil)))
    (pss_cons (ps_set (i := 4) sc_is_forest.nd rfl (by first | exact Or.inl rfl | exact Or.inr rfl) (pe_lc (own := [("other", 5)]) rfl sc_is_forest.nd (pi_list (pv 3)) (blkOk_by (by kernel_rfl)) (fun _ _ _ _ _ => (pg_name (i := 5) sc_is_forest.nd rfl (by first | exact Or.inl rfl | exact Or.inr rfl))) (fun _ _ _ _ _ => pts_nil) (fun _ _ _ _ _ => (pe_ix ix_seq (pv 1) (pv 5) (fun _ _ => rfl)))))
    (pss_cons (ps_if (pt_cmpR (op_lt) (pe_lenSetL rfl (by rfl) T.b_len (by rfl) T.b_set (pv 4)) (pe_callB (call_len) (by rfl) T.b_len (by decide +kernel) (pa_cons (pv 4) pa_nil)) (nomark _)) (pss_one (ps_ret pe_bl)) pss_nil)
    (pss_cons (ps_set (i := 1) sc_is_forest.nd rfl (by first | exact Or.inl rfl | exact Or.inr rfl) (pe_lc (own := [("label", 6)]) rfl sc_is_forest.nd (pi_list (pv 1)) (blkOk_by (by kernel_rfl)) (fun _ _ _ _ _ => (pg_name (i := 6) sc_is_forest.nd rfl (by first | exact Or.inl rfl | exact Or.inr rfl))) (fun _ _ _ _ _ => pts_nil) (fun _ _ _ _ _ => (pe_ifExp (pt_cmpR (opA_in hr) (pv 6) (pv 4) (by rfl)) (pv 2) (pv 6)))))
    (pss_one (ps_expr (pe_bm PySem.F.plainAttrs_list PySem.F.slot_list_append PySem.F.type_list_append mt_append (pv 1) (pa_cons (pv 2) pa_nil))))))))
    (pss_one (ps_ret pe_bl))))),
    (LS.seq (LS.drop (LE.call (LB.cons (LE.var 0) LB.nil)))
    (LS.seq (LS.set (LA.lst LA.nil))
    (LS.seq (LS.for_ (ks := [2, 3, 4]) (LI.enum (LE.frz (LE.var 0))) (LG.tup (LGs.cons LG.name (LGs.cons LG.name LGs.nil)))
    (LS.seq (LS.setX (LE.frz (LE.lc (LI.list (LE.frz (LE.var 3))) LG.name (GW.name (by decide)) LT.yes (LE.frz (LE.b G2.idx (LE.var 1) (LE.var 5))))))
    (LS.seq (LS.ite (LE.test (LE.b G2.iiB (LE.u G1.lenSet (LE.var 4)) (LB.n Gn.len (LB.cons (LE.var 4) LB.nil)))) (LS.ret (LE.c (.bl false) fun _ => .bl _)) LS.next)
    (LS.seq (LS.set (LE.lc (LI.list (LE.frz (LE.var 1))) LG.name (GW.name (by decide)) LT.yes (LE.frz (LE.ifV (LE.test (LE.b G2.in_ (LE.var 6) (LE.var 4))) (LE.var 2) (LE.var 6)))))
    (LS.drop (LE.bm ML.append (LE.var 1) (LA.cons (LE.frz (LE.var 2)) LA.nil)))))))
    (LS.ret (LE.c (.bl true) fun _ => .bl _)))))⟩) h_is_forest, Fd.bindsN fun _ _ _ _ _ _ us hl => match us, hl with | [_], _ => rfl⟩, g, Fd.kp⟩
theorem ok_check_size (T : Txt K mg) {fd : FuncData} (Fd : FnP K "check_size" s_check_size fd) (g : mg "check_size" = some (.ref (He.ga K "check_size"))) :
    Cal P w K mg base 1 "check_size" ["size"] (liftP K sp_check_size) :=
  ⟨⟨fd, fn_pure (k := 0) (N := N_check_size) (d := d_check_size) Fd sc_check_size (fun xs Q E h => l_check_size xs Q E h) (fun cdv A outer s H E hr C => ⟨_, (pss_one (ps_if (PW.pt (pw_or (pt_not (pt_val (pe_callB (call_isi) (by rfl) T.b_isinstance (by decide +kernel) (pa_cons (pv 0) (pa_cons (pe_bltn (by rfl) T.b_int (by decide +kernel) rfl (v := .ty "int")) pa_nil))))) (pw_or (pt_val (pe_callB (call_isi) (by rfl) T.b_isinstance (by decide +kernel) (pa_cons (pv 0) (pa_cons (pe_bltn (by rfl) T.b_bool (by decide +kernel) rfl (v := .ty "bool")) pa_nil)))) (pw_or1 (pt_not (pt_chain (op_le) (op_le) pe_int (pv 0) (T.c_LARGEST.elim fun t h => pe_glob (v := .int 5) (by rfl) h ⟨t, rfl⟩))))))) (pss_one (ps_raiseX T.x_InvalidSize C.tk)) pss_nil)),
    (LS.ite (LT.or (LT.not (LE.testB (LB.n Gn.isi (LB.cons (LE.var 0) (LB.cons (LE.c (.ty "int") fun _ => .ty _) LB.nil))))) (LT.or (LE.testB (LB.n Gn.isi (LB.cons (LE.var 0) (LB.cons (LE.c (.ty "bool") fun _ => .ty _) LB.nil)))) (LT.not (LE.test (LE.chain G2.iiB G2.iiB (LE.c (.int 0) fun _ => .int _) (LE.var 0) (LE.c (.int 5) fun _ => .int _)))))) LS.raise LS.next)⟩) h_check_size, Fd.bindsN fun _ _ _ _ _ _ us hl => match us, hl with | [_], _ => rfl⟩, g, Fd.kp⟩
theorem ok_all_neighbours (T : Txt K mg) {fd : FuncData} (Fd : FnP K "all_neighbours" s_all_neighbours fd) (g : mg "all_neighbours" = some (.ref (He.ga K "all_neighbours"))) :
    Cal P w K mg base 1 "all_neighbours" ["web"] (liftG K sp_all_neighbours) :=
  ⟨⟨fd, fn_gen (k := 0) (N := N_all_neighbours) (d := d_all_neighbours) Fd sc_all_neighbours (fun xs O Q E h => l_all_neighbours xs O Q E h) (fun cdv A outer s H E hr C => ⟨_, (pss_cons (ps_setLc (i := 1) (own := [("ties", 2)]) rfl sc_all_neighbours.nd rfl rfl (sw_true rfl rfl rfl (by kernel_rfl)) (pi_list (pv 0)) (blkOk_by (by kernel_rfl)) (fun _ _ _ _ _ => (pg_name (i := 2) sc_all_neighbours.nd rfl (by first | exact Or.inl rfl | exact Or.inr rfl))) (fun _ _ _ _ _ => pts_nil) (fun _ _ _ _ _ => (pe_lst pa_nil)))
    (pss_cons (ps_for C.po rfl (pi_enum (by rfl) T.b_enumerate (pa_cons (pv 0) pa_nil)) (pg_tup rfl (pgs_cons (pg_name (i := 3) sc_all_neighbours.nd rfl (by first | exact Or.inl rfl | exact Or.inr rfl)) (pgs_cons (pg_name (i := 2) sc_all_neighbours.nd rfl (by first | exact Or.inl rfl | exact Or.inr rfl)) pgs_nil)))
    (pss_one (ps_for C.po rfl (pi_list (pv 2)) (pg_name (i := 4) sc_all_neighbours.nd rfl (by first | exact Or.inl rfl | exact Or.inr rfl))
    (pss_cons (ps_expr (pe_bm PySem.F.plainAttrs_list PySem.F.slot_list_append PySem.F.type_list_append mt_append (pe_ix ix_seq (pv 1) (pv 3) (fun _ _ => rfl)) (pa_cons (pv 4) pa_nil)))
    (pss_one (ps_expr (pe_bm PySem.F.plainAttrs_list PySem.F.slot_list_append PySem.F.type_list_append mt_append (pe_ix ix_seq (pv 1) (pv 4) (fun _ _ => rfl)) (pa_cons (pv 3) pa_nil))))))))
    (pss_one (ps_ret (pv 1))))),
    (LS.seq (LS.set (LE.lc (LI.list (LE.frz (LE.var 0))) LG.name (GW.name (by decide)) LT.yes (LE.map (LA.lst LA.nil))))
    (LS.seq (LS.for_ (ks := [3, 2, 4]) (LI.enum (LE.frz (LE.var 0))) (LG.tup (LGs.cons LG.name (LGs.cons LG.name LGs.nil)))
    (LS.for_ (ks := [4]) (LI.list (LE.frz (LE.var 2))) LG.name
    (LS.seq (LS.drop (LE.bm ML.append (LE.b G2.idx (LE.var 1) (LE.var 3)) (LA.cons (LE.frz (LE.var 4)) LA.nil)))
    (LS.drop (LE.bm ML.append (LE.b G2.idx (LE.var 1) (LE.var 4)) (LA.cons (LE.frz (LE.var 3)) LA.nil))))))
    (LS.ret (LE.var 1))))⟩) h_all_neighbours, Fd.bindsN fun _ _ _ _ _ _ us hl => match us, hl with | [_], _ => rfl⟩, g, Fd.kp⟩
theorem ok_reached (T : Txt K mg) {fd : FuncData} (Fd : FnP K "reached" s_reached fd) (g : mg "reached" = some (.ref (He.ga K "reached"))) :
    Cal P w K mg base 1 "reached" ["rows", "start"] (liftP K sp_reached) :=
  ⟨⟨fd, fn_pure (k := 0) (N := N_reached) (d := d_reached) Fd sc_reached (fun xs Q E h => l_reached xs Q E h) (fun cdv A outer s H E hr C => ⟨_, (pss_cons (ps_set (i := 2) sc_reached.nd rfl (by first | exact Or.inl rfl | exact Or.inr rfl) (pe_disp (pps_cons (pv 1) pe_bl pps_nil) rfl rfl (by simp) (by decide)))
    (pss_cons (ps_set (i := 3) sc_reached.nd rfl (by first | exact Or.inl rfl | exact Or.inr rfl) (pe_lst (pa_cons (pv 1) pa_nil)))
    (pss_cons (ps_set (i := 4) sc_reached.nd rfl (by first | exact Or.inl rfl | exact Or.inr rfl) pe_int)
    (pss_cons (ps_while C.po (pt_cmpR (op_lt) (pv 4) (pe_callB (call_len) (by rfl) T.b_len (by decide +kernel) (pa_cons (pv 3) pa_nil)) (nomark _))
    (pss_cons (ps_for C.po rfl (pi_list (pe_ix ix_seq (pv 0) (pe_ix ix_seq (pv 3) (pv 4) (fun _ _ => rfl)) (fun _ _ => rfl))) (pg_name (i := 5) sc_reached.nd rfl (by first | exact Or.inl rfl | exact Or.inr rfl))
    (pss_one (ps_if (pt_cmp (pc_dnotin (units1 hr) (pv 5) (pv 2))) (pss_cons (ps_dput (units1 hr) (pv 2) (pv 5) pe_bl (by rfl))
    (pss_one (ps_expr (pe_bm PySem.F.plainAttrs_list PySem.F.slot_list_append PySem.F.type_list_append mt_append (pv 3) (pa_cons (pv 5) pa_nil))))) pss_nil)))
    (pss_one (ps_aug (i := 4) sc_reached.nd rfl (by first | exact Or.inl rfl | exact Or.inr rfl) pe_int (ip_of iop_add)))))
    (pss_one (ps_ret (pe_callB cr_sortedI (by rfl) T.b_sorted (by decide +kernel) (pa_cons (pv 3) pa_nil)))))))),
    (LS.seq (LS.set (LE.dic1 (LE.var 1) (LE.frz (LE.c (.bl true) fun _ => .bl _))))
    (LS.seq (LS.set (LA.lst (LA.cons (LE.frz (LE.var 1)) LA.nil)))
    (LS.seq (LS.setX (LE.frz (LE.c (.int 0) fun _ => .int _)))
    (LS.seq (LS.while_ (ks := [5]) (LE.test (LE.b G2.iiB (LE.var 4) (LB.n Gn.len (LB.cons (LE.var 3) LB.nil))))
    (LS.seq (LS.for_ (ks := [5]) (LI.list (LE.frz (LE.b G2.idx (LE.var 0) (LE.b G2.idx (LE.var 3) (LE.var 4))))) LG.name
    (LS.ite (LE.testB (LE.b G2.dNotIn (LE.var 5) (LE.var 2))) (LS.seq (LS.dput (LE.var 2) (LE.var 5) (LE.frz (LE.c (.bl true) fun _ => .bl _)))
    (LS.drop (LE.bm ML.append (LE.var 3) (LA.cons (LE.frz (LE.var 5)) LA.nil)))) LS.next))
    (LS.aug GV.ii (LE.c (.int 1) fun _ => .int _))))
    (LS.ret (LB.n Gn.sort (LB.cons (LE.var 3) LB.nil)))))))⟩) h_reached, Fd.bindsN fun _ _ _ _ _ _ us hl => match us, hl with | [_, _], _ => rfl⟩, g, Fd.kp⟩
theorem ok_pieces (T : Txt K mg) {fd : FuncData} (Fd : FnP K "pieces" s_pieces fd) (g : mg "pieces" = some (.ref (He.ga K "pieces")))
    (c_check_web : Cal P w K mg base 4 "check_web" ["web"] (liftP K sp_check_web))
    (c_all_neighbours : Cal P w K mg base 1 "all_neighbours" ["web"] (liftG K sp_all_neighbours))
    (c_reached : Cal P w K mg base 1 "reached" ["rows", "start"] (liftP K sp_reached)) :
    Cal P w K mg base 5 "pieces" ["web"] (liftG K sp_pieces) :=
  ⟨⟨fd, fn_gen (k := 4) (N := N_pieces) (d := d_pieces) Fd sc_pieces (fun xs O Q E h => l_pieces xs O Q E h) (fun cdv A outer s H E hr C => ⟨_, (pss_cons (ps_expr (pe_cal c_check_web hr C.tk (pa_cons (pv 0) pa_nil)))
    (pss_cons (ps_set (i := 1) sc_pieces.nd rfl (by first | exact Or.inl rfl | exact Or.inr rfl) (pe_cal c_all_neighbours hr C.tk (pa_cons (pv 0) pa_nil)))
    (pss_cons (ps_set (i := 2) sc_pieces.nd rfl (by first | exact Or.inl rfl | exact Or.inr rfl) (pe_op opA_mul (pe_lst (pa_cons pe_bl pa_nil)) (pe_callB (call_len) (by rfl) T.b_len (by decide +kernel) (pa_cons (pv 0) pa_nil))))
    (pss_cons (ps_set (i := 3) sc_pieces.nd rfl (by first | exact Or.inl rfl | exact Or.inr rfl) (pe_lst pa_nil))
    (pss_cons (ps_for C.po rfl (pi_range1 (by rfl) T.b_range (pa_cons (pe_callB (call_len) (by rfl) T.b_len (by decide +kernel) (pa_cons (pv 0) pa_nil)) pa_nil)) (pg_name (i := 4) sc_pieces.nd rfl (by first | exact Or.inl rfl | exact Or.inr rfl))
    (pss_one (ps_if (pt_not (pt_val (pe_ix ix_seq (pv 2) (pv 4) (fun _ _ => rfl)))) (pss_cons (ps_set (i := 5) sc_pieces.nd rfl (by first | exact Or.inl rfl | exact Or.inr rfl) (pe_cal c_reached hr C.tk (pa_cons (pv 1) (pa_cons (pv 4) pa_nil))))
    (pss_cons (ps_for C.po rfl (pi_list (pv 5)) (pg_name (i := 6) sc_pieces.nd rfl (by first | exact Or.inl rfl | exact Or.inr rfl))
    (pss_one (ps_asg pe_bl (pg_sub (pv 2) (pv 6) set_list))))
    (pss_one (ps_expr (pe_bm PySem.F.plainAttrs_list PySem.F.slot_list_append PySem.F.type_list_append mt_append (pv 3) (pa_cons (pv 5) pa_nil)))))) pss_nil)))
    (pss_one (ps_ret (pv 3)))))))),
    (LS.seq (LS.drop (LE.call (LB.cons (LE.var 0) LB.nil)))
    (LS.seq (LS.setX (LX.shift (LE.frz (LE.callG (LA.cons (LE.frz (LE.var 0)) LA.nil)))))
    (LS.seq (LS.set (LE.b G2.mulB (LA.lst (LA.cons (LE.frz (LE.c (.bl false) fun _ => .bl _)) LA.nil)) (LB.n Gn.len (LB.cons (LE.var 0) LB.nil))))
    (LS.seq (LS.set (LA.lst LA.nil))
    (LS.seq (LS.for_ (ks := [4, 5, 6]) (LI.range1 (LB.n Gn.len (LB.cons (LE.var 0) LB.nil))) LG.name
    (LS.ite (LT.not (LE.testB (LE.b G2.idx (LE.var 2) (LE.var 4)))) (LS.seq (LS.setR (LE.call (LB.cons (LE.var 1) (LB.cons (LE.var 4) LB.nil))))
    (LS.seq (LS.forG_ (ks := [6]) (LIG.map (LE.frz (LE.var 5))) LG.name
    (LS.setItem (LE.frz (LE.c (.bl true) fun _ => .bl _)) (LE.var 2) (LE.var 6)))
    (LS.drop (LE.bm ML.append (LE.var 3) (LA.cons (LE.map (LE.var 5)) LA.nil))))) LS.next))
    (LS.ret (LE.var 3)))))))⟩) h_pieces, Fd.bindsN fun _ _ _ _ _ _ us hl => match us, hl with | [_], _ => rfl⟩, g, Fd.kp⟩
theorem ok_ties_lists (T : Txt K mg) {fd : FuncData} (Fd : FnP K "ties_lists" s_ties_lists fd) (g : mg "ties_lists" = some (.ref (He.ga K "ties_lists")))
    (c_pieces : Cal P w K mg base 5 "pieces" ["web"] (liftG K sp_pieces)) :
    Cal P w K mg base 6 "ties_lists" ["web"] (liftP K sp_ties_lists) :=
  ⟨⟨fd, fn_pure (k := 5) (N := N_ties_lists) (d := d_ties_lists) Fd sc_ties_lists (fun xs Q E h => l_ties_lists xs Q E h) (fun cdv A outer s H E hr C => ⟨_, (pss_cons (ps_set (i := 1) sc_ties_lists.nd rfl (by first | exact Or.inl rfl | exact Or.inr rfl) (pe_lst (pa_cons (pe_lst pa_nil) pa_nil)))
    (pss_cons (ps_for C.po rfl (pi_list (pe_cal c_pieces hr C.tk (pa_cons (pv 0) pa_nil))) (pg_name (i := 2) sc_ties_lists.nd rfl (by first | exact Or.inl rfl | exact Or.inr rfl))
    (pss_one (ps_set (i := 1) sc_ties_lists.nd rfl (by first | exact Or.inl rfl | exact Or.inr rfl) (pe_op opA_add (pv 1) (pe_lc2 (own := [("ties", 3), ("thing", 4)]) (vs1 := [4]) rfl sc_ties_lists.nd (pi_list (pv 1)) (blkOk_by (by kernel_rfl)) (by decide) (fun _ _ _ _ _ => (pg_name (i := 3) sc_ties_lists.nd rfl (by first | exact Or.inl rfl | exact Or.inr rfl))) (fun _ _ _ _ _ => pts_nil) (fun _ _ _ _ _ => (pi_list (pv 2))) (fun _ _ _ _ _ => (pg_name (i := 4) sc_ties_lists.nd rfl (by first | exact Or.inl rfl | exact Or.inr rfl))) (fun _ _ _ _ _ => pts_nil) (fun _ _ _ _ _ => (pe_callB cr_sortedI (by rfl) T.b_sorted (by decide +kernel) (pa_cons (pe_op opA_add (pv 3) (pe_lst (pa_cons (pv 4) pa_nil))) pa_nil))))))))
    (pss_one (ps_ret (pe_callB (cr_sortedD (units65 hr)) (by rfl) T.b_sorted (by decide +kernel) (pa_cons (pv 1) pa_nil)))))),
    (LS.seq (LS.setX (LE.frz (LA.lst (LA.cons (LE.frz (LA.lst LA.nil)) LA.nil))))
    (LS.seq (LS.for_ (ks := [2]) (LI.list (LX.shift (LE.frz (LE.callG (LA.cons (LE.frz (LE.var 0)) LA.nil))))) LG.name
    (LS.setX (LE.frz (LE.b G2.add (LE.var 1) (LE.lc2 (LI.list (LE.frz (LE.var 1))) LG.name (GW.name (by decide)) LT.yes (LI.list (LE.frz (LE.var 2))) LG.name (GW.name (by decide)) LT.yes (LE.frz (LB.n Gn.sort (LB.cons (LE.b G2.add (LE.var 3) (LA.lst (LA.cons (LE.frz (LE.var 4)) LA.nil))) LB.nil))))))))
    (LS.ret (LB.n Gn.sortD (LB.cons (LE.var 1) LB.nil)))))⟩) h_ties_lists, Fd.bindsN fun _ _ _ _ _ _ us hl => match us, hl with | [_], _ => rfl⟩, g, Fd.kp⟩
theorem ok_forests (T : Txt K mg) {fd : FuncData} (Fd : FnP K "forests" s_forests fd) (g : mg "forests" = some (.ref (He.ga K "forests")))
    (c_check_size : Cal P w K mg base 1 "check_size" ["size"] (liftP K sp_check_size))
    (c_ties_lists : Cal P w K mg base 6 "ties_lists" ["web"] (liftP K sp_ties_lists)) :
    Cal P w K mg base 7 "forests" ["size"] (liftP K sp_forests) :=
  ⟨⟨fd, fn_pure (k := 6) (N := N_forests) (d := d_forests) Fd sc_forests (fun xs Q E h => l_forests xs Q E h) (fun cdv A outer s H E hr C => ⟨_, (pss_cons (ps_expr (pe_cal c_check_size hr C.tk (pa_cons (pv 0) pa_nil)))
    (pss_cons (ps_set (i := 1) sc_forests.nd rfl (by first | exact Or.inl rfl | exact Or.inr rfl) (pe_lst (pa_cons (pe_lst pa_nil) pa_nil)))
    (pss_cons (ps_for C.po rfl (pi_range1 (by rfl) T.b_range (pa_cons (pv 0) pa_nil)) (pg_name (i := 2) sc_forests.nd rfl (by first | exact Or.inl rfl | exact Or.inr rfl))
    (pss_one (ps_setLc2 (i := 1) (own := [("web", 4), ("ties", 5)]) (vs1 := [5]) rfl sc_forests.nd rfl rfl (sw_true rfl rfl rfl (by kernel_rfl)) (pi_list (pv 1)) (blkOk_by (by kernel_rfl)) (by decide) (fun _ _ _ _ _ => (pg_name (i := 4) sc_forests.nd rfl (by first | exact Or.inl rfl | exact Or.inr rfl))) (fun _ _ _ _ _ => pts_nil) (fun _ _ _ _ _ => (pi_list (pe_cal c_ties_lists hr takes0 (pa_cons (pv 4) pa_nil)))) (fun _ _ _ _ _ => (pg_name (i := 5) sc_forests.nd rfl (by first | exact Or.inl rfl | exact Or.inr rfl))) (fun _ _ _ _ _ => pts_nil) (fun _ _ _ _ _ => (pe_op opA_add (pe_lc (own := [("row", 3)]) rfl sc_forests.nd (pi_list (pv 4)) (blkOk_by (by kernel_rfl)) (fun _ _ _ _ _ => (pg_name (i := 3) sc_forests.nd rfl (by first | exact Or.inl rfl | exact Or.inr rfl))) (fun _ _ _ _ _ => pts_nil) (fun _ _ _ _ _ => (pe_callTy (call_list_of) (by rfl) T.b_list (by decide +kernel) (pa_cons (pv 3) pa_nil)))) (pe_lst (pa_cons (pv 5) pa_nil)))))))
    (pss_one (ps_ret (pv 1)))))),
    (LS.seq (LS.drop (LE.call (LB.cons (LE.var 0) LB.nil)))
    (LS.seq (LS.setX (LE.frz (LA.lst (LA.cons (LE.frz (LA.lst LA.nil)) LA.nil))))
    (LS.seq (LS.for_ (ks := [2]) (LI.range1 (LE.var 0)) LG.name
    (LS.setX (LE.frz (LE.lc2 (LI.list (LE.frz (LE.var 1))) LG.name (GW.name (by decide)) LT.yes (LI.list (LE.frz (LE.call (LB.cons (LE.var 4) LB.nil)))) LG.name (GW.name (by decide)) LT.yes (LE.frz (LE.b G2.add (LE.lc (LI.list (LE.frz (LE.var 4))) LG.name (GW.name (by decide)) LT.yes (LE.frz (LB.n Gn.list (LB.cons (LE.var 3) LB.nil)))) (LA.lst (LA.cons (LE.frz (LE.var 5)) LA.nil))))))))
    (LS.ret (LE.var 1)))))⟩) h_forests, Fd.bindsN fun _ _ _ _ _ _ us hl => match us, hl with | [_], _ => rfl⟩, g, Fd.kp⟩
theorem ok_law_is_forest (T : Txt K mg) {fd : FuncData} (Fd : FnP K "_law_is_forest" s_law_is_forest fd) (g : mg "_law_is_forest" = some (.ref (He.ga K "_law_is_forest"))) :
    Cal P w K mg base 1 "_law_is_forest" ["web"] (liftP K sp_law_is_forest) :=
  ⟨⟨fd, fn_pure (k := 0) (N := N_law_is_forest) (d := d_law_is_forest) Fd sc_law_is_forest (fun xs Q E h => l_law_is_forest xs Q E h) (fun cdv A outer s H E hr C => ⟨_, (pss_cons (ps_set (i := 1) sc_law_is_forest.nd rfl (by first | exact Or.inl rfl | exact Or.inr rfl) (pe_lst pa_nil))
    (pss_cons (ps_for C.po rfl (pi_range1 (by rfl) T.b_range (pa_cons (pe_callB (call_len) (by rfl) T.b_len (by decide +kernel) (pa_cons (pv 0) pa_nil)) pa_nil)) (pg_name (i := 2) sc_law_is_forest.nd rfl (by first | exact Or.inl rfl | exact Or.inr rfl))
    (pss_cons (ps_set (i := 3) sc_law_is_forest.nd rfl (by first | exact Or.inl rfl | exact Or.inr rfl) (pe_lc (own := [("tied", 4)]) rfl sc_law_is_forest.nd (pi_list (pe_ix ix_seq (pv 0) (pv 2) (fun _ _ => rfl))) (blkOk_by (by kernel_rfl)) (fun _ _ _ _ _ => (pg_name (i := 4) sc_law_is_forest.nd rfl (by first | exact Or.inl rfl | exact Or.inr rfl))) (fun _ _ _ _ _ => pts_nil) (fun _ _ _ _ _ => (pe_ix ix_seq (pv 1) (pv 4) (fun _ _ => rfl)))))
    (pss_cons (ps_if (pt_cmpR (op_lt) (pe_lenSetL rfl (by rfl) T.b_len (by rfl) T.b_set (pv 3)) (pe_callB (call_len) (by rfl) T.b_len (by decide +kernel) (pa_cons (pv 3) pa_nil)) (nomark _)) (pss_one (ps_ret pe_bl)) pss_nil)
    (pss_one (ps_set (i := 1) sc_law_is_forest.nd rfl (by first | exact Or.inl rfl | exact Or.inr rfl) (pe_op opA_add (pe_lc (own := [("label", 5)]) rfl sc_law_is_forest.nd (pi_list (pv 1)) (blkOk_by (by kernel_rfl)) (fun _ _ _ _ _ => (pg_name (i := 5) sc_law_is_forest.nd rfl (by first | exact Or.inl rfl | exact Or.inr rfl))) (fun _ _ _ _ _ => pts_nil) (fun _ _ _ _ _ => (pe_ifExp (pt_cmpR (opA_in hr) (pv 5) (pv 3) (by rfl)) (pv 2) (pv 5)))) (pe_lst (pa_cons (pv 2) pa_nil))))))))
    (pss_one (ps_ret pe_bl)))),
    (LS.seq (LS.setX (LE.frz (LA.lst LA.nil)))
    (LS.seq (LS.for_ (ks := [2, 3]) (LI.range1 (LB.n Gn.len (LB.cons (LE.var 0) LB.nil))) LG.name
    (LS.seq (LS.setX (LE.frz (LE.lc (LI.list (LE.frz (LE.b G2.idx (LE.var 0) (LE.var 2)))) LG.name (GW.name (by decide)) LT.yes (LE.frz (LE.b G2.idx (LE.var 1) (LE.var 4))))))
    (LS.seq (LS.ite (LE.test (LE.b G2.iiB (LE.u G1.lenSet (LE.var 3)) (LB.n Gn.len (LB.cons (LE.var 3) LB.nil)))) (LS.ret (LE.c (.bl false) fun _ => .bl _)) LS.next)
    (LS.setX (LE.frz (LE.b G2.add (LE.lc (LI.list (LE.frz (LE.var 1))) LG.name (GW.name (by decide)) LT.yes (LE.frz (LE.ifV (LE.test (LE.b G2.in_ (LE.var 5) (LE.var 3))) (LE.var 2) (LE.var 5)))) (LA.lst (LA.cons (LE.frz (LE.var 2)) LA.nil))))))))
    (LS.ret (LE.c (.bl true) fun _ => .bl _))))⟩) h_law_is_forest, Fd.bindsN fun _ _ _ _ _ _ us hl => match us, hl with | [_], _ => rfl⟩, g, Fd.kp⟩
theorem ok_law_listed (T : Txt K mg) {fd : FuncData} (Fd : FnP K "_law_listed" s_law_listed fd) (g : mg "_law_listed" = some (.ref (He.ga K "_law_listed")))
    (c_forests : Cal P w K mg base 7 "forests" ["size"] (liftP K sp_forests))
    (c_law_is_forest : Cal P w K mg base 1 "_law_is_forest" ["web"] (liftP K sp_law_is_forest))
    (c_is_forest : Cal P w K mg base 5 "is_forest" ["web"] (liftP K sp_is_forest)) :
    Cal P w K mg base 8 "_law_listed" ["web"] (liftP K sp_law_listed) :=
  ⟨⟨fd, fn_pure (k := 7) (N := N_law_listed) (d := d_law_listed) Fd sc_law_listed (fun xs Q E h => l_law_listed xs Q E h) (fun cdv A outer s H E hr C => ⟨_, (pss_cons (ps_set (i := 1) sc_law_listed.nd rfl (by first | exact Or.inl rfl | exact Or.inr rfl) (pe_cal c_forests hr C.tk (pa_cons (pe_callB (call_len) (by rfl) T.b_len (by decide +kernel) (pa_cons (pv 0) pa_nil)) pa_nil)))
    (pss_cons (ps_set (i := 2) sc_law_listed.nd rfl (by first | exact Or.inl rfl | exact Or.inr rfl) (pe_cal c_law_is_forest hr C.tk (pa_cons (pv 0) pa_nil)))
    (pss_cons (ps_set (i := 3) sc_law_listed.nd rfl (by first | exact Or.inl rfl | exact Or.inr rfl) (pe_cal c_is_forest hr C.tk (pa_cons (pe_lc (own := [("ties", 4)]) rfl sc_law_listed.nd (pi_list (pv 0)) (blkOk_by (by kernel_rfl)) (fun _ _ _ _ _ => (pg_name (i := 4) sc_law_listed.nd rfl (by first | exact Or.inl rfl | exact Or.inr rfl))) (fun _ _ _ _ _ => pts_nil) (fun _ _ _ _ _ => (pe_callTy (call_list_of) (by rfl) T.b_list (by decide +kernel) (pa_cons (pv 4) pa_nil)))) pa_nil)))
    (pss_one (ps_ret (pe_and (pe_cmpR (opA_eq hr) (pe_cmpR (opA_in hr) (pv 0) (pv 1) (by rfl)) (pv 2) (nomark _)) (pe_and (pe_callB (call_isi) (by rfl) T.b_isinstance (by decide +kernel) (pa_cons (pv 3) (pa_cons (pe_bltn (by rfl) T.b_bool (by decide +kernel) rfl (v := .ty "bool")) pa_nil))) (pe_one (pe_cmpR (opA_eq hr) (pv 3) (pv 2) (nomark _)))))))))),
    (LS.seq (LS.setX (LE.frz (LE.call (LB.cons (LB.n Gn.len (LB.cons (LE.var 0) LB.nil)) LB.nil))))
    (LS.seq (LS.setX (LE.frz (LE.call (LB.cons (LE.var 0) LB.nil))))
    (LS.seq (LS.setX (LE.frz (LE.call (LB.cons (LE.lc (LI.list (LE.frz (LE.var 0))) LG.name (GW.name (by decide)) LT.yes (LE.frz (LB.n Gn.list (LB.cons (LE.var 4) LB.nil)))) LB.nil))))
    (LS.ret (LE.andV (LE.b G2.eq (LE.b G2.in_ (LE.var 0) (LE.var 1)) (LE.var 2)) (LE.andV (LB.n Gn.isi (LB.cons (LE.var 3) (LB.cons (LE.c (.ty "bool") fun _ => .ty _) LB.nil))) (LE.b G2.eq (LE.var 3) (LE.var 2))))))))⟩) h_law_listed, Fd.bindsN fun _ _ _ _ _ _ us hl => match us, hl with | [_], _ => rfl⟩, g, Fd.kp⟩
theorem ok_law_ascends (T : Txt K mg) {fd : FuncData} (Fd : FnP K "_law_ascends" s_law_ascends fd) (g : mg "_law_ascends" = some (.ref (He.ga K "_law_ascends")))
    (c_forests : Cal P w K mg base 7 "forests" ["size"] (liftP K sp_forests)) :
    Cal P w K mg base 8 "_law_ascends" ["size"] (liftP K sp_law_ascends) :=
  ⟨⟨fd, fn_pure (k := 7) (N := N_law_ascends) (d := d_law_ascends) Fd sc_law_ascends (fun xs Q E h => l_law_ascends xs Q E h) (fun cdv A outer s H E hr C => ⟨_, (pss_cons (ps_set (i := 1) sc_law_ascends.nd rfl (by first | exact Or.inl rfl | exact Or.inr rfl) (pe_cal c_forests hr C.tk (pa_cons (pv 0) pa_nil)))
    (pss_cons (ps_set (i := 2) sc_law_ascends.nd rfl (by first | exact Or.inl rfl | exact Or.inr rfl) (pe_cal c_forests hr C.tk (pa_cons (pe_callB (call_max2 rfl) (by rfl) T.b_max (by decide +kernel) (pa_cons (pe_op op_sub (pv 0) pe_int) (pa_cons pe_int pa_nil))) pa_nil)))
    (pss_cons (ps_for C.po rfl (pi_range1 (by rfl) T.b_range (pa_cons (pe_callB (call_len) (by rfl) T.b_len (by decide +kernel) (pa_cons (pv 1) pa_nil)) pa_nil)) (pg_name (i := 3) sc_law_ascends.nd rfl (by first | exact Or.inl rfl | exact Or.inr rfl))
    (pss_cons (ps_if (PW.pt (pw_or (pt_cmpR (opA_ne hr) (pe_callB (call_len) (by rfl) T.b_len (by decide +kernel) (pa_cons (pe_ix ix_seq (pv 1) (pv 3) (fun _ _ => rfl)) pa_nil)) (pv 0) (nomark _)) (pw_or1 (pt_cmpR (opA_notin hr) (pe_slice sl_list (pe_ix ix_seq (pv 1) (pv 3) (fun _ _ => rfl)) po_none (po_some (pe_callB (call_max2 rfl) (by rfl) T.b_max (by decide +kernel) (pa_cons (pe_op op_sub (pv 0) pe_int) (pa_cons pe_int pa_nil))))) (pv 2) (by rfl))))) (pss_one (ps_ret pe_bl)) pss_nil)
    (pss_one (ps_if (PW.pt (pw_and (pt_cmpR (op_gt) (pv 3) pe_int (nomark _)) (pw_and1 (pt_not (pt_cmpR (op_ltD (units65 hr)) (pe_ix ix_seq (pv 1) (pe_op op_sub (pv 3) pe_int) (fun _ _ => rfl)) (pe_ix ix_seq (pv 1) (pv 3) (fun _ _ => rfl)) (nomark _)))))) (pss_one (ps_ret pe_bl)) pss_nil))))
    (pss_one (ps_ret (pe_cmpR (opA_eq hr) (pe_callB (call_len) (by rfl) T.b_len (by decide +kernel) (pa_cons (pv 1) pa_nil)) (pe_ix ix_seq (pe_lst (pa_cons pe_int (pa_cons pe_int (pa_cons pe_int (pa_cons pe_int (pa_cons pe_int (pa_cons pe_int pa_nil))))))) (pv 0) (fun _ _ => rfl)) (nomark _))))))),
    (LS.seq (LS.setX (LE.frz (LE.call (LB.cons (LE.var 0) LB.nil))))
    (LS.seq (LS.setX (LE.frz (LE.call (LB.cons (LB.n Gn.max2 (LB.cons (LE.b G2.iiN (LE.var 0) (LE.c (.int 1) fun _ => .int _)) (LB.cons (LE.c (.int 0) fun _ => .int _) LB.nil))) LB.nil))))
    (LS.seq (LS.for_ (ks := [3]) (LI.range1 (LB.n Gn.len (LB.cons (LE.var 1) LB.nil))) LG.name
    (LS.seq (LS.ite (LT.or (LE.test (LE.b G2.ne (LB.n Gn.len (LB.cons (LE.b G2.idx (LE.var 1) (LE.var 3)) LB.nil)) (LE.var 0))) (LE.test (LE.b G2.notin (LE.slice (LE.b G2.idx (LE.var 1) (LE.var 3)) LO.nil (LO.one (LB.n Gn.max2 (LB.cons (LE.b G2.iiN (LE.var 0) (LE.c (.int 1) fun _ => .int _)) (LB.cons (LE.c (.int 0) fun _ => .int _) LB.nil))))) (LE.var 2)))) (LS.ret (LE.c (.bl false) fun _ => .bl _)) LS.next)
    (LS.ite (LT.and (LE.test (LE.b G2.iiB (LE.var 3) (LE.c (.int 0) fun _ => .int _))) (LT.not (LE.test (LE.b G2.ltD (LE.b G2.idx (LE.var 1) (LE.b G2.iiN (LE.var 3) (LE.c (.int 1) fun _ => .int _))) (LE.b G2.idx (LE.var 1) (LE.var 3)))))) (LS.ret (LE.c (.bl false) fun _ => .bl _)) LS.next)))
    (LS.ret (LE.b G2.eq (LB.n Gn.len (LB.cons (LE.var 1) LB.nil)) (LE.b G2.idx (LA.lst (LA.cons (LE.frz (LE.c (.int 1) fun _ => .int _)) (LA.cons (LE.frz (LE.c (.int 1) fun _ => .int _)) (LA.cons (LE.frz (LE.c (.int 2) fun _ => .int _)) (LA.cons (LE.frz (LE.c (.int 7) fun _ => .int _)) (LA.cons (LE.frz (LE.c (.int 38) fun _ => .int _)) (LA.cons (LE.frz (LE.c (.int 291) fun _ => .int _)) LA.nil))))))) (LE.var 0)))))))⟩) h_law_ascends, Fd.bindsN fun _ _ _ _ _ _ us hl => match us, hl with | [_], _ => rfl⟩, g, Fd.kp⟩
theorem ok_law (T : Txt K mg) {fd : FuncData} (Fd : FnP K "law" s_law fd)
    (c_law_source : Cal P w K mg base 1 "_law_source" ["script", "place"] (liftP K sp_law_source))
    (c_law_draw_c : Cal P w K mg base 1 "_law_draw" ["source", "limit"] (liftG K sp_law_draw_c))
    (c_law_web_b : Cal P w K mg base 3 "_law_web" ["source", "many", "share"] (liftG K sp_law_web_b))
    (c_law_forest_b : Cal P w K mg base 2 "_law_forest" ["source", "many", "share"] (liftG K sp_law_forest_b))
    (c_law_listed : Cal P w K mg base 8 "_law_listed" ["web"] (liftP K sp_law_listed))
    (c_law_chosen : Cal P w K mg base 2 "_law_chosen" ["source", "things", "share"] (liftG K sp_law_chosen))
    (c_law_ascends : Cal P w K mg base 8 "_law_ascends" ["size"] (liftP K sp_law_ascends)) :
    FnOk P w K mg base (L2.CX P w) 9 (He.ga K "law") fd ["script"] (liftP K sp_law) :=
  fn_pure (k := 8) (N := N_law) (d := d_law) Fd sc_law (fun xs Q E h => l_law xs Q E h) (fun cdv A outer s H E hr C => ⟨_, (pss_cons (ps_for C.po rfl (pi_range1 (by rfl) T.b_range (pa_cons pe_int pa_nil)) (pg_name (i := 1) sc_law.nd rfl (by first | exact Or.inl rfl | exact Or.inr rfl))
    (pss_cons (ps_set (i := 2) sc_law.nd rfl (by first | exact Or.inl rfl | exact Or.inr rfl) (pe_cal c_law_source hr C.tk (pa_cons (pv 0) (pa_cons (pv 1) pa_nil))))
    (pss_cons (ps_set (i := 3) sc_law.nd rfl (by first | exact Or.inl rfl | exact Or.inr rfl) (pe_cal c_law_draw_c hr C.tk (pa_cons (pv 2) (pa_cons pe_int pa_nil))))
    (pss_cons (ps_set (i := 4) sc_law.nd rfl (by first | exact Or.inl rfl | exact Or.inr rfl) (pe_cal c_law_draw_c hr C.tk (pa_cons (pv 2) (pa_cons pe_int pa_nil))))
    (pss_cons (ps_set (i := 5) sc_law.nd rfl (by first | exact Or.inl rfl | exact Or.inr rfl) (pe_op opA_add pe_int (pe_cal c_law_draw_c hr C.tk (pa_cons (pv 2) (pa_cons pe_int pa_nil)))))
    (pss_cons (ps_if (pt_cmpR (opA_eq hr) (pv 3) pe_int (nomark _)) (pss_one (ps_set (i := 6) sc_law.nd rfl (by first | exact Or.inl rfl | exact Or.inr rfl) (pe_cal c_law_web_b hr C.tk (pa_cons (pv 2) (pa_cons (pv 4) (pa_cons (pv 5) pa_nil)))))) (pss_one (ps_set (i := 6) sc_law.nd rfl (by first | exact Or.inl rfl | exact Or.inr rfl) (pe_cal c_law_forest_b hr C.tk (pa_cons (pv 2) (pa_cons (pv 4) (pa_cons (pv 5) pa_nil)))))))
    (pss_cons (ps_if (PW.pt (pw_or (pt_not (pt_val (pe_cal c_law_listed hr C.tk (pa_cons (pv 6) pa_nil)))) (pw_or1 (pt_not (pt_val (pe_cal c_law_listed hr C.tk (pa_cons (pe_slice sl_list (pv 6) po_none (po_some (pe_callB (call_max2 rfl) (by rfl) T.b_max (by decide +kernel) (pa_cons (pe_op op_sub (pv 4) pe_int) (pa_cons pe_int pa_nil))))) pa_nil))))))) (pss_one (ps_ret pe_bl)) pss_nil)
    (pss_one (ps_if (pt_cmpR (op_lt) (pv 4) pe_int (nomark _)) (pss_cons (ps_set (i := 7) sc_law.nd rfl (by first | exact Or.inl rfl | exact Or.inr rfl) (pe_cal c_law_chosen hr C.tk (pa_cons (pv 2) (pa_cons (pe_listRg rfl (by rfl) T.b_list (prg_1 (by rfl) T.b_range (pv 4))) (pa_cons pe_int pa_nil)))))
    (pss_one (ps_if (PW.pt (pw_or (pt_not (pt_val (pe_cal c_law_listed hr C.tk (pa_cons (pe_op opA_add (pv 6) (pe_lst (pa_cons (pv 7) pa_nil))) pa_nil)))) (pw_or1 (pt_not (pt_val (pe_cal c_law_ascends hr C.tk (pa_cons (pv 4) pa_nil))))))) (pss_one (ps_ret pe_bl)) pss_nil))) (pss_one (ps_if (PW.pt (pw_and (pt_cmpR (opA_eq hr) (pv 1) pe_int (nomark _)) (pw_and1 (pt_not (pt_val (pe_cal c_law_ascends hr C.tk (pa_cons pe_int pa_nil))))))) (pss_one (ps_ret pe_bl)) pss_nil)))))))))))
    (pss_one (ps_ret pe_bl))),
    (LS.seq (LS.for_ (ks := [1, 2, 3, 4, 5, 6, 7]) (LI.range1 (LE.c (.int 3) fun _ => .int _)) LG.name
    (LS.seq (LS.setR (LE.call (LB.cons (LE.var 0) (LB.cons (LE.var 1) LB.nil))))
    (LS.seq (LS.setX (LE.frz (LE.callG (LA.cons (LE.frz (LE.var 2)) (LA.cons (LE.frz (LE.c (.int 2) fun _ => .int _)) LA.nil)))))
    (LS.seq (LS.setX (LE.frz (LE.callG (LA.cons (LE.frz (LE.var 2)) (LA.cons (LE.frz (LE.c (.int 6) fun _ => .int _)) LA.nil)))))
    (LS.seq (LS.setX (LE.frz (LE.b G2.add (LE.c (.int 1) fun _ => .int _) (LE.callG (LA.cons (LE.frz (LE.var 2)) (LA.cons (LE.frz (LE.c (.int 4) fun _ => .int _)) LA.nil))))))
    (LS.join (LS.ite (LE.test (LE.b G2.eq (LE.var 3) (LE.c (.int 0) fun _ => .int _))) (LS.setX (LX.shift (LE.frz (LE.callG (LA.cons (LE.frz (LE.var 2)) (LA.cons (LE.frz (LE.var 4)) (LA.cons (LE.frz (LE.var 5)) LA.nil))))))) (LS.setX (LX.shift (LE.frz (LE.callG (LA.cons (LE.frz (LE.var 2)) (LA.cons (LE.frz (LE.var 4)) (LA.cons (LE.frz (LE.var 5)) LA.nil))))))))
    (LS.seq (LS.ite (LT.or (LT.not (LE.testB (LE.call (LB.cons (LE.var 6) LB.nil)))) (LT.not (LE.testB (LE.call (LB.cons (LX.val (LE.frz (LE.slice (LE.var 6) LO.nil (LO.one (LB.n Gn.max2 (LB.cons (LE.b G2.iiN (LE.var 4) (LE.c (.int 1) fun _ => .int _)) (LB.cons (LE.c (.int 0) fun _ => .int _) LB.nil))))))) LB.nil))))) (LS.ret (LE.c (.bl false) fun _ => .bl _)) LS.next)
    (LS.ite (LE.test (LE.b G2.iiB (LE.var 4) (LE.c (.int 5) fun _ => .int _))) (LS.seq (LS.setX (LE.frz (LE.callG (LA.cons (LE.frz (LE.var 2)) (LA.cons (LE.frz (LE.lrg1 (LE.var 4))) (LA.cons (LE.frz (LE.c (.int 2) fun _ => .int _)) LA.nil))))))
    (LS.ite (LT.or (LT.not (LE.testB (LE.call (LB.cons (LE.b G2.add (LE.var 6) (LA.lst (LA.cons (LE.frz (LE.var 7)) LA.nil))) LB.nil)))) (LT.not (LE.testB (LE.call (LB.cons (LE.var 4) LB.nil))))) (LS.ret (LE.c (.bl false) fun _ => .bl _)) LS.next)) (LS.ite (LT.and (LE.test (LE.b G2.eq (LE.var 1) (LE.c (.int 0) fun _ => .int _))) (LT.not (LE.testB (LE.call (LB.cons (LE.c (.int 5) fun _ => .int _) LB.nil))))) (LS.ret (LE.c (.bl false) fun _ => .bl _)) LS.next)))))))))
    (LS.ret (LE.c (.bl true) fun _ => .bl _)))⟩) h_law
end
theorem facts {P : Program} {w : World} {K : PySem.W.Frag} {h : Heap} {mg : Str → Option Value} {f : Addr} (X : K.In h) (G : h.Ns mainGlobals mg) (hfa : mg ("law" : Str) = some (.ref f)) (c : Hf.SaysE fa fb fn K) :
    ∃ fd : FuncData, (∀ (s : Shared) (v : Value), BindsTo s fd ⟨[v], []⟩ [("script", v)]) ∧ ∀ base : Heap, K.In base → base.Ns mainGlobals mg → FnOk P w K mg base (L2.CX P w) 9 f fd ["script"] (liftP K sp_law) := by
  obtain ⟨fd_law_source, F_law_source⟩ := c.d.def_ 0 rfl
  have g_law_source := He.glo_ok X G (c.d.fact 0 (f := .glo "_law_source") rfl)
  obtain ⟨fd_law_draw_c, F_law_draw_c⟩ := c.d.def_ 1 rfl
  have g_law_draw_c := He.glo_ok X G (c.d.fact 1 (f := .glo "_law_draw") rfl)
  obtain ⟨fd_law_chosen, F_law_chosen⟩ := c.d.def_ 2 rfl
  have g_law_chosen := He.glo_ok X G (c.d.fact 2 (f := .glo "_law_chosen") rfl)
  obtain ⟨fd_law_forest_b, F_law_forest_b⟩ := c.d.def_ 3 rfl
  have g_law_forest_b := He.glo_ok X G (c.d.fact 3 (f := .glo "_law_forest") rfl)
  obtain ⟨fd_law_web_b, F_law_web_b⟩ := c.d.def_ 4 rfl
  have g_law_web_b := He.glo_ok X G (c.d.fact 4 (f := .glo "_law_web") rfl)
  obtain ⟨fd_is_integer, F_is_integer⟩ := c.d.def_ 5 rfl
  have g_is_integer := He.glo_ok X G (c.d.fact 5 (f := .glo "is_integer") rfl)
  obtain ⟨fd_are_ties, F_are_ties⟩ := c.d.def_ 6 rfl
  have g_are_ties := He.glo_ok X G (c.d.fact 6 (f := .glo "are_ties") rfl)
  obtain ⟨fd_is_web, F_is_web⟩ := c.d.def_ 7 rfl
  have g_is_web := He.glo_ok X G (c.d.fact 7 (f := .glo "is_web") rfl)
  obtain ⟨fd_check_web, F_check_web⟩ := c.d.def_ 8 rfl
  have g_check_web := He.glo_ok X G (c.d.fact 8 (f := .glo "check_web") rfl)
  obtain ⟨fd_is_forest, F_is_forest⟩ := c.d.def_ 9 rfl
  have g_is_forest := He.glo_ok X G (c.d.fact 9 (f := .glo "is_forest") rfl)
  obtain ⟨fd_check_size, F_check_size⟩ := c.d.def_ 10 rfl
  have g_check_size := He.glo_ok X G (c.d.fact 10 (f := .glo "check_size") rfl)
  obtain ⟨fd_all_neighbours, F_all_neighbours⟩ := c.d.def_ 11 rfl
  have g_all_neighbours := He.glo_ok X G (c.d.fact 11 (f := .glo "all_neighbours") rfl)
  obtain ⟨fd_reached, F_reached⟩ := c.d.def_ 12 rfl
  have g_reached := He.glo_ok X G (c.d.fact 12 (f := .glo "reached") rfl)
  obtain ⟨fd_pieces, F_pieces⟩ := c.d.def_ 13 rfl
  have g_pieces := He.glo_ok X G (c.d.fact 13 (f := .glo "pieces") rfl)
  obtain ⟨fd_ties_lists, F_ties_lists⟩ := c.d.def_ 14 rfl
  have g_ties_lists := He.glo_ok X G (c.d.fact 14 (f := .glo "ties_lists") rfl)
  obtain ⟨fd_forests, F_forests⟩ := c.d.def_ 15 rfl
  have g_forests := He.glo_ok X G (c.d.fact 15 (f := .glo "forests") rfl)
  obtain ⟨fd_law_is_forest, F_law_is_forest⟩ := c.d.def_ 16 rfl
  have g_law_is_forest := He.glo_ok X G (c.d.fact 16 (f := .glo "_law_is_forest") rfl)
  obtain ⟨fd_law_listed, F_law_listed⟩ := c.d.def_ 17 rfl
  have g_law_listed := He.glo_ok X G (c.d.fact 17 (f := .glo "_law_listed") rfl)
  obtain ⟨fd_law_ascends, F_law_ascends⟩ := c.d.def_ 18 rfl
  have g_law_ascends := He.glo_ok X G (c.d.fact 18 (f := .glo "_law_ascends") rfl)
  obtain ⟨fd_law, F_law⟩ := c.d.def_ 19 rfl
  have g_law := He.glo_ok X G (c.d.fact 19 (f := .glo "law") rfl)
  have b_abs := He.free_ok X G (c.d.fact 20 (f := .free "abs") rfl)
  have b_bool := He.free_ok X G (c.d.fact 21 (f := .free "bool") rfl)
  have b_enumerate := He.free_ok X G (c.d.fact 22 (f := .free "enumerate") rfl)
  have b_int := He.free_ok X G (c.d.fact 23 (f := .free "int") rfl)
  have b_isinstance := He.free_ok X G (c.d.fact 24 (f := .free "isinstance") rfl)
  have b_len := He.free_ok X G (c.d.fact 25 (f := .free "len") rfl)
  have b_list := He.free_ok X G (c.d.fact 26 (f := .free "list") rfl)
  have b_max := He.free_ok X G (c.d.fact 27 (f := .free "max") rfl)
  have b_range := He.free_ok X G (c.d.fact 28 (f := .free "range") rfl)
  have b_set := He.free_ok X G (c.d.fact 29 (f := .free "set") rfl)
  have b_sorted := He.free_ok X G (c.d.fact 30 (f := .free "sorted") rfl)
  have c_LARGEST := He.int_ok X G (c.d.fact 31 (f := .int "LARGEST" 5) rfl)
  have x_InvalidSize := (XOk.of X G (c.d.fact 32 (f := .glo "InvalidSize") rfl) (c.d.fact 33 (f := .exc "InvalidSize") rfl) : XOk K mg "InvalidSize")
  have x_InvalidWeb := (XOk.of X G (c.d.fact 34 (f := .glo "InvalidWeb") rfl) (c.d.fact 35 (f := .exc "InvalidWeb") rfl) : XOk K mg "InvalidWeb")
  have T : Txt K mg := ⟨b_abs, b_bool, b_enumerate, b_int, b_isinstance, b_len, b_list, b_max, b_range, b_set, b_sorted, c_LARGEST, x_InvalidSize, x_InvalidWeb⟩
  have e := hfa.symm.trans g_law
  cases e
  have bl := FunD.bindsA (ps := ["script"]) F_law fun _ _ _ _ _ _ us hl => match us, hl with | [_], _ => rfl
  refine ⟨fd_law, fun s v => bl s [v] rfl, fun base _ _ => ?_⟩
  have c_law_source := ok_law_source (P := P) (w := w) (base := base) T F_law_source g_law_source
  have c_law_draw_c := ok_law_draw_c (P := P) (w := w) (base := base) T F_law_draw_c g_law_draw_c
  have c_law_chosen := ok_law_chosen (P := P) (w := w) (base := base) T F_law_chosen g_law_chosen c_law_draw_c
  have c_law_forest_b := ok_law_forest_b (P := P) (w := w) (base := base) T F_law_forest_b g_law_forest_b c_law_draw_c
  have c_law_web_b := ok_law_web_b (P := P) (w := w) (base := base) T F_law_web_b g_law_web_b c_law_chosen
  have c_is_integer := ok_is_integer (P := P) (w := w) (base := base) T F_is_integer g_is_integer
  have c_are_ties := ok_are_ties (P := P) (w := w) (base := base) T F_are_ties g_are_ties c_is_integer
  have c_is_web := ok_is_web (P := P) (w := w) (base := base) T F_is_web g_is_web c_are_ties
  have c_check_web := ok_check_web (P := P) (w := w) (base := base) T F_check_web g_check_web c_is_web
  have c_is_forest := ok_is_forest (P := P) (w := w) (base := base) T F_is_forest g_is_forest c_check_web
  have c_check_size := ok_check_size (P := P) (w := w) (base := base) T F_check_size g_check_size
  have c_all_neighbours := ok_all_neighbours (P := P) (w := w) (base := base) T F_all_neighbours g_all_neighbours
  have c_reached := ok_reached (P := P) (w := w) (base := base) T F_reached g_reached
  have c_pieces := ok_pieces (P := P) (w := w) (base := base) T F_pieces g_pieces c_check_web c_all_neighbours c_reached
  have c_ties_lists := ok_ties_lists (P := P) (w := w) (base := base) T F_ties_lists g_ties_lists c_pieces
  have c_forests := ok_forests (P := P) (w := w) (base := base) T F_forests g_forests c_check_size c_ties_lists
  have c_law_is_forest := ok_law_is_forest (P := P) (w := w) (base := base) T F_law_is_forest g_law_is_forest
  have c_law_listed := ok_law_listed (P := P) (w := w) (base := base) T F_law_listed g_law_listed c_forests c_law_is_forest c_is_forest
  have c_law_ascends := ok_law_ascends (P := P) (w := w) (base := base) T F_law_ascends g_law_ascends c_forests
  exact ok_law T F_law c_law_source c_law_draw_c c_law_web_b c_law_forest_b c_law_listed c_law_chosen c_law_ascends
end Row
open PySem PySem.W PySem.Calls PyProof.Rows
theorem PySem.Challenge.cw_tintonce_k65_whole_webs_in_the_list_holds : PySem.Challenge.rw_tintonce_k65_whole_webs_in_the_list.Holds := by
  w_on; o_law
  refine HandSHeadRun.head_any (r := OpenLaw.row PySem.Challenge.rw_tintonce_k65_whole_webs_in_the_list) (q := view (OpenLaw.row PySem.Challenge.rw_tintonce_k65_whole_webs_in_the_list).prog [27]) (H := Row.hk) (ob := Row.ob) (M := 6000) (loose := Row.names) (d := HandSHeadRun.topDef (OpenLaw.row PySem.Challenge.rw_tintonce_k65_whole_webs_in_the_list).prog 27) (kwd := []) Row.ob_eq
    (by kernel_rfl) (fun s => by kernel_rfl) Row.run (by kernel_rfl) (by kernel_rfl) (by kernel_rfl) (by rfl) (by first | assumption | decide +kernel) (by decide +kernel) ⟨rfl, rfl, rfl, rfl, rfl, by decide +kernel⟩ ?hw ?hc
  case hw => w_witness2
  case hc =>
    refine L3.walk_ofX (l := PySem.Challenge.rw_tintonce_k65_whole_webs_in_the_list) (n := 63) (k := 9) (x := "script") (CX := fun w => L2.CX (PySem.Challenge.rw_tintonce_k65_whole_webs_in_the_list).prog w) rfl (by decide) (by kernel_rfl) ⟨rfl, by decide, by decide⟩ ?F (fun w H s e s' h => L3.cx_no H s e s' h)
    intro w mg fa h Y G hmg0
    obtain ⟨K, KX, c⟩ := Y
    have hmg : mg ("law" : PySem.Str) = some (.ref fa) := by
      have e : (HandSHeadRun.topDef (OpenLaw.row PySem.Challenge.rw_tintonce_k65_whole_webs_in_the_list).prog 27).name = ("law" : PySem.Str) := by kernel_rfl
      rw [← e]
      exact hmg0
    obtain ⟨fd, hb, hF⟩ := Row.facts (P := (PySem.Challenge.rw_tintonce_k65_whole_webs_in_the_list).prog) (w := w) KX G hmg c
    exact ⟨K, fd, L3.liftP K Pf.sp_law, KX, hb, fun H a ns hl _ hS => L3.law_wish Pf.law_true H a ns hl hS, hF⟩

