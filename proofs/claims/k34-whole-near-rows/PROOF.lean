import PyProof.Rows.All
import Wide.All
import OpenK.AllK
import Wide.FinOn
import HandS.ForMost
import HandS.IsInst
import HandS.Conv
import HandS.TupLe
import HandS.TupAny
import HandS.SortInts
import HandS.More
import HandS.Zip
import HandS.SetFor
import HandS.Strs
import HandS.TupMul
import KE.DatumOrd
import KE.SortData
import KE.GoesEnum
import KE.KDictZip
import HandS.DictTup
import HandS.Words
import KE.KStateDown
import Lean
import HandS.Base
import HandS.Call
import HandS.Ends
import HandS.WordsExc
import HandS.Defaults
import HandS.Head0
import HandS.Head1
import HandS.Head2
import HandS.HeadEnd
import HandS.HeadHook1
import HandS.HeadHook2
import HandS.HeadNt
import PySem.Challenge.RW_shavenets_k34_whole_near_rows
set_option Elab.async false
set_option linter.all false
set_option maxRecDepth 100000
set_option maxHeartbeats 0
/-! Heap-free readings over the hand layer: data D, what stands for it (Rep), the state between two statements (SR), and the judgements that carry a reading over to a reading of data. -/
namespace NR
open PySem PySem.Spec PyProof.Rows L2

/-! ### data -/
inductive D where
  | non | bl (b : Bool) | int (i : Int) | str (x : Str) | raw (a : Addr) | ty (n : String) | tup (xs : List D) | lst (xs : List D) | dk (ks : List Int) | dt (ks : List (List Int))

def dkv (ks : List Int) : List (Key × V) := ks.map fun k => (Sum.inl k, V.bl true)
def dtv (ks : List (List Int)) : List (List Key × V) := ks.map fun k => (k.map Sum.inl, V.bl true)

def Ex (H H' : Hp) : Prop := ∀ a o, H a = some o → H' a = some o
theorem Ex.refl (H : Hp) : Ex H H := fun _ _ h => h
theorem Ex.trans {H H1 H2 : Hp} (a : Ex H H1) (b : Ex H1 H2) : Ex H H2 := fun x o h => b x o (a x o h)

mutual
inductive Rep (S : Hp) : V → D → Prop
  | non : Rep S .non .non
  | bl (b : Bool) : Rep S (.bl b) (.bl b)
  | int (i : Int) : Rep S (.int i) (.int i)
  | str (x : Str) : Rep S (.str x) (.str x)
  | raw (a : Addr) : Rep S (.ref a) (.raw a)
  | ty (n : String) : Rep S (.ty n) (.ty n)
  | tup {a : Addr} {xs : List V} {ds : List D} (h : S a = some (.tup xs)) (r : Reps S xs ds) : Rep S (.ref a) (.tup ds)
  | lst {a : Addr} {xs : List V} {ds : List D} (h : S a = some (.lst xs)) (r : Reps S xs ds) : Rep S (.ref a) (.lst ds)
  | dk {a : Addr} {ks : List Int} (h : S a = some (.dK (dkv ks))) : Rep S (.ref a) (.dk ks)
  | dt {a : Addr} {ks : List (List Int)} (h : S a = some (.dT (dtv ks))) : Rep S (.ref a) (.dt ks)
inductive Reps (S : Hp) : List V → List D → Prop
  | nil : Reps S [] []
  | cons {v : V} {vs : List V} {d : D} {ds : List D} (h : Rep S v d) (r : Reps S vs ds) : Reps S (v :: vs) (d :: ds)
end

mutual
theorem Rep.mono {S S' : Hp} (e : Ex S S') : ∀ {v : V} {d : D}, Rep S v d → Rep S' v d
  | _, _, .non => .non
  | _, _, .bl b => .bl b
  | _, _, .int i => .int i
  | _, _, .str x => .str x
  | _, _, .raw a => .raw a
  | _, _, .ty n => .ty n
  | _, _, .tup h r => .tup (e _ _ h) (Reps.mono e r)
  | _, _, .lst h r => .lst (e _ _ h) (Reps.mono e r)
  | _, _, .dk h => .dk (e _ _ h)
  | _, _, .dt h => .dt (e _ _ h)
theorem Reps.mono {S S' : Hp} (e : Ex S S') : ∀ {vs : List V} {ds : List D}, Reps S vs ds → Reps S' vs ds
  | _, _, .nil => .nil
  | _, _, .cons h r => .cons (Rep.mono e h) (Reps.mono e r)
end
theorem Reps.length {S : Hp} : ∀ {vs : List V} {ds : List D}, Reps S vs ds → vs.length = ds.length
  | _, _, .nil => rfl
  | _, _, .cons _ r => by rw [List.length_cons, List.length_cons, Reps.length r]
theorem Reps.get {S : Hp} : ∀ {vs : List V} {ds : List D} {i : Nat} {d : D}, Reps S vs ds → ds[i]? = some d → ∃ v, vs[i]? = some v ∧ Rep S v d
  | _, _, _, _, .nil, e => by simp at e
  | _, _, 0, _, .cons h _, e => by simp at e; subst e; exact ⟨_, rfl, h⟩
  | _, _, i + 1, d, .cons _ r, e => by
    obtain ⟨v, h1, h2⟩ := Reps.get (i := i) (d := d) r (by simpa using e)
    exact ⟨v, by simpa using h1, h2⟩
theorem Reps.getV {S : Hp} : ∀ {vs : List V} {ds : List D} {i : Nat} {v : V}, Reps S vs ds → vs[i]? = some v → ∃ d, ds[i]? = some d ∧ Rep S v d
  | _, _, _, _, .nil, e => by simp at e
  | _, _, 0, _, .cons h _, e => by simp at e; subst e; exact ⟨_, rfl, h⟩
  | _, _, i + 1, v, .cons _ r, e => by
    obtain ⟨d, h1, h2⟩ := Reps.getV (i := i) (v := v) r (by simpa using e)
    exact ⟨d, by simpa using h1, h2⟩
theorem Reps.append {S : Hp} : ∀ {vs ws : List V} {ds es : List D}, Reps S vs ds → Reps S ws es → Reps S (vs ++ ws) (ds ++ es)
  | _, _, _, _, .nil, s => s
  | _, _, _, _, .cons h r, s => .cons h (Reps.append r s)
theorem Reps.take {S : Hp} : ∀ {vs : List V} {ds : List D} (n : Nat), Reps S vs ds → Reps S (vs.take n) (ds.take n)
  | _, _, 0, _ => .nil
  | _, _, _ + 1, .nil => .nil
  | _, _, n + 1, .cons h r => .cons h (Reps.take n r)
theorem Reps.drop {S : Hp} : ∀ {vs : List V} {ds : List D} (n : Nat), Reps S vs ds → Reps S (vs.drop n) (ds.drop n)
  | _, _, 0, r => r
  | _, _, _ + 1, .nil => .nil
  | _, _, n + 1, .cons _ r => Reps.drop n r
theorem Reps.set {S : Hp} {v : V} {d : D} (h : Rep S v d) : ∀ {vs : List V} {ds : List D} (i : Nat), Reps S vs ds → Reps S (vs.set i v) (ds.set i d)
  | _, _, _, .nil => .nil
  | _, _, 0, .cons _ r => .cons h r
  | _, _, i + 1, .cons q r => .cons q (Reps.set h i r)
theorem Reps.ints {S : Hp} : ∀ ns : List Int, Reps S (ns.map V.int) (ns.map D.int)
  | [] => .nil
  | n :: ns => .cons (.int n) (Reps.ints ns)
theorem Reps.of_ints {S : Hp} : ∀ {ns : List Int} {vs : List V}, Reps S vs (ns.map D.int) → vs = ns.map V.int
  | [], _, .nil => rfl
  | n :: ns, _, .cons (.int _) r => by rw [Reps.of_ints r]; rfl
theorem Reps.of_bls {S : Hp} : ∀ {ns : List Bool} {vs : List V}, Reps S vs (ns.map D.bl) → vs = ns.map V.bl
  | [], _, .nil => rfl
  | n :: ns, _, .cons (.bl _) r => by rw [Reps.of_bls r]; rfl
theorem Reps.dropLast {S : Hp} {vs : List V} {ds : List D} (r : Reps S vs ds) : Reps S vs.dropLast ds.dropLast := by
  rw [List.dropLast_eq_take, List.dropLast_eq_take, r.length]
  exact r.take _

/-! ### the world: what a draw may change (one list), and what is said of it -/
structure Wc where
  at_ : Addr → Prop
  ok : Hp → Prop
  dom : ∀ H a, ok H → at_ a → ∃ o, H a = some o
  loc : ∀ H H', (∀ a, at_ a → H' a = H a) → ok H → ok H'
  nt : ∀ H a xs, ok H → at_ a → H a ≠ some (.tup xs)
def Wc.none : Wc := ⟨fun _ => False, fun _ => True, fun _ _ _ z => z.elim, fun _ _ _ _ => True.intro, fun _ _ _ _ z => z.elim⟩

/-- a thing at a that may change, or the world's -/
def Old (W : Wc) (H : Hp) (a : Addr) : Prop := ∃ o, H a = some o ∧ (W.at_ a ∨ ∀ xs, o ≠ .tup xs)
/-- from (S, H) to (S', H'): S is what stands still; S' knows it and new things -/
structure Gr (W : Wc) (S H S' H' : Hp) : Prop where
  ex : ∀ a o, ¬ W.at_ a → H a = some o → H' a = some o
  ok : W.ok H'
  sub : Ex S' H'
  st : ∀ a, Old W H a → S' a = S a
  ss : Ex S S'
theorem Gr.dom {W : Wc} {S H S' H' : Hp} (g : Gr W S H S' H') {a : Addr} {o : HO} (h : H a = some o) : ∃ o', H' a = some o' := by
  by_cases w : W.at_ a
  · exact W.dom _ _ g.ok w
  · exact ⟨o, g.ex a o w h⟩
theorem Gr.old {W : Wc} {S H S' H' : Hp} (g : Gr W S H S' H') {a : Addr} (h : Old W H a) : Old W H' a := by
  obtain ⟨o, h, c⟩ := h
  by_cases w : W.at_ a
  · obtain ⟨o', h'⟩ := W.dom _ _ g.ok w
    exact ⟨o', h', .inl w⟩
  · exact ⟨o, g.ex a o w h, c⟩
theorem Gr.trans {W : Wc} {S H S1 H1 S2 H2 : Hp} (g : Gr W S H S1 H1) (g' : Gr W S1 H1 S2 H2) : Gr W S H S2 H2 :=
  ⟨fun a o w h => g'.ex a o w (g.ex a o w h), g'.ok, g'.sub, fun a h => by
    rw [g'.st a (g.old h), g.st a h], g.ss.trans g'.ss⟩
theorem Gr.refl {W : Wc} {S H : Hp} (ok : W.ok H) (sub : Ex S H) : Gr W S H S H := ⟨fun _ _ _ h => h, ok, sub, fun _ _ => rfl, fun _ _ h => h⟩
theorem Gr.exS {W : Wc} {S H S' H' : Hp} (g : Gr W S H S' H') (sub : Ex S H) : Ex S S' := g.ss
/-- nothing changed but new things -/
theorem Gr.new {W : Wc} {S H : Hp} {p : Addr} {o : HO} (ok : W.ok H) (sub : Ex S H) (n : H p = Option.none) : Gr W S H (upd S p o) (upd H p o) := by
  refine ⟨fun a u w h => ?_, W.loc H _ (fun a w => ?_) ok, fun a u h => ?_, fun a h => ?_, fun a u h => ?_⟩
  · rw [upd_ne (ne_of_none h n)]; exact h
  · obtain ⟨u, hu⟩ := W.dom H a ok w
    rw [upd_ne (ne_of_none hu n)]
  · by_cases e : a = p
    · subst e; rw [upd_same] at h; rw [upd_same]; exact h
    · rw [upd_ne e] at h; rw [upd_ne e]; exact sub a u h
  · obtain ⟨u, h, _⟩ := h
    rw [upd_ne (ne_of_none h n)]
  · rw [upd_ne (ne_of_none (sub a u h) n)]; exact h
/-- a new thing that S doesn't know -/
theorem Gr.newM {W : Wc} {S H : Hp} {p : Addr} {o : HO} (ok : W.ok H) (sub : Ex S H) (n : H p = Option.none) : Gr W S H S (upd H p o) := by
  refine ⟨fun a u w h => ?_, W.loc H _ (fun a w => ?_) ok, fun a u h => ?_, fun a h => rfl, fun _ _ h => h⟩
  · rw [upd_ne (ne_of_none h n)]; exact h
  · obtain ⟨u, hu⟩ := W.dom H a ok w
    rw [upd_ne (ne_of_none hu n)]
  · have h' := sub a u h
    rw [upd_ne (ne_of_none h' n)]; exact h'
/-- a thing laid within, now known -/
theorem Gr.know {W : Wc} {S H S' H' : Hp} {p : Addr} {o : HO} (g : Gr W S H S' H') (n : H p = Option.none) (h' : H' p = some o) : Gr W S H (upd S' p o) H' := by
  refine ⟨g.ex, g.ok, fun a u h => ?_, fun a h => ?_, fun a u h => ?_⟩
  · by_cases e : a = p
    · subst e; rw [upd_same] at h; rw [h']; exact h
    · rw [upd_ne e] at h; exact g.sub a u h
  · obtain ⟨u, hu, _⟩ := id h
    rw [upd_ne (ne_of_none hu n)]; exact g.st a h
  · by_cases e : a = p
    · subst e
      rw [upd_same]
      have := g.sub _ _ (g.ss _ _ h)
      rw [h'] at this
      exact this
    · rw [upd_ne e]; exact g.ss a u h
theorem ex_upd {S : Hp} {p : Addr} {o : HO} (n : S p = Option.none) : Ex S (upd S p o) := fun a u h => by
  rw [upd_ne (ne_of_none h n)]; exact h

/-- every tuple is known -/
def tupsOf (S H : Hp) : Hp := fun a => match S a, H a with
  | some o, _ => some o
  | Option.none, some (.tup xs) => some (.tup xs)
  | Option.none, _ => Option.none
theorem Gr.tups {W : Wc} {S H : Hp} (ok : W.ok H) (sub : Ex S H) : Gr W S H (tupsOf S H) H := by
  refine ⟨fun _ _ _ h => h, ok, fun a o h => ?_, fun a h => ?_, fun a o h => by simp only [tupsOf, h]⟩
  · unfold tupsOf at h
    cases e : S a with
    | some u =>
      rw [e] at h
      cases h
      exact sub _ _ e
    | none =>
      rw [e] at h
      cases e2 : H a with
      | none => rw [e2] at h; cases h
      | some u =>
        rw [e2] at h
        cases u <;> first | exact h | cases h
  · obtain ⟨o, ho, c⟩ := h
    unfold tupsOf
    cases e : S a with
    | some u => rfl
    | none =>
      rw [ho]
      cases o with
      | tup xs =>
        rcases c with c | c
        · exact absurd ho (W.nt _ _ _ ok c)
        · exact absurd rfl (c xs)
      | _ => rfl
theorem tupsOf_tup {S H : Hp} (sub : Ex S H) {a : Addr} {xs : List V} (h : H a = some (.tup xs)) : tupsOf S H a = some (.tup xs) := by
  unfold tupsOf
  cases e : S a with
  | some u =>
    have := sub _ _ e
    rw [h] at this
    cases this
    rfl
  | none => rw [h]

/-! ### a def's slots -/
inductive Sl where
  | no | im (d : D) | ml (ds : List D) | mk (ks : List Int) | mt (ks : List (List Int))
/-- what stands at l for a slot that changes -/
def Own (S : Hp) (H : Hp) (l : Addr) : Sl → Prop
  | .ml ds => ∃ xs, H l = some (.lst xs) ∧ Reps S xs ds
  | .mk ks => H l = some (.dK (dkv ks))
  | .mt ks => H l = some (.dT (dtv ks))
  | _ => False
def SlOk (W : Wc) (B S H : Hp) (v : Option (Option V)) : Sl → Prop
  | .no => True
  | .im d => ∃ x, v = some (some x) ∧ Rep S x d
  | s => ∃ l, v = some (some (.ref l)) ∧ B l = Option.none ∧ ¬ W.at_ l ∧ S l = Option.none ∧ Own S H l s
def Sl.mut : Sl → Bool
  | .no => false
  | .im _ => false
  | _ => true
/-- B, S0: the heap and what stands still at the entry -/
structure SR (W : Wc) (B S0 : Hp) (ρ : List Sl) (σ : L2.St) (S H : Hp) : Prop where
  ok : W.ok H
  base : ∀ a o, ¬ W.at_ a → B a = some o → H a = some o
  dom : ∀ a o, B a = some o → ∃ o', H a = some o'
  st : ∀ a, Old W B a → S a = S0 a
  ss : Ex S0 S
  sub : Ex S H
  wat : ∀ a, W.at_ a → S a = Option.none
  sl : ∀ (i : Nat) (s : Sl), ρ[i]? = some s → SlOk W B S H σ[i]? s
  ne : ∀ (i j : Nat) (si sj : Sl) (l : Addr), ρ[i]? = some si → ρ[j]? = some sj → si.mut = true → sj.mut = true → i ≠ j → σ[i]? = some (some (.ref l)) → σ[j]? ≠ some (some (.ref l))
  len : σ.length = ρ.length

section
variable {W : Wc} {B S0 S S' H H' : Hp} {ρ : List Sl} {σ : L2.St}
theorem Own.gr {l : Addr} {s : Sl} (sub : Ex S H) (g : Gr W S H S' H') (w : ¬ W.at_ l) (o : Own S H l s) : Own S' H' l s := by
  cases s with
  | no => exact o
  | im d => exact o
  | ml ds =>
    obtain ⟨xs, h, r⟩ := o
    exact ⟨xs, g.ex _ _ w h, r.mono (g.exS sub)⟩
  | mk ks => exact g.ex _ _ w o
  | mt ks => exact g.ex _ _ w o
theorem Own.some {l : Addr} {s : Sl} (o : Own S H l s) : ∃ u, H l = some u := by
  cases s with
  | no => exact o.elim
  | im d => exact o.elim
  | ml ds => obtain ⟨xs, h, _⟩ := o; exact ⟨_, h⟩
  | mk ks => exact ⟨_, o⟩
  | mt ks => exact ⟨_, o⟩
theorem Own.old {l : Addr} {s : Sl} (o : Own S H l s) : Old W H l := by
  cases s with
  | no => exact o.elim
  | im d => exact o.elim
  | ml ds => obtain ⟨xs, h, _⟩ := o; exact ⟨_, h, .inr fun _ z => nomatch z⟩
  | mk ks => exact ⟨_, o, .inr fun _ z => nomatch z⟩
  | mt ks => exact ⟨_, o, .inr fun _ z => nomatch z⟩
theorem slOk_mut {v : Option (Option V)} {s : Sl} (m : s.mut = true) (h : SlOk W B S H v s) : ∃ l, v = some (some (.ref l)) ∧ B l = Option.none ∧ ¬ W.at_ l ∧ S l = Option.none ∧ Own S H l s := by
  cases s with
  | no => cases m
  | im d => cases m
  | ml ds => exact h
  | mk ks => exact h
  | mt ks => exact h
theorem slOk_of {v : Option (Option V)} {s : Sl} (m : s.mut = true) (h : ∃ l, v = some (some (.ref l)) ∧ B l = Option.none ∧ ¬ W.at_ l ∧ S l = Option.none ∧ Own S H l s) : SlOk W B S H v s := by
  cases s with
  | no => cases m
  | im d => cases m
  | ml ds => exact h
  | mk ks => exact h
  | mt ks => exact h
theorem SlOk.gr {v : Option (Option V)} {s : Sl} (sub : Ex S H) (g : Gr W S H S' H') (h : SlOk W B S H v s) : SlOk W B S' H' v s := by
  by_cases m : s.mut = true
  · obtain ⟨l, e, b, w, sl, o⟩ := slOk_mut m h
    exact slOk_of m ⟨l, e, b, w, (g.st l o.old).trans sl, o.gr sub g w⟩
  · cases s with
    | no => exact True.intro
    | im d =>
      obtain ⟨x, e, r⟩ := h
      exact ⟨x, e, r.mono (g.exS sub)⟩
    | ml ds => exact absurd rfl m
    | mk ks => exact absurd rfl m
    | mt ks => exact absurd rfl m
theorem SR.old (s : SR W B S0 ρ σ S H) {a : Addr} (h : Old W B a) : Old W H a := by
  obtain ⟨o, h, c⟩ := h
  by_cases w : W.at_ a
  · obtain ⟨o', h'⟩ := s.dom a o h
    exact ⟨o', h', .inl w⟩
  · exact ⟨o, s.base a o w h, c⟩
theorem SR.gr (s : SR W B S0 ρ σ S H) (g : Gr W S H S' H') : SR W B S0 ρ σ S' H' where
  ok := g.ok
  base := fun a o w h => g.ex a o w (s.base a o w h)
  dom := fun a o h => by
    obtain ⟨o', h'⟩ := s.dom a o h
    exact g.dom h'
  st := fun a h => by
    rw [g.st a (s.old h)]
    exact s.st a h
  ss := s.ss.trans g.ss
  sub := g.sub
  wat := fun a w => by
    obtain ⟨o, h⟩ := W.dom H a s.ok w
    rw [g.st a ⟨o, h, .inl w⟩]
    exact s.wat a w
  sl := fun i x e => (s.sl i x e).gr s.sub g
  ne := s.ne
  len := s.len
theorem SR.refl (s : SR W B S0 ρ σ S H) : Gr W S H S H := Gr.refl s.ok s.sub
/-- a slot is stored -/
theorem SR.set {i : Nat} {v : V} {x : Sl} (s : SR W B S0 ρ σ S H) (h : SlOk W B S H (some (some v)) x)
    (n : x.mut = true → ∀ (j : Nat) (sj : Sl) (l : Addr), j ≠ i → ρ[j]? = some sj → sj.mut = true → v = .ref l → σ[j]? ≠ some (some (.ref l))) : SR W B S0 (ρ.set i x) (σ.set i (some v)) S H where
  ok := s.ok
  base := s.base
  dom := s.dom
  st := s.st
  ss := s.ss
  sub := s.sub
  wat := s.wat
  len := by rw [List.length_set, List.length_set, s.len]
  sl := fun j y e => by
    by_cases hj : i = j
    · subst hj
      have hi : i < ρ.length := by
        have := (List.getElem?_eq_some_iff.mp e).1
        rwa [List.length_set] at this
      rw [List.getElem?_set_self hi] at e
      cases e
      rw [List.getElem?_set_self (by rw [s.len]; exact hi)]
      exact h
    · rw [List.getElem?_set_ne hj] at e
      rw [List.getElem?_set_ne hj]
      exact s.sl j y e
  ne := fun j k sj sk l ej ek mj mk hjk e => by
    by_cases hj : i = j
    · subst hj
      have hi : i < ρ.length := by
        have := (List.getElem?_eq_some_iff.mp ej).1
        rwa [List.length_set] at this
      rw [List.getElem?_set_self hi] at ej
      cases ej
      rw [List.getElem?_set_self (by rw [s.len]; exact hi)] at e
      cases e
      rw [List.getElem?_set_ne hjk] at ek
      rw [List.getElem?_set_ne hjk]
      exact n mj k sk l (Ne.symm hjk) ek mk rfl
    · rw [List.getElem?_set_ne hj] at ej e
      by_cases hk : i = k
      · subst hk
        have hi : i < ρ.length := by
          have := (List.getElem?_eq_some_iff.mp ek).1
          rwa [List.length_set] at this
        rw [List.getElem?_set_self hi] at ek
        cases ek
        rw [List.getElem?_set_self (by rw [s.len]; exact hi)]
        intro z
        have z' : v = .ref l := by injection z with z; injection z
        exact n mk j sj l hjk ej mj z' e
      · rw [List.getElem?_set_ne hk] at ek
        rw [List.getElem?_set_ne hk]
        exact s.ne j k sj sk l ej ek mj mk hjk e
theorem SR.setIm {i : Nat} {v : V} {d : D} (s : SR W B S0 ρ σ S H) (h : Rep S v d) : SR W B S0 (ρ.set i (.im d)) (σ.set i (some v)) S H :=
  s.set ⟨v, rfl, h⟩ fun m => by cases m
theorem SR.setNo {i : Nat} {o : Option V} (s : SR W B S0 ρ σ S H) : SR W B S0 (ρ.set i .no) (σ.set i o) S H where
  ok := s.ok
  base := s.base
  dom := s.dom
  st := s.st
  ss := s.ss
  sub := s.sub
  wat := s.wat
  len := by rw [List.length_set, List.length_set, s.len]
  sl := fun j y e => by
    by_cases hj : i = j
    · subst hj
      have hi : i < ρ.length := by
        have := (List.getElem?_eq_some_iff.mp e).1
        rwa [List.length_set] at this
      rw [List.getElem?_set_self hi] at e
      cases e
      exact True.intro
    · rw [List.getElem?_set_ne hj] at e
      rw [List.getElem?_set_ne hj]
      exact s.sl j y e
  ne := fun j k sj sk l ej ek mj mk hjk e => by
    have nj : i ≠ j := fun z => by
      subst z
      have hi : i < ρ.length := by
        have := (List.getElem?_eq_some_iff.mp ej).1
        rwa [List.length_set] at this
      rw [List.getElem?_set_self hi] at ej
      cases ej
      cases mj
    have nk : i ≠ k := fun z => by
      subst z
      have hi : i < ρ.length := by
        have := (List.getElem?_eq_some_iff.mp ek).1
        rwa [List.length_set] at this
      rw [List.getElem?_set_self hi] at ek
      cases ek
      cases mk
    rw [List.getElem?_set_ne nj] at ej e
    rw [List.getElem?_set_ne nk] at ek
    rw [List.getElem?_set_ne nk]
    exact s.ne j k sj sk l ej ek mj mk hjk e
def wipeD (ρ : List Sl) : List Nat → List Sl
  | [] => ρ
  | v :: vs => (wipeD ρ vs).set v .no
theorem SR.wipe (s : SR W B S0 ρ σ S H) : ∀ vs : List Nat, SR W B S0 (wipeD ρ vs) (L2.wipe σ vs) S H
  | [] => s
  | v :: vs => (SR.wipe s vs).setNo
/-- a list, a dict of the def's own is changed -/
theorem SR.upd {i : Nat} {x x' : Sl} {l : Addr} {o : HO} (s : SR W B S0 ρ σ S H) (hx : ρ[i]? = some x) (m : x.mut = true) (hσ : σ[i]? = some (some (.ref l))) (m' : x'.mut = true) (ow : Own S (upd H l o) l x') : SR W B S0 (ρ.set i x') σ S (L2.upd H l o) := by
  obtain ⟨l', e, b, w, sl, own⟩ := slOk_mut m (s.sl i x hx)
  rw [hσ] at e
  cases e
  have hi : i < ρ.length := (List.getElem?_eq_some_iff.mp hx).1
  have hB : ∀ a u, B a = some u → a ≠ l := fun a u h z => by rw [z, b] at h; cases h
  refine ⟨W.loc H _ (fun a ha => upd_ne fun z => w (z ▸ ha)) s.ok, fun a u ha h => ?_, fun a u h => ?_, s.st, s.ss, fun a u h => ?_, s.wat, fun j y ej => ?_, fun j k sj sk l' ej ek mj mk hjk e => ?_, by rw [List.length_set]; exact s.len⟩
  · rw [upd_ne (hB a u h)]; exact s.base a u ha h
  · rw [upd_ne (hB a u h)]; exact s.dom a u h
  · rw [upd_ne fun z => by rw [z, sl] at h; cases h]; exact s.sub a u h
  · by_cases hj : i = j
    · subst hj
      rw [List.getElem?_set_self hi] at ej
      cases ej
      exact slOk_of m' ⟨l, hσ, b, w, sl, ow⟩
    · rw [List.getElem?_set_ne hj] at ej
      have q := s.sl j y ej
      by_cases my : y.mut = true
      · obtain ⟨l2, e2, b2, w2, sl2, o2⟩ := slOk_mut my q
        have hne : l2 ≠ l := fun z => by
          subst z
          exact s.ne i j x y l2 hx ej m my hj hσ e2
        refine slOk_of my ⟨l2, e2, b2, w2, sl2, ?_⟩
        cases y with
        | no => cases my
        | im d => cases my
        | ml ds =>
          obtain ⟨xs, h, r⟩ := o2
          exact ⟨xs, by rw [upd_ne hne]; exact h, r⟩
        | mk ks =>
          show L2.upd H l o l2 = _
          rw [upd_ne hne]; exact o2
        | mt ks =>
          show L2.upd H l o l2 = _
          rw [upd_ne hne]; exact o2
      · cases y with
        | no => exact True.intro
        | im d => exact q
        | ml ds => exact absurd rfl my
        | mk ks => exact absurd rfl my
        | mt ks => exact absurd rfl my
  · have mm : ∀ (j : Nat) (sj : Sl), (ρ.set i x')[j]? = some sj → sj.mut = true → ∃ sj', ρ[j]? = some sj' ∧ sj'.mut = true := fun j sj ej mj => by
      by_cases hj : i = j
      · subst hj; exact ⟨x, hx, m⟩
      · rw [List.getElem?_set_ne hj] at ej; exact ⟨sj, ej, mj⟩
    obtain ⟨a, ea, ma⟩ := mm j sj ej mj
    obtain ⟨c, ec, mc⟩ := mm k sk ek mk
    exact s.ne j k a c l' ea ec ma mc hjk e
/-- what the slot holds, as data -/
def Sl.dat : Sl → Option D
  | .no => Option.none
  | .im d => some d
  | .ml ds => some (.lst ds)
  | .mk ks => some (.dk ks)
  | .mt ks => some (.dt ks)
theorem ex_in {S S1 : Hp} (e : Ex S S1) {a : Addr} {u : HO} (h : S a = some u) : S1 a = some u := e a u h
/-- a slot's thing stands still from here on -/
theorem SR.freeze {i : Nat} {x : Sl} {d : D} (s : SR W B S0 ρ σ S H) (hx : ρ[i]? = some x) (hd : x.dat = some d) : ∃ S1, Ex S S1 ∧ SR W B S0 (ρ.set i (.im d)) σ S1 H := by
  have hi : i < ρ.length := (List.getElem?_eq_some_iff.mp hx).1
  by_cases m : x.mut = true
  · obtain ⟨l, e, b, w, sl, own⟩ := slOk_mut m (s.sl i x hx)
    obtain ⟨u, hu⟩ := own.some
    have hS : Ex S (L2.upd S l u) := ex_upd sl
    have rep : Rep (L2.upd S l u) (.ref l) d := by
      cases x with
      | no => cases m
      | im d => cases m
      | ml ds =>
        obtain ⟨xs, h, r⟩ := own
        cases hd
        rw [hu] at h; cases h
        exact .lst upd_same (r.mono hS)
      | mk ks =>
        cases hd
        have h : H l = _ := own
        rw [hu] at h; cases h
        exact .dk upd_same
      | mt ks =>
        cases hd
        have h : H l = _ := own
        rw [hu] at h; cases h
        exact .dt upd_same
    have hB : ∀ a u, B a = some u → a ≠ l := fun a u h z => by rw [z, b] at h; cases h
    refine ⟨_, hS, s.ok, s.base, s.dom, fun a h => ?_, s.ss.trans hS, fun a o h => ?_, fun a ha => ?_, fun j y ej => ?_, fun j k sj sk l' ej ek mj mk hjk e' => ?_, by rw [List.length_set]; exact s.len⟩
    · obtain ⟨o, ho, _⟩ := id h
      rw [upd_ne (hB a o ho)]; exact s.st a h
    · by_cases z : a = l
      · rw [z, upd_same] at h; rw [z, hu]; exact h
      · rw [upd_ne z] at h; exact s.sub a o h
    · rw [upd_ne (fun z : a = l => w (z ▸ ha))]; exact s.wat a ha
    · by_cases hj : i = j
      · subst hj
        rw [List.getElem?_set_self hi] at ej
        cases ej
        exact ⟨_, e, rep⟩
      · rw [List.getElem?_set_ne hj] at ej
        have q := s.sl j y ej
        by_cases my : y.mut = true
        · obtain ⟨l2, e2, b2, w2, sl2, o2⟩ := slOk_mut my q
          have hne : l2 ≠ l := fun z => by
            subst z
            exact s.ne i j x y l2 hx ej m my hj e e2
          refine slOk_of my ⟨l2, e2, b2, w2, by rw [upd_ne hne]; exact sl2, ?_⟩
          cases y with
          | no => cases my
          | im d => cases my
          | ml ds =>
            obtain ⟨xs, h, r⟩ := o2
            exact ⟨xs, h, r.mono hS⟩
          | mk ks => exact o2
          | mt ks => exact o2
        · cases y with
          | no => exact True.intro
          | im d =>
            obtain ⟨v, ev, r⟩ := q
            exact ⟨v, ev, r.mono hS⟩
          | ml ds => exact absurd rfl my
          | mk ks => exact absurd rfl my
          | mt ks => exact absurd rfl my
    · have nj : i ≠ j := fun z => by
        subst z
        rw [List.getElem?_set_self hi] at ej
        cases ej
        cases mj
      have nk : i ≠ k := fun z => by
        subst z
        rw [List.getElem?_set_self hi] at ek
        cases ek
        cases mk
      rw [List.getElem?_set_ne nj] at ej
      rw [List.getElem?_set_ne nk] at ek
      exact s.ne j k sj sk l' ej ek mj mk hjk e'
  · cases x with
    | no => cases hd
    | im d' =>
      cases hd
      have er : ρ.set i (.im d) = ρ := by
        apply List.ext_getElem?
        intro j
        by_cases hj : i = j
        · subst hj; rw [List.getElem?_set_self hi, hx]
        · rw [List.getElem?_set_ne hj]
      rw [er]
      exact ⟨S, Ex.refl S, s⟩
    | ml ds => exact absurd rfl m
    | mk ks => exact absurd rfl m
    | mt ks => exact absurd rfl m
end
end NR
/-! The judgements: a reading t of the hand layer goes over to a reading F of data. -/
namespace NR
open PySem PySem.Spec PyProof.Rows L2

abbrev DE := List Sl → (D → Prop) → Prop
abbrev DT := List Sl → (Bool → Prop) → Prop
abbrev DA := List Sl → (List D → Prop) → Prop
abbrev DX := List Sl → (Sl → Prop) → Prop
abbrev DG := D → List Sl → (List Sl → Prop) → Prop
structure DEnds where
  nx : List Sl → Prop
  rt : D → Prop
  bk : List Sl → Prop := fun _ => False
  ct : List Sl → Prop := fun _ => False
abbrev DS := DEnds → List Sl → Prop

def SimE (W : Wc) (t : TE) (F : DE) : Prop := ∀ {B S0 : Hp} {ρ : List Sl} {σ : L2.St} {S H : Hp}, SR W B S0 ρ σ S H → ∀ {Qd : D → Prop}, F ρ Qd → ∀ {Q : VK},
  (∀ v d S' H', Gr W S H S' H' → Rep S' v d → Qd d → Q v H') → t σ H Q
def SimT (W : Wc) (t : TT) (F : DT) : Prop := ∀ {B S0 : Hp} {ρ : List Sl} {σ : L2.St} {S H : Hp}, SR W B S0 ρ σ S H → ∀ {Qd : Bool → Prop}, F ρ Qd → ∀ {Q : Bool → Hp → Prop},
  (∀ b S' H', Gr W S H S' H' → Qd b → Q b H') → t σ H Q
def SimA (W : Wc) (t : TA) (F : DA) : Prop := ∀ {B S0 : Hp} {ρ : List Sl} {σ : L2.St} {S H : Hp}, SR W B S0 ρ σ S H → ∀ {Qd : List D → Prop}, F ρ Qd → ∀ {Q : List V → Hp → Prop},
  (∀ vs ds S' H', Gr W S H S' H' → Reps S' vs ds → Qd ds → Q vs H') → t σ H Q
/-- a new list, a new thing for a slot -/
def SimL (W : Wc) (t : TE) (F : DA) : Prop := ∀ {B S0 : Hp} {ρ : List Sl} {σ : L2.St} {S H : Hp}, SR W B S0 ρ σ S H → ∀ {Qd : List D → Prop}, F ρ Qd → ∀ {Q : VK},
  (∀ l xs ds S' H', Gr W S H S' H' → H l = none → S' l = none → H' l = some (.lst xs) → Reps S' xs ds → Qd ds → Q (.ref l) H') → t σ H Q
def NewSl (S' H H' : Hp) (v : V) : Sl → Prop
  | .no => True
  | .im d => Rep S' v d
  | s => ∃ l, v = .ref l ∧ H l = none ∧ S' l = none ∧ Own S' H' l s
def SimX (W : Wc) (t : TE) (F : DX) : Prop := ∀ {B S0 : Hp} {ρ : List Sl} {σ : L2.St} {S H : Hp}, SR W B S0 ρ σ S H → ∀ {Qd : Sl → Prop}, F ρ Qd → ∀ {Q : VK},
  (∀ v s S' H', Gr W S H S' H' → NewSl S' H H' v s → Qd s → Q v H') → t σ H Q
def SimI (W : Wc) (t : TI) (F : DA) : Prop := ∀ {B S0 : Hp} {ρ : List Sl} {σ : L2.St} {S H : Hp}, SR W B S0 ρ σ S H → ∀ {Qd : List D → Prop}, F ρ Qd → ∀ {R : It → Hp → Prop},
  (∀ J ds S' H', Gr W S H S' H' → (∀ i S1 H1, W.ok H1 → Ex S1 H1 → Ex S' S1 → (i < ds.length → J.go i H1) ∧ (ds.length ≤ i → J.stop i H1) ∧ ∀ x H2, i < ds.length → J.yld i H1 x H2 → ∃ d S2, ds[i]? = some d ∧ Gr W S1 H1 S2 H2 ∧ Rep S2 x d) → Qd ds → R J H') → t σ H R
def SimG (W : Wc) (g : TG) (G : DG) : Prop := ∀ {B S0 : Hp} {ρ : List Sl} {σ : L2.St} {S H : Hp}, SR W B S0 ρ σ S H → ∀ {v : V} {d : D}, Rep S v d → ∀ {Qd : List Sl → Prop}, G d ρ Qd → ∀ {Q : L2.St → Hp → Prop},
  (∀ ρ' σ', SR W B S0 ρ' σ' S H → Qd ρ' → Q σ' H) → g v σ H Q
structure Lk (W : Wc) (B S0 S : Hp) (E : DEnds) (D' : Ends) : Prop where
  nx : ∀ ρ' σ' S' H', SR W B S0 ρ' σ' S' H' → Ex S S' → E.nx ρ' → D'.nx σ' H'
  bk : ∀ ρ' σ' S' H', SR W B S0 ρ' σ' S' H' → Ex S S' → E.bk ρ' → D'.bk σ' H'
  ct : ∀ ρ' σ' S' H', SR W B S0 ρ' σ' S' H' → Ex S S' → E.ct ρ' → D'.ct σ' H'
  rt : ∀ v d ρ' σ' S' H', SR W B S0 ρ' σ' S' H' → Rep S' v d → E.rt d → D'.rt v H'
theorem Lk.mono {W : Wc} {B S0 S S1 : Hp} {E : DEnds} {D' : Ends} (e : Ex S S1) (l : Lk W B S0 S E D') : Lk W B S0 S1 E D' :=
  ⟨fun r s a b q e2 => l.nx r s a b q (e.trans e2), fun r s a b q e2 => l.bk r s a b q (e.trans e2), fun r s a b q e2 => l.ct r s a b q (e.trans e2), l.rt⟩
def SimS (W : Wc) (t : TS) (T : DS) : Prop := ∀ {B S0 : Hp} {ρ : List Sl} {σ : L2.St} {S H : Hp}, SR W B S0 ρ σ S H → ∀ {E : DEnds} {D' : Ends}, T E ρ → Lk W B S0 S E D' → t D' σ H

structure RE (X : Cx) (W : Wc) (e : Expr) (t : TE) (F : DE) : Prop where
  pe : PE X e t
  sim : SimE W t F
structure RT (X : Cx) (W : Wc) (e : Expr) (t : TT) (F : DT) : Prop where
  pe : PT X e t
  sim : SimT W t F
structure RW' (X : Cx) (W : Wc) (e : Expr) (t : TT) (F : DT) : Prop where
  pe : PW X e t
  sim : SimT W t F
structure RTs (X : Cx) (W : Wc) (e : List Expr) (t : TT) (F : DT) : Prop where
  pe : PTs X e t
  sim : SimT W t F
structure RA (X : Cx) (W : Wc) (e : List Expr) (t : TA) (F : DA) : Prop where
  pe : PA X e t
  sim : SimA W t F
structure RL (X : Cx) (W : Wc) (e : Expr) (t : TE) (F : DA) : Prop where
  pe : PE X e t
  sim : SimL W t F
structure RX (X : Cx) (W : Wc) (e : Expr) (t : TE) (F : DX) : Prop where
  pe : PE X e t
  sim : SimX W t F
structure RI (X : Cx) (W : Wc) (tg e : Expr) (t : TI) (F : DA) : Prop where
  pe : PI X tg e t
  sim : SimI W t F
structure RG (X : Cx) (W : Wc) (e : Expr) (t : TG) (F : DG) : Prop where
  pe : PG X e t
  sim : SimG W t F
structure RS (X : Cx) (W : Wc) (st : Stmt) (t : TS) (T : DS) : Prop where
  pe : PS X st t
  sim : SimS W t T
structure RSs (X : Cx) (W : Wc) (st : List Stmt) (t : TS) (T : DS) : Prop where
  pe : PSs X st t
  sim : SimS W t T

section
variable {X : Cx} {W : Wc} {e ea eb ec : Expr} {pos : Pos} {ta tb tc te : TE} {F G : DE}
/-! ### names, constants -/
def dVar (i : Nat) : DE := fun ρ Q => ∃ d, ρ[i]? = some (.im d) ∧ Q d
def dC (d : D) : DE := fun _ Q => Q d
theorem sim_var {i : Nat} : SimE W (tVar i) (dVar i) := fun s Qd h Q k => by
  obtain ⟨d, e, q⟩ := h
  obtain ⟨v, ev, r⟩ := s.sl i _ e
  exact ⟨v, ev, k v d _ _ s.refl r q⟩
theorem sim_c {v : V} {d : D} (h : ∀ S, Rep S v d) : SimE W (tC v) (dC d) := fun s Qd q Q k => k v d _ _ s.refl (h _) q
theorem rv (i : Nat) {x : Str} (hN : X.N[i]? = some x := by rfl) (hv : Vis X.env.scope x := by first | exact Or.inl rfl | exact Or.inr (Or.inl rfl) | exact Or.inr (Or.inr rfl)) (hd : (x == ("__debug__" : Str)) = false := by decide)
    (hcd : (x == ("__classdict__" : Str)) = false := by decide) : RE X W (.Name x pos) (tVar i) (dVar i) := ⟨pe_var hN hv hd hcd, sim_var⟩
theorem re_int {i : Int} {j : Nat} : RE X W (.Constant (.int i) j pos) (tC (.int i)) (dC (.int i)) := ⟨pe_int, sim_c fun _ => .int i⟩
theorem re_bl {b : Bool} {j : Nat} : RE X W (.Constant (.bool b) j pos) (tC (.bl b)) (dC (.bl b)) := ⟨pe_bl, sim_c fun _ => .bl b⟩
theorem re_non {j : Nat} : RE X W (.Constant .none j pos) (tC .non) (dC .non) := ⟨pe_non, sim_c fun _ => .non⟩
theorem re_str {x : Str} {j : Nat} : RE X W (.Constant (.str x) j pos) (tC (.str x)) (dC (.str x)) := ⟨pe_str, sim_c fun _ => .str x⟩
theorem re_globI {x : Str} {i : Int} {t : Tok} (hg : Gl X x) (hm : X.mg x = some (.int i t)) (hd : (x == ("__debug__" : Str)) = false := by decide) : RE X W (.Name x pos) (tC (.int i)) (dC (.int i)) :=
  ⟨pe_glob hg hm ⟨t, rfl⟩ hd, sim_c fun _ => .int i⟩

/-! ### operations -/
def SimR2 (W : Wc) (r : R2) (f : D → D → (D → Prop) → Prop) : Prop := ∀ {S H : Hp} {x y : V} {dx dy : D}, W.ok H → Ex S H → Rep S x dx → Rep S y dy → ∀ {Qd : D → Prop}, f dx dy Qd → ∀ {Q : VK},
  (∀ v d S' H', Gr W S H S' H' → Rep S' v d → Qd d → Q v H') → r x y H Q
def SimR1 (W : Wc) (r : V → Hp → VK → Prop) (f : D → (D → Prop) → Prop) : Prop := ∀ {S H : Hp} {x : V} {dx : D}, W.ok H → Ex S H → Rep S x dx → ∀ {Qd : D → Prop}, f dx Qd → ∀ {Q : VK},
  (∀ v d S' H', Gr W S H S' H' → Rep S' v d → Qd d → Q v H') → r x H Q
def SimRA (W : Wc) (r : List V → Hp → VK → Prop) (f : List D → (D → Prop) → Prop) : Prop := ∀ {S H : Hp} {xs : List V} {ds : List D}, W.ok H → Ex S H → Reps S xs ds → ∀ {Qd : D → Prop}, f ds Qd → ∀ {Q : VK},
  (∀ v d S' H', Gr W S H S' H' → Rep S' v d → Qd d → Q v H') → r xs H Q
/-- .. that hands back a new list -/
def SimRAL (W : Wc) (r : List V → Hp → VK → Prop) (f : List D → (List D → Prop) → Prop) : Prop := ∀ {S H : Hp} {xs : List V} {ds : List D}, W.ok H → Ex S H → Reps S xs ds → ∀ {Qd : List D → Prop}, f ds Qd → ∀ {Q : VK},
  (∀ l xs ds S' H', Gr W S H S' H' → H l = none → S' l = none → H' l = some (.lst xs) → Reps S' xs ds → Qd ds → Q (.ref l) H') → r xs H Q
def dOp2 (f : D → D → (D → Prop) → Prop) (F G : DE) : DE := fun ρ Q => F ρ fun x => G ρ fun y => f x y Q
def dOp1 (f : D → (D → Prop) → Prop) (F : DE) : DE := fun ρ Q => F ρ fun x => f x Q
def dCB (f : List D → (D → Prop) → Prop) (F : DA) : DE := fun ρ Q => F ρ fun xs => f xs Q
def dCBL (f : List D → (List D → Prop) → Prop) (F : DA) : DA := fun ρ Q => F ρ fun xs => f xs Q
theorem sim_op {r : R2} {f} (ha : SimE W ta F) (hb : SimE W tb G) (hr : SimR2 W r f) : SimE W (tOp r ta tb) (dOp2 f F G) := fun s Qd q Q k =>
  ha s q fun x dx S1 H1 g1 r1 q1 => hb (s.gr g1) q1 fun y dy S2 H2 g2 r2 q2 =>
    hr g2.ok g2.sub (r1.mono (g2.exS g1.sub)) r2 q2 fun v d S3 H3 g3 r3 q3 => k v d S3 H3 ((g1.trans g2).trans g3) r3 q3
theorem sim_un {r : V → Hp → VK → Prop} {f} (ha : SimE W ta F) (hr : SimR1 W r f) : SimE W (tUn r ta) (dOp1 f F) := fun s Qd q Q k =>
  ha s q fun x dx S1 H1 g1 r1 q1 => hr g1.ok g1.sub r1 q1 fun v d S3 H3 g3 r3 q3 => k v d S3 H3 (g1.trans g3) r3 q3
theorem sim_cb {r : List V → Hp → VK → Prop} {f} {t : TA} {FA : DA} (ha : SimA W t FA) (hr : SimRA W r f) : SimE W (tCB r t) (dCB f FA) := fun s Qd q Q k =>
  ha s q fun x dx S1 H1 g1 r1 q1 => hr g1.ok g1.sub r1 q1 fun v d S3 H3 g3 r3 q3 => k v d S3 H3 (g1.trans g3) r3 q3
theorem Gr.back {S H S1 H1 : Hp} (g : Gr W S H S1 H1) {l : Addr} (h : H1 l = none) : H l = none := by
  cases e : H l with
  | none => rfl
  | some o =>
    obtain ⟨o', h'⟩ := g.dom e
    rw [h] at h'; cases h'
theorem sim_cbl {r : List V → Hp → VK → Prop} {f} {t : TA} {FA : DA} (ha : SimA W t FA) (hr : SimRAL W r f) : SimL W (tCB r t) (dCBL f FA) := fun s Qd q Q k =>
  ha s q fun x dx S1 H1 g1 r1 q1 => hr g1.ok g1.sub r1 q1 fun l xs ds S3 H3 g3 n1 n2 hl rs q3 => k l xs ds S3 H3 (g1.trans g3) (g1.back n1) n2 hl rs q3
theorem siml_e {t : TE} {FA : DA} (h : SimL W t FA) : SimE W t (fun ρ Q => FA ρ fun ds => Q (.lst ds)) := fun s Qd q Q k =>
  h s q fun l xs ds S' H' g n1 n2 hl rs q' => k _ _ _ _ (g.know n1 hl) (.lst upd_same (rs.mono (ex_upd n2))) q'
theorem siml_x {t : TE} {FA : DA} (h : SimL W t FA) : SimX W t (fun ρ Q => FA ρ fun ds => Q (.ml ds)) := fun s Qd q Q k =>
  h s q fun l xs ds S' H' g n1 n2 hl rs q' => k _ (.ml ds) _ _ g ⟨l, rfl, n1, n2, xs, hl, rs⟩ q'
theorem sime_x {t : TE} (h : SimE W t F) : SimX W t (fun ρ Q => F ρ fun d => Q (.im d)) := fun s Qd q Q k =>
  h s q fun v d S' H' g r q' => k v (.im d) _ _ g r q'
def dL (F : DA) : DE := fun ρ Q => F ρ fun ds => Q (.lst ds)
def xL (F : DA) : DX := fun ρ Q => F ρ fun ds => Q (.ml ds)
def xE (F : DE) : DX := fun ρ Q => F ρ fun d => Q (.im d)
theorem RL.toE {t : TE} {FA : DA} (h : RL X W e t FA) : RE X W e t (dL FA) := ⟨h.pe, siml_e h.sim⟩
theorem RL.toX {t : TE} {FA : DA} (h : RL X W e t FA) : RX X W e t (xL FA) := ⟨h.pe, siml_x h.sim⟩
theorem RE.toX {t : TE} (h : RE X W e t F) : RX X W e t (xE F) := ⟨h.pe, sime_x h.sim⟩

/-- an operator's rule with its data rule -/
structure Op2 (X : Cx) (W : Wc) (f : Value → Value → Sem Value) (r : R2) (g : D → D → (D → Prop) → Prop) : Prop where
  op : OpR X f r
  sim : SimR2 W r g
theorem re_op {op : Operator} {r : R2} {f} (ho : Op2 X W (binaryOp op) r f) (ha : RE X W ea ta F) (hb : RE X W eb tb G) : RE X W (.BinOp ea op eb pos) (tOp r ta tb) (dOp2 f F G) := ⟨pe_op ho.op ha.pe hb.pe, sim_op ha.sim hb.sim ho.sim⟩
theorem re_cmp {op : CmpOp} {r : R2} {f} (ho : Op2 X W (compareOp op) r f) (ha : RE X W ea ta F) (hb : RE X W eb tb G) (hm : behindInMarks op eb = false := by first | exact nomark _ | rfl) : RE X W (.Compare ea [op] [eb] pos) (tOp r ta tb) (dOp2 f F G) :=
  ⟨pe_cmpR ho.op ha.pe hb.pe hm, sim_op ha.sim hb.sim ho.sim⟩
def dTest (F : DE) : DT := fun ρ Q => F ρ fun d => ∃ b, d = .bl b ∧ Q b
theorem Rep.of_bl {S : Hp} {v : V} {b : Bool} (r : Rep S v (.bl b)) : v = .bl b := by cases r; rfl
theorem Rep.of_int {S : Hp} {v : V} {i : Int} (r : Rep S v (.int i)) : v = .int i := by cases r; rfl
theorem Rep.of_non {S : Hp} {v : V} (r : Rep S v .non) : v = .non := by cases r; rfl
theorem Rep.of_str {S : Hp} {v : V} {x : Str} (r : Rep S v (.str x)) : v = .str x := by cases r; rfl
theorem Rep.of_raw {S : Hp} {v : V} {a : Addr} (r : Rep S v (.raw a)) : v = .ref a := by cases r; rfl
theorem Rep.of_tup {S : Hp} {v : V} {ds : List D} (r : Rep S v (.tup ds)) : ∃ a xs, v = .ref a ∧ S a = some (.tup xs) ∧ Reps S xs ds := by cases r with | tup h r => exact ⟨_, _, rfl, h, r⟩
theorem Rep.of_lst {S : Hp} {v : V} {ds : List D} (r : Rep S v (.lst ds)) : ∃ a xs, v = .ref a ∧ S a = some (.lst xs) ∧ Reps S xs ds := by cases r with | lst h r => exact ⟨_, _, rfl, h, r⟩
theorem Rep.of_dk {S : Hp} {v : V} {ks : List Int} (r : Rep S v (.dk ks)) : ∃ a, v = .ref a ∧ S a = some (.dK (dkv ks)) := by cases r with | dk h => exact ⟨_, rfl, h⟩
theorem Rep.of_dt {S : Hp} {v : V} {ks : List (List Int)} (r : Rep S v (.dt ks)) : ∃ a, v = .ref a ∧ S a = some (.dT (dtv ks)) := by cases r with | dt h => exact ⟨_, rfl, h⟩
theorem sim_test (h : SimE W te F) : SimT W (tTest te) (dTest F) := fun s Qd q Q k => h s q fun v d S' H' g r ⟨b, e, q'⟩ => by
  subst e
  exact ⟨b, r.of_bl, k b S' H' g q'⟩
theorem sim_tB (h : SimE W te F) : SimT W (tB te) (dTest F) := fun s Qd q Q k => h s q fun v d S' H' g r ⟨b, e, q'⟩ => by
  subst e
  exact ⟨b, r.of_bl, k b S' H' g q'⟩
theorem rt_cmp {op : CmpOp} {r : R2} {f} (ho : Op2 X W (compareOp op) r f) (ha : RE X W ea ta F) (hb : RE X W eb tb G) (hm : behindInMarks op eb = false := by first | exact nomark _ | rfl) : RT X W (.Compare ea [op] [eb] pos) (tTest (tOp r ta tb)) (dTest (dOp2 f F G)) :=
  ⟨pt_cmpR ho.op ha.pe hb.pe hm, sim_test (sim_op ha.sim hb.sim ho.sim)⟩
theorem rt_val (h : RE X W e te F) (he : ∀ whole, isTrue e X.env whole = (do let v ← whole; standAt e.pos; holding [v] (truthy v)) := by intro _; rfl) : RT X W e (tB te) (dTest F) := ⟨pt_val h.pe he, sim_tB h.sim⟩
/-! a op1 b op2 c -/
def dChain (f g : D → D → (D → Prop) → Prop) (F G K : DE) : DE := fun ρ Q => F ρ fun x => G ρ fun y => f x y fun z => ∃ k, z = .bl k ∧ if k = true then K ρ fun w => g y w Q else Q (.bl false)
theorem sim_chain {r r' : R2} {f g} {K : DE} (ha : SimE W ta F) (hb : SimE W tb G) (hc : SimE W tc K) (hr : SimR2 W r f) (hr' : SimR2 W r' g) : SimE W (tChain r r' ta tb tc) (dChain f g F G K) := fun s Qd q Q k =>
  ha s q fun x dx S1 H1 g1 r1 q1 => hb (s.gr g1) q1 fun y dy S2 H2 g2 r2 q2 =>
    hr g2.ok g2.sub (r1.mono (g2.exS g1.sub)) r2 q2 fun v d S3 H3 g3 r3 ⟨b, e, q3⟩ => by
      subst e
      refine ⟨b, r3.of_bl, ?_⟩
      cases b with
      | true => exact hc (((s.gr g1).gr g2).gr g3) q3 fun z dz S4 H4 g4 r4 q4 => hr' g4.ok g4.sub (r2.mono ((g3.exS g2.sub).trans (g4.exS g3.sub))) r4 q4 fun v d S5 H5 g5 r5 q5 => k v d S5 H5 ((((g1.trans g2).trans g3).trans g4).trans g5) r5 q5
      | false => exact k (.bl false) (.bl false) S3 H3 ((g1.trans g2).trans g3) (.bl false) q3
theorem re_chain {op op' : CmpOp} {r r' : R2} {f g} {K : DE} (ho : Op2 X W (compareOp op) r f) (ho' : Op2 X W (compareOp op') r' g) (ha : RE X W ea ta F) (hb : RE X W eb tb G) (hc : RE X W ec tc K) (hm : lastMarks [op, op'] [eb, ec] = false := by with_unfolding_all rfl) :
    RE X W (.Compare ea [op, op'] [eb, ec] pos) (tChain r r' ta tb tc) (dChain f g F G K) := ⟨pe_chain ho.op ho'.op ha.pe hb.pe hc.pe hm, sim_chain ha.sim hb.sim hc.sim ho.sim ho'.sim⟩

/-! ### arithmetic -/
def fI2 (C : Int → Int → Prop) (g : Int → Int → D) : D → D → (D → Prop) → Prop := fun x y Q => ∃ i j, x = .int i ∧ y = .int j ∧ C i j ∧ Q (g i j)
def toV : D → V
  | .int i => .int i
  | .bl b => .bl b
  | .str x => .str x
  | _ => .non
theorem simI0 {g : Int → Int → D} {gv : Int → Int → V} (h : ∀ S i j, Rep S (gv i j) (g i j)) : SimR2 W (rI0 gv) (fI2 (fun _ _ => True) g) := fun ok sub rx ry Qd q Q k => by
  obtain ⟨i, j, e1, e2, _, q⟩ := q
  subst e1; subst e2
  exact ⟨i, j, rx.of_int, ry.of_int, k _ _ _ _ (Gr.refl ok sub) (h _ i j) q⟩
theorem simI {C : Int → Int → Prop} {g : Int → Int → D} {gv : Int → Int → V} (h : ∀ S i j, Rep S (gv i j) (g i j)) : SimR2 W (rI C gv) (fI2 C g) := fun ok sub rx ry Qd q Q k => by
  obtain ⟨i, j, e1, e2, c, q⟩ := q
  subst e1; subst e2
  exact ⟨i, j, rx.of_int, ry.of_int, c, k _ _ _ _ (Gr.refl ok sub) (h _ i j) q⟩
abbrev fAdd := fI2 (fun _ _ => True) fun i j => .int (i + j)
abbrev fSub := fI2 (fun _ _ => True) fun i j => .int (i - j)
abbrev fMul := fI2 CMul fun i j => .int (i * j)
abbrev fDiv := fI2 CDiv fun i j => .int (i / j)
abbrev fMod := fI2 (fun _ j => 0 < j) fun i j => .int (i % j)
abbrev fPow := fI2 CPow fun i j => .int (i ^ j.toNat)
abbrev fLt := fI2 (fun _ _ => True) fun i j => .bl (decide (i < j))
abbrev fLe := fI2 (fun _ _ => True) fun i j => .bl (decide (i ≤ j))
abbrev fGt := fI2 (fun _ _ => True) fun i j => .bl (decide (j < i))
abbrev fGe := fI2 (fun _ _ => True) fun i j => .bl (decide (j ≤ i))
theorem o_add : Op2 X W (binaryOp .Add) (rI0 fun i j => .int (i + j)) fAdd := ⟨op_add, simI0 fun _ _ _ => .int _⟩
theorem o_sub : Op2 X W (binaryOp .Sub) (rI0 fun i j => .int (i - j)) fSub := ⟨op_sub, simI0 fun _ _ _ => .int _⟩
theorem o_mul : Op2 X W (binaryOp .Mult) (rI CMul fun i j => .int (i * j)) fMul := ⟨op_mul, simI fun _ _ _ => .int _⟩
theorem o_div : Op2 X W (binaryOp .FloorDiv) (rI CDiv fun i j => .int (i / j)) fDiv := ⟨op_fdiv, simI fun _ _ _ => .int _⟩
theorem o_mod : Op2 X W (binaryOp .Mod) (rI (fun _ j => 0 < j) fun i j => .int (i % j)) fMod := ⟨op_mod, simI fun _ _ _ => .int _⟩
theorem o_pow : Op2 X W (binaryOp .Pow) (rI CPow fun i j => .int (i ^ j.toNat)) fPow := ⟨op_pow, simI fun _ _ _ => .int _⟩
theorem o_lt : Op2 X W (compareOp .Lt) (rI0 fun i j => .bl (decide (i < j))) fLt := ⟨op_lt, simI0 fun _ _ _ => .bl _⟩
theorem o_le : Op2 X W (compareOp .LtE) (rI0 fun i j => .bl (decide (i ≤ j))) fLe := ⟨op_le, simI0 fun _ _ _ => .bl _⟩
theorem o_gt : Op2 X W (compareOp .Gt) (rI0 fun i j => .bl (decide (j < i))) fGt := ⟨op_gt, simI0 fun _ _ _ => .bl _⟩
theorem o_ge : Op2 X W (compareOp .GtE) (rI0 fun i j => .bl (decide (j ≤ i))) fGe := ⟨op_ge, simI0 fun _ _ _ => .bl _⟩
def fNeg : D → (D → Prop) → Prop := fun x Q => ∃ i, x = .int i ∧ Q (.int (-i))
theorem re_neg (ha : RE X W ea ta F) : RE X W (.UnaryOp .USub ea pos) (tUn (rU fun i => .int (-i)) ta) (dOp1 fNeg F) := ⟨pe_un un_neg ha.pe, sim_un ha.sim fun ok sub rx Qd q Q k => by
  obtain ⟨i, e, q⟩ := q
  subst e
  exact ⟨i, rx.of_int, k _ _ _ _ (Gr.refl ok sub) (.int _) q⟩⟩
/-- == of two ints, of two bools -/
def fEqS (neg : Bool) : D → D → (D → Prop) → Prop := fun x y Q => (∃ i j, x = .int i ∧ y = .int j ∧ Q (.bl (if neg then !decide (i = j) else decide (i = j)))) ∨ ∃ a b, x = .bl a ∧ y = .bl b ∧ Q (.bl (if neg then !decide (a = b) else decide (a = b)))
theorem o_eq : Op2 X W (compareOp .Eq) rEq (fEqS false) := ⟨op_eq, fun ok sub rx ry Qd q Q k => by
  rcases q with ⟨i, j, rfl, rfl, q⟩ | ⟨a, b, rfl, rfl, q⟩
  · cases rx.of_int; cases ry.of_int
    refine ⟨rfl, k _ _ _ _ (Gr.refl ok sub) ?_ q⟩
    rw [show decide (V.int i = V.int j) = decide (i = j) from decide_eq_decide.mpr ⟨fun h => V.int.inj h, fun h => by rw [h]⟩]
    exact .bl _
  · cases rx.of_bl; cases ry.of_bl
    refine ⟨rfl, k _ _ _ _ (Gr.refl ok sub) ?_ q⟩
    rw [show decide (V.bl a = V.bl b) = decide (a = b) from decide_eq_decide.mpr ⟨fun h => V.bl.inj h, fun h => by rw [h]⟩]
    exact .bl _⟩
theorem o_ne : Op2 X W (compareOp .NotEq) rNe (fEqS true) := ⟨op_ne, fun ok sub rx ry Qd q Q k => by
  rcases q with ⟨i, j, rfl, rfl, q⟩ | ⟨a, b, rfl, rfl, q⟩
  · cases rx.of_int; cases ry.of_int
    refine ⟨rfl, k _ _ _ _ (Gr.refl ok sub) ?_ q⟩
    rw [show decide (V.int i = V.int j) = decide (i = j) from decide_eq_decide.mpr ⟨fun h => V.int.inj h, fun h => by rw [h]⟩]
    exact .bl _
  · cases rx.of_bl; cases ry.of_bl
    refine ⟨rfl, k _ _ _ _ (Gr.refl ok sub) ?_ q⟩
    rw [show decide (V.bl a = V.bl b) = decide (a = b) from decide_eq_decide.mpr ⟨fun h => V.bl.inj h, fun h => by rw [h]⟩]
    exact .bl _⟩

/-! ### and, or, not; a if t else b -/
def dAnd (F G : DT) : DT := fun ρ Q => F ρ fun c => if c = true then G ρ Q else Q false
def dOr (F G : DT) : DT := fun ρ Q => F ρ fun c => if c = true then Q true else G ρ Q
def dNot (F : DT) : DT := fun ρ Q => F ρ fun c => Q (!c)
def dAndV (F G : DE) : DE := fun ρ Q => F ρ fun x => ∃ c, x = .bl c ∧ if c = true then G ρ Q else Q (.bl false)
def dOrV (F G : DE) : DE := fun ρ Q => F ρ fun x => ∃ c, x = .bl c ∧ if c = true then Q (.bl true) else G ρ Q
def dNotV (F : DE) : DE := fun ρ Q => F ρ fun x => ∃ c, x = .bl c ∧ Q (.bl (!c))
def dIf (T : DT) (F G : DE) : DE := fun ρ Q => T ρ fun c => if c = true then F ρ Q else G ρ Q
variable {t u : TT} {FT GT : DT} {rest : List Expr}
theorem sim_and (ha : SimT W t FT) (hb : SimT W u GT) : SimT W (tAnd t u) (dAnd FT GT) := fun s Qd q Q k => ha s q fun b S1 H1 g1 q1 => by
  cases b with
  | true => exact hb (s.gr g1) q1 fun b S2 H2 g2 q2 => k b S2 H2 (g1.trans g2) q2
  | false => exact k false S1 H1 g1 q1
theorem sim_or (ha : SimT W t FT) (hb : SimT W u GT) : SimT W (tOr t u) (dOr FT GT) := fun s Qd q Q k => ha s q fun b S1 H1 g1 q1 => by
  cases b with
  | false => exact hb (s.gr g1) q1 fun b S2 H2 g2 q2 => k b S2 H2 (g1.trans g2) q2
  | true => exact k true S1 H1 g1 q1
theorem sim_not (ha : SimT W t FT) : SimT W (tNot t) (dNot FT) := fun s Qd q Q k => ha s q fun b S1 H1 g1 q1 => k (!b) S1 H1 g1 q1
theorem rw_and1 (ha : RT X W ea t FT) : RW' X W (.BoolOp .And [ea] pos) t FT := ⟨pw_and1 ha.pe, ha.sim⟩
theorem rw_or1 (ha : RT X W ea t FT) : RW' X W (.BoolOp .Or [ea] pos) t FT := ⟨pw_or1 ha.pe, ha.sim⟩
theorem rw_and (ha : RT X W ea t FT) (hb : RW' X W (.BoolOp .And (eb :: rest) pos) u GT) : RW' X W (.BoolOp .And (ea :: eb :: rest) pos) (tAnd t u) (dAnd FT GT) := ⟨pw_and ha.pe hb.pe, sim_and ha.sim hb.sim⟩
theorem rw_or (ha : RT X W ea t FT) (hb : RW' X W (.BoolOp .Or (eb :: rest) pos) u GT) : RW' X W (.BoolOp .Or (ea :: eb :: rest) pos) (tOr t u) (dOr FT GT) := ⟨pw_or ha.pe hb.pe, sim_or ha.sim hb.sim⟩
theorem RW'.toT (h : RW' X W e t FT) : RT X W e t FT := ⟨h.pe.pt, h.sim⟩
theorem rt_not (ha : RT X W ea t FT) : RT X W (.UnaryOp .Not ea pos) (tNot t) (dNot FT) := ⟨pt_not ha.pe, sim_not ha.sim⟩
theorem re_one {op} (h : RE X W ea ta F) : RE X W (.BoolOp op [ea] pos) ta F := ⟨pe_one h.pe, h.sim⟩
theorem re_and (ha : RE X W ea ta F) (hb : RE X W (.BoolOp .And (eb :: rest) pos) tb G) : RE X W (.BoolOp .And (ea :: eb :: rest) pos) (tAndV ta tb) (dAndV F G) := ⟨pe_and ha.pe hb.pe, fun s Qd q Q k => ha.sim s q fun v d S1 H1 g1 r1 ⟨c, e, q1⟩ => by
  subst e
  refine ⟨c, r1.of_bl, ?_⟩
  cases c with
  | true => exact hb.sim (s.gr g1) q1 fun v d S2 H2 g2 r2 q2 => k v d S2 H2 (g1.trans g2) r2 q2
  | false => exact k _ _ S1 H1 g1 (.bl false) q1⟩
theorem re_or (ha : RE X W ea ta F) (hb : RE X W (.BoolOp .Or (eb :: rest) pos) tb G) : RE X W (.BoolOp .Or (ea :: eb :: rest) pos) (tOrV ta tb) (dOrV F G) := ⟨pe_or ha.pe hb.pe, fun s Qd q Q k => ha.sim s q fun v d S1 H1 g1 r1 ⟨c, e, q1⟩ => by
  subst e
  refine ⟨c, r1.of_bl, ?_⟩
  cases c with
  | false => exact hb.sim (s.gr g1) q1 fun v d S2 H2 g2 r2 q2 => k v d S2 H2 (g1.trans g2) r2 q2
  | true => exact k _ _ S1 H1 g1 (.bl true) q1⟩
theorem re_not (ha : RE X W ea ta F) : RE X W (.UnaryOp .Not ea pos) (tNotV ta) (dNotV F) := ⟨pe_not ha.pe, fun s Qd q Q k => ha.sim s q fun v d S1 H1 g1 r1 ⟨c, e, q1⟩ => by
  subst e
  exact ⟨c, r1.of_bl, k _ _ S1 H1 g1 (.bl _) q1⟩⟩
theorem re_ifExp (hc : RT X W ec t FT) (ha : RE X W ea ta F) (hb : RE X W eb tb G) : RE X W (.IfExp ec ea eb pos) (tIf t ta tb) (dIf FT F G) := ⟨pe_ifExp hc.pe ha.pe hb.pe, fun s Qd q Q k => hc.sim s q fun b S1 H1 g1 q1 => by
  cases b with
  | true => exact ha.sim (s.gr g1) q1 fun v d S2 H2 g2 r2 q2 => k v d S2 H2 (g1.trans g2) r2 q2
  | false => exact hb.sim (s.gr g1) q1 fun v d S2 H2 g2 r2 q2 => k v d S2 H2 (g1.trans g2) r2 q2⟩

/-! ### argument lists, displays -/
def aNil : DA := fun _ Q => Q []
def aCons (F : DE) (G : DA) : DA := fun ρ Q => F ρ fun x => G ρ fun xs => Q (x :: xs)
theorem ra_nil : RA X W [] tNil aNil := ⟨pa_nil, fun s Qd q Q k => k [] [] _ _ s.refl .nil q⟩
theorem ra_cons {es : List Expr} {tr : TA} {GA : DA} (ha : RE X W e te F) (hr : RA X W es tr GA) (hs : starEach (e :: es) X.env = (false, eval e X.env) :: starEach es X.env := by rfl) : RA X W (e :: es) (tCons te tr) (aCons F GA) := ⟨pa_cons ha.pe hr.pe hs, fun s Qd q Q k =>
  ha.sim s q fun v d S1 H1 g1 r1 q1 => hr.sim (s.gr g1) q1 fun vs ds S2 H2 g2 r2 q2 => k _ _ S2 H2 (g1.trans g2) (.cons (r1.mono (g2.exS g1.sub)) r2) q2⟩
theorem small (n : Nat) (h : n ≤ 100000) : n ≤ sizeLine := Nat.le_trans h (by decide)
theorem smallLt (n : Nat) (h : n < 100000) : n < sizeLine := Nat.lt_of_lt_of_le h (by decide)
def dTup (F : DA) : DE := fun ρ Q => F ρ fun ds => ds.length ≤ 100000 ∧ Q (.tup ds)
def aLst (F : DA) : DA := fun ρ Q => F ρ fun ds => ds.length ≤ 100000 ∧ Q ds
theorem re_tup {es : List Expr} {k : Nat} {tr : TA} {GA : DA} (h : RA X W es tr GA) : RE X W (.Tuple es k pos) (tTup tr) (dTup GA) := ⟨pe_tup h.pe, fun s Qd q Q k => h.sim s q fun vs ds S1 H1 g1 r1 ⟨z, q1⟩ =>
  ⟨small _ (by rw [r1.length]; exact z), fun p np => k _ _ _ _ (g1.trans (Gr.new g1.ok g1.sub np)) (.tup upd_same (r1.mono (ex_upd (by cases e : S1 p with
    | none => rfl
    | some o => rw [g1.sub p o e] at np; cases np)))) q1⟩⟩
theorem Ex.free {S H : Hp} (e : Ex S H) {p : Addr} (n : H p = none) : S p = none := by
  cases h : S p with
  | none => rfl
  | some o => rw [e p o h] at n; cases n
theorem rl_lst {es : List Expr} {tr : TA} {GA : DA} (h : RA X W es tr GA) : RL X W (.List es pos) (tLst tr) (aLst GA) := ⟨pe_lst h.pe, fun s Qd q Q k => h.sim s q fun vs ds S1 H1 g1 r1 ⟨z, q1⟩ =>
  ⟨small _ (by rw [r1.length]; exact z), fun p np => k p vs ds S1 _ (g1.trans (Gr.newM g1.ok g1.sub np)) (g1.back np) (g1.sub.free np) upd_same r1 q1⟩⟩
end
end NR
/-! Statements, targets, loops, comprehensions, calls, a def by its body: over data. -/
namespace NR
open PySem PySem.Spec PyProof.Rows L2

section
variable {X : Cx} {W : Wc} {e ea eb ec : Expr} {pos : Pos} {ta tb tc te : TE} {F G : DE} {st : Stmt} {rest : List Stmt} {t u : TS} {T U : DS}
/-! ### blocks -/
def dNext : DS := fun E ρ => E.nx ρ
def dSeq (T U : DS) : DS := fun E ρ => T { E with nx := U E } ρ
def dBreak : DS := fun E ρ => E.bk ρ
def dCont : DS := fun E ρ => E.ct ρ
def dNever : DS := fun _ _ => False
def dRet (F : DE) : DS := fun E ρ => F ρ E.rt
def dDrop (F : DE) : DS := fun E ρ => F ρ fun _ => E.nx ρ
def dIfS (C : DT) (T U : DS) : DS := fun E ρ => C ρ fun b => if b = true then T E ρ else U E ρ
theorem sim_next : SimS W tNext dNext := fun s E D' q l => l.nx _ _ _ _ s (Ex.refl _) q
theorem rss_nil : RSs X W [] tNext dNext := ⟨pss_nil, sim_next⟩
theorem sim_seq (h1 : SimS W t T) (h2 : SimS W u U) : SimS W (tSeq t u) (dSeq T U) := fun s E D' q l =>
  h1 s q ⟨fun ρ' σ' S' H' s' e q' => h2 s' q' (l.mono e), l.bk, l.ct, l.rt⟩
theorem rss_cons (h1 : RS X W st t T) (h2 : RSs X W rest u U) : RSs X W (st :: rest) (tSeq t u) (dSeq T U) := ⟨pss_cons h1.pe h2.pe, sim_seq h1.sim h2.sim⟩
theorem rss_one (h1 : RS X W st t T) : RSs X W [st] t T := ⟨pss_one h1.pe, h1.sim⟩
theorem rs_pass : RS X W (.Pass pos) tNext dNext := ⟨ps_pass, sim_next⟩
theorem rs_break : RS X W (.Break pos) tBreak dBreak := ⟨ps_break, fun s E D' q l => l.bk _ _ _ _ s (Ex.refl _) q⟩
theorem rs_continue : RS X W (.Continue pos) tCont dCont := ⟨ps_continue, fun s E D' q l => l.ct _ _ _ _ s (Ex.refl _) q⟩
theorem rs_never : RS X W st tNever dNever := ⟨ps_never, fun s E D' q l => q.elim⟩
theorem rs_ret (h : RE X W e te F) : RS X W (.Return (some e) pos) (tRet te) (dRet F) := ⟨ps_ret h.pe, fun s E D' q l =>
  h.sim s q fun v d S' H' g r q' => l.rt v d _ _ S' H' (s.gr g) r q'⟩
theorem rs_expr (h : RE X W e te F) (hs : swapsWith e none pos.line X.env = pure false := by rfl) : RS X W (.Expr e pos) (tDrop te) (dDrop F) := ⟨ps_expr h.pe hs, fun s E D' q l =>
  h.sim s q fun v d S' H' g r q' => l.nx _ _ S' H' (s.gr g) (g.exS s.sub) q'⟩
theorem rs_if {c : Expr} {a b : List Stmt} {tc : TT} {C : DT} (hc : RT X W c tc C) (ha : RSs X W a t T) (hb : RSs X W b u U) : RS X W (.If c a b pos) (tIfS tc t u) (dIfS C T U) := ⟨ps_if hc.pe ha.pe hb.pe, fun s E D' q l =>
  hc.sim s q fun k S' H' g q' => by
    cases k with
    | true => exact ha.sim (s.gr g) q' (l.mono (g.exS s.sub))
    | false => exact hb.sim (s.gr g) q' (l.mono (g.exS s.sub))⟩
/-! a slot's thing stands still from here on (no statement) -/
def dFreeze (i : Nat) (T : DS) : DS := fun E ρ => ∃ x d, ρ[i]? = some x ∧ x.dat = some d ∧ T E (ρ.set i (.im d))
theorem rss_freeze (i : Nat) {sts : List Stmt} (h : RSs X W sts t T) : RSs X W sts t (dFreeze i T) := ⟨h.pe, fun s E D' q l => by
  obtain ⟨x, d, hx, hd, q⟩ := q
  obtain ⟨S1, e, s1⟩ := s.freeze hx hd
  exact h.sim s1 q (l.mono e)⟩

/-! ### stores -/
def dAsg (i : Nat) (F : DX) : DS := fun E ρ => F ρ fun s => E.nx (ρ.set i s)
theorem newSl_mut {S' H H' : Hp} {v : V} {x : Sl} (m : x.mut = true) (n : NewSl S' H H' v x) : ∃ l, v = .ref l ∧ H l = none ∧ S' l = none ∧ Own S' H' l x := by
  cases x with
  | no => cases m
  | im d => cases m
  | ml ds => exact n
  | mk ks => exact n
  | mt ks => exact n
theorem SR.setNew {B S0 S H S' H' : Hp} {ρ : List Sl} {σ : L2.St} {i : Nat} {v : V} {x : Sl} (s : SR W B S0 ρ σ S H) (g : Gr W S H S' H') (n : NewSl S' H H' v x) : SR W B S0 (ρ.set i x) (σ.set i (some v)) S' H' := by
  by_cases m : x.mut = true
  · obtain ⟨l, rfl, n1, n2, ow⟩ : ∃ l, v = .ref l ∧ H l = none ∧ S' l = none ∧ Own S' H' l x := by
      cases x with
      | no => cases m
      | im d => cases m
      | ml ds => exact n
      | mk ks => exact n
      | mt ks => exact n
    have nB : B l = none := by
      cases e : B l with
      | none => rfl
      | some o =>
        obtain ⟨o', h'⟩ := s.dom l o e
        rw [n1] at h'; cases h'
    have nW : ¬ W.at_ l := fun w => by
      obtain ⟨o', h'⟩ := W.dom H l s.ok w
      rw [n1] at h'; cases h'
    refine (s.gr g).set (slOk_of m ⟨l, rfl, nB, nW, n2, ow⟩) fun _ j sj l' hj ej mj el e2 => ?_
    cases el
    obtain ⟨l2, e3, _, _, _, o2⟩ := slOk_mut mj (s.sl j sj ej)
    rw [e2] at e3
    cases e3
    obtain ⟨u, hu⟩ := o2.some
    rw [n1] at hu; cases hu
  · cases x with
    | no =>
      exact (s.gr g).setNo
    | im d => exact (s.gr g).setIm n
    | ml ds => exact absurd rfl m
    | mk ks => exact absurd rfl m
    | mt ks => exact absurd rfl m
theorem NewSl.gr {S H S1 H1 S2 H2 : Hp} {v : V} {x : Sl} (g : Gr W S H S1 H1) (n : NewSl S1 H H1 v x) (g2 : Gr W S1 H1 S2 H2) (ok : W.ok H) : NewSl S2 H H2 v x := by
  by_cases m : x.mut = true
  · have n' : ∃ l, v = .ref l ∧ H l = none ∧ S1 l = none ∧ Own S1 H1 l x := by
      cases x with
      | no => cases m
      | im d => cases m
      | ml ds => exact n
      | mk ks => exact n
      | mt ks => exact n
    obtain ⟨l, rfl, n1, n2, ow⟩ := n'
    have nW : ¬ W.at_ l := fun w => by
      obtain ⟨o', h'⟩ := W.dom H l ok w
      rw [n1] at h'; cases h'
    have r : ∃ l', V.ref l = .ref l' ∧ H l' = none ∧ S2 l' = none ∧ Own S2 H2 l' x := ⟨l, rfl, n1, (g2.st l ow.old).trans n2, ow.gr g.sub g2 nW⟩
    cases x with
    | no => cases m
    | im d => cases m
    | ml ds => exact r
    | mk ks => exact r
    | mt ks => exact r
  · cases x with
    | no => exact True.intro
    | im d => exact Rep.mono (g2.exS g.sub) n
    | ml ds => exact absurd rfl m
    | mk ks => exact absurd rfl m
    | mt ks => exact absurd rfl m
theorem rs_set {i : Nat} {x : Str} {FX : DX} {pos' : Pos} (hN : X.N.Nodup) (he : RX X W e te FX) (hi : X.N[i]? = some x := by rfl) (hx : Loc X.env.scope x := by first | exact .inl rfl | exact .inr rfl) (hs : swapsWith e (some (.Name x pos')) pos.line X.env = pure false := by rfl)
    (hf : X.fn x = true ∨ X.env.scope.names.lookup x = some .local := by first | exact .inl rfl | exact .inr rfl) : RS X W (.Assign [.Name x pos'] e pos) (tAsg te (gName i)) (dAsg i FX) := ⟨ps_set hN hi hx he.pe hs hf, fun s E D' q l =>
  he.sim s q fun v sl S' H' g n q' => l.nx _ _ S' H' (s.setNew g n) (g.exS s.sub) q'⟩
/-- a, b = x, y of two plain locals -/
structure R2X (X : Cx) (W : Wc) (a b : Expr) (t1 t2 : TE) (F1 F2 : DX) : Prop where
  one : RX X W a t1 F1
  two : RX X W b t2 F2
def dPar (i j : Nat) (F1 F2 : DX) : DS := fun E ρ => F1 ρ fun s1 => F2 ρ fun s2 => E.nx ((ρ.set i s1).set j s2)
theorem rs_par {i j : Nat} {x y : Str} {a b : Expr} {t1 t2 : TE} {F1 F2 : DX} {px py pt : Pos} {kt k2 pt2} (hN : X.N.Nodup) (h1 : RX X W a t1 F1) (h2 : RX X W b t2 F2) (hc : X.calm = true := by rfl) (hi : X.N[i]? = some x := by rfl) (hj : X.N[j]? = some y := by rfl) (hij : i ≠ j := by decide)
    (hx : X.env.scope.names.lookup x = some .local := by rfl) (hy : X.env.scope.names.lookup y = some .local := by rfl) (na : starEach [a, b] X.env = (false, eval a X.env) :: starEach [b] X.env := by rfl) (nb : starEach [b] X.env = (false, eval b X.env) :: starEach [] X.env := by rfl)
    (hw : swappedStores [.Tuple [.Name x px, .Name y py] kt pt] (.Tuple [a, b] k2 pt2) X.env = pure (some [x, y]) := by rfl)
    (hs : swapsWithSole [.Tuple [.Name x px, .Name y py] kt pt] (.Tuple [a, b] k2 pt2) pos.line X.env = pure false := by rfl) :
    RS X W (.Assign [.Tuple [.Name x px, .Name y py] kt pt] (.Tuple [a, b] k2 pt2) pos) (tPar i j (tCons t1 (tCons t2 tNil))) (dPar i j F1 F2) :=
  ⟨ps_par hc hN hi hj hij hx hy (pa_cons h1.pe (pa_cons h2.pe pa_nil nb) na) hw hs, fun {B S0 ρ σ S H} s E D' q l =>
    h1.sim s q fun v s1 S1 H1 g1 n1 q1 => h2.sim (s.gr g1) q1 fun w s2 S2 H2 g2 n2 q2 => ⟨v, w, rfl, by
      have a1 := (s.setNew (i := i) (g1.trans g2) (n1.gr g1 g2 s.ok))
      refine l.nx _ _ S2 H2 ?_ ((g1.trans g2).exS s.sub) q2
      -- the second store, over the state behind the first
      have m2 : NewSl S2 H1 H2 w s2 := n2
      by_cases m : s2.mut = true
      · obtain ⟨l2, rfl, n3, n4, ow⟩ : ∃ l, w = .ref l ∧ H1 l = none ∧ S2 l = none ∧ Own S2 H2 l s2 := by
          cases s2 with
          | no => cases m
          | im d => cases m
          | ml ds => exact m2
          | mk ks => exact m2
          | mt ks => exact m2
        have n0 : H l2 = none := g1.back n3
        have nW : ¬ W.at_ l2 := fun w => by
          obtain ⟨o', h'⟩ := W.dom H1 l2 g1.ok w
          rw [n3] at h'; cases h'
        have nB : B l2 = none := by
          cases e : B l2 with
          | none => rfl
          | some o =>
            obtain ⟨o', h'⟩ := s.dom l2 o e
            rw [n0] at h'; cases h'
        refine a1.set (slOk_of m ⟨l2, rfl, nB, nW, n4, ow⟩) fun _ k sk l' hk ek mk el e2 => ?_
        cases el
        -- slot k holds l2: it is i (then l2 stood in H1) or an old one
        by_cases hki : i = k
        · subst hki
          have hil : i < ρ.length := by
            have := (List.getElem?_eq_some_iff.mp ek).1
            rwa [List.length_set] at this
          rw [List.getElem?_set_self hil] at ek
          cases ek
          rw [List.getElem?_set_self (by rw [s.len]; exact hil)] at e2
          have ev : v = .ref l2 := by injection e2 with e2; injection e2
          obtain ⟨l3, e3, _, _, o3⟩ := newSl_mut mk n1
          rw [ev] at e3
          cases e3
          obtain ⟨u, hu⟩ := o3.some
          rw [n3] at hu; cases hu
        · rw [List.getElem?_set_ne hki] at ek e2
          obtain ⟨l3, e3, _, _, _, o3⟩ := slOk_mut mk (s.sl k sk ek)
          rw [e2] at e3
          cases e3
          obtain ⟨u, hu⟩ := o3.some
          rw [n0] at hu; cases hu
      · cases s2 with
        | no => exact a1.setNo
        | im d => exact a1.setIm n2
        | ml ds => exact absurd rfl m
        | mk ks => exact absurd rfl m
        | mt ks => exact absurd rfl m⟩⟩

/-! ### targets -/
def gdN (i : Nat) : DG := fun d ρ Q => Q (ρ.set i (.im d))
def gdT2 (i j : Nat) : DG := fun d ρ Q => ∃ x y, d = .tup [x, y] ∧ Q ((ρ.set i (.im x)).set j (.im y))
theorem sim_gname {i : Nat} : SimG W (gName i) (gdN i) := fun s v d r Qd q Q k => k _ _ (s.setIm r) q
theorem Reps.two {S : Hp} {xs : List V} {x y : D} (r : Reps S xs [x, y]) : ∃ a b, xs = [a, b] ∧ Rep S a x ∧ Rep S b y := by
  cases r with
  | cons h r =>
    cases r with
    | cons h2 r =>
      cases r
      exact ⟨_, _, rfl, h, h2⟩
theorem sim_gtup {K : PySem.W.Frag} {i j : Nat} : SimG W (gTup K 2 (gCons (gName i) (gCons (gName j) gNil))) (gdT2 i j) := fun s v d r Qd q Q k => by
  obtain ⟨x, y, rfl, q⟩ := q
  obtain ⟨a, xs, rfl, h, rs⟩ := r.of_tup
  obtain ⟨a1, a2, rfl, r1, r2⟩ := rs.two
  exact ⟨a, _, rfl, SqT.of (s.sub _ _ h), rfl, a1, [a2], rfl, a2, [], rfl, rfl, k _ _ ((s.setIm r1).setIm r2) q⟩
theorem rg_name {i : Nat} {x : Str} (hN : X.N.Nodup) (hi : X.N[i]? = some x := by rfl) (hx : Loc X.env.scope x := by first | exact .inl rfl | exact .inr rfl) (hf : X.fn x = true ∨ X.env.scope.names.lookup x = some .local := by first | exact .inl rfl | exact .inr rfl) : RG X W (.Name x pos) (gName i) (gdN i) := ⟨pg_name hN hi hx hf, sim_gname⟩
theorem rg_tup2 {K : PySem.W.Frag} {i j : Nat} {e1 e2 : Expr} {k : Nat} (h1 : PG X e1 (gName i)) (h2 : PG X e2 (gName j)) (hK : X.K = K := by rfl) (hc : X.calm = true := by rfl) (hn : (assignEach [e1, e2] X.env).length = 2 := by rfl) (hst : (assignEach [e1, e2] X.env).findIdx? (·.1) = none := by rfl)
    (hs1 : (assignEach [e1, e2] X.env).map (·.2) = assign e1 X.env :: (assignEach [e2] X.env).map (·.2) := by rfl) (hs2 : (assignEach [e2] X.env).map (·.2) = assign e2 X.env :: (assignEach [] X.env).map (·.2) := by rfl) :
    RG X W (.Tuple [e1, e2] k pos) (gTup K 2 (gCons (gName i) (gCons (gName j) gNil))) (gdT2 i j) := hK ▸ ⟨pg_tup hc (pgs_cons h1 (pgs_cons h2 pgs_nil hs2) hs1) hn hst, sim_gtup⟩
def dAsgG (F : DE) (g : DG) : DS := fun E ρ => F ρ fun d => g d ρ E.nx
theorem rs_asg {tg : Expr} {g : TG} {gd : DG} (he : RE X W e te F) (hg : RG X W tg g gd) (hs : swapsWithSole [tg] e pos.line X.env = pure false := by rfl) (hw : swappedStores [tg] e X.env = pure none := by rfl)
    (h1 : (assignEach [tg] X.env).map (·.2) = [assign tg X.env] := by rfl) : RS X W (.Assign [tg] e pos) (tAsg te g) (dAsgG F gd) := ⟨ps_asg he.pe hg.pe hs hw h1, fun s E D' q l =>
  he.sim s q fun v d S' H' g' r q' => hg.sim (s.gr g') r q' fun ρ' σ' s' q2 => l.nx _ _ S' H' s' (g'.exS s.sub) q2⟩

/-! ### while, for -/
def dWhile (C : DT) (T : DS) : DS := fun E ρ => ∃ P : Nat → List Sl → Prop, (∃ m, P m ρ) ∧ ∀ m ρ, P m ρ → C ρ fun b => if b = true then T { E with nx := fun ρ' => ∃ m', m' < m ∧ P m' ρ', ct := fun ρ' => ∃ m', m' < m ∧ P m' ρ', bk := E.nx } ρ else E.nx ρ
theorem rs_while {c : Expr} {body : List Stmt} {tc : TT} {C : DT} (hp : PassesOwn (model X.prog X.w) X.A X.env X.xe) (hc : RT X W c tc C) (hb : RSs X W body t T) : RS X W (.While c body [] pos) (tWhile tc t) (dWhile C T) :=
  ⟨ps_while hp hc.pe hb.pe, fun {B S0 ρ σ S H} s E D' q l => by
    obtain ⟨P, ⟨m0, p0⟩, turn⟩ := q
    refine ⟨fun m σ' H' => ∃ ρ' S', SR W B S0 ρ' σ' S' H' ∧ Ex S S' ∧ P m ρ', ⟨m0, ρ, S, s, Ex.refl S, p0⟩, ?_⟩
    rintro m σ1 H1 ⟨ρ1, S1, s1, e1, p1⟩
    refine hc.sim s1 (turn m ρ1 p1) fun b S2 H2 g2 q2 => ?_
    have e2 : Ex S S2 := e1.trans (g2.exS s1.sub)
    cases b with
    | false => exact l.nx _ _ S2 H2 (s1.gr g2) e2 q2
    | true =>
      refine ⟨fun σ' H' => ∃ m', m' < m ∧ ∃ ρ' S', SR W B S0 ρ' σ' S' H' ∧ Ex S S' ∧ P m' ρ', fun σ' H' ⟨m', hm, z⟩ => ⟨m', hm, z⟩, ?_⟩
      refine hb.sim (s1.gr g2) q2 ⟨fun ρ' σ' S' H' s' e' ⟨m', hm, p'⟩ => ⟨m', hm, ρ', S', s', e2.trans e', p'⟩, fun ρ' σ' S' H' s' e' q' => l.nx _ _ S' H' s' (e2.trans e') q', fun ρ' σ' S' H' s' e' ⟨m', hm, p'⟩ => ⟨m', hm, ρ', S', s', e2.trans e', p'⟩, l.rt⟩⟩
def dFor (I : DA) (g : DG) (T : DS) : DS := fun E ρ => I ρ fun ds => ∃ P : Nat → List Sl → Prop, P 0 ρ ∧ (∀ i d ρ', ds[i]? = some d → P i ρ' → g d ρ' fun ρ'' => T { E with nx := P (i + 1), ct := P (i + 1), bk := E.nx } ρ'') ∧ ∀ ρ', P ds.length ρ' → E.nx ρ'
theorem rs_for {tg iter : Expr} {body : List Stmt} {wi : TI} {I : DA} {g : TG} {gd : DG} (hp : PassesOwn (model X.prog X.w) X.A X.env X.xe) (hi : RI X W tg iter wi I) (hg : RG X W tg g gd) (hb : RSs X W body t T) (hc : X.calm = true := by rfl)
    (hs : ∀ x, foldedSetIterable iter X.env x = pure x := by intro _; rfl) : RS X W (.For tg iter body [] pos) (tFor wi g t) (dFor I gd T) := ⟨ps_for hp hc hi.pe hg.pe hb.pe hs, fun {B S0 ρ σ S H} s E D' q l =>
  hi.sim s q fun J ds S1 H1 g1 hJ ⟨P, p0, step, fin⟩ => by
    have e1 := g1.exS s.sub
    refine ⟨fun i m σ' H' => m = ds.length - i ∧ i ≤ ds.length ∧ ∃ ρ' S', SR W B S0 ρ' σ' S' H' ∧ Ex S1 S' ∧ P i ρ', ⟨ds.length, by simp, Nat.zero_le _, ρ, S1, s.gr g1, Ex.refl _, p0⟩, ?_⟩
    rintro i m σ2 H2 ⟨rfl, hi, ρ2, S2, s2, e2, p2⟩
    obtain ⟨j1, j2, j3⟩ := hJ i S2 H2 s2.ok s2.sub e2
    by_cases hlt : i < ds.length
    · refine .inr ⟨j1 hlt, fun σ' H' => ∃ ρ' S', SR W B S0 ρ' σ' S' H' ∧ Ex S1 S' ∧ P (i + 1) ρ', fun σ' H' z => ⟨ds.length - (i + 1), by omega, rfl, hlt, z⟩, fun x H3 y => ?_⟩
      obtain ⟨d, S3, hd, g3, r3⟩ := j3 x H3 hlt y
      have e3 : Ex S1 S3 := e2.trans (g3.exS s2.sub)
      refine hg.sim (s2.gr g3) r3 (step i d ρ2 hd p2) fun ρ4 σ4 s4 q4 => ?_
      refine hb.sim s4 q4 ⟨fun ρ' σ' S' H' s' e' p' => ⟨ρ', S', s', e3.trans e', p'⟩, fun ρ' σ' S' H' s' e' q' => l.nx _ _ S' H' s' (e1.trans (e3.trans e')) q', fun ρ' σ' S' H' s' e' p' => ⟨ρ', S', s', e3.trans e', p'⟩, l.rt⟩
    · have e : i = ds.length := by omega
      subst e
      exact .inl ⟨j2 (Nat.le_refl _), l.nx _ _ S2 H2 s2 (e1.trans e2) (fin ρ2 p2)⟩⟩

/-! ### what is walked -/
def iSeq (F : DE) (tup : Bool) : DA := fun ρ Q => F ρ fun d => ∃ ds, d = (if tup then .tup ds else .lst ds) ∧ Q ds
theorem sim_itup {K : PySem.W.Frag} (h : SimE W te F) : SimI W (iTup K te) (iSeq F true) := fun s Qd q R k => h s q fun v d S' H' g r ⟨ds, e, q'⟩ => by
  rw [if_pos rfl] at e
  subst e
  obtain ⟨a, xs, rfl, hx, rs⟩ := r.of_tup
  refine ⟨a, rfl, ⟨xs, SqT.of (g.sub _ _ hx)⟩, k _ ds S' H' g (fun i S1 H1 ok sub e => ⟨fun hi => ?_, fun hi => ?_, fun x H2 hi y => ?_⟩) q'⟩
  · have hx1 : H1 a = some (.tup xs) := sub _ _ (e _ _ hx)
    rw [← rs.length] at hi
    exact ⟨xs, xs[i], SqT.of hx1, List.getElem?_eq_getElem hi⟩
  · have hx1 : H1 a = some (.tup xs) := sub _ _ (e _ _ hx)
    exact ⟨xs, SqT.of hx1, by rw [rs.length]; exact hi⟩
  · have hx1 : H1 a = some (.tup xs) := sub _ _ (e _ _ hx)
    obtain ⟨rfl, y⟩ := y
    obtain ⟨d, hd, rd⟩ := rs.getV (y xs (SqT.of hx1))
    exact ⟨d, S1, hd, Gr.refl ok sub, rd.mono e⟩
theorem sim_ilst {K : PySem.W.Frag} (h : SimE W te F) : SimI W (iList K te) (iSeq F false) := fun s Qd q R k => h s q fun v d S' H' g r ⟨ds, e, q'⟩ => by
  rw [if_neg Bool.false_ne_true] at e
  subst e
  obtain ⟨a, xs, rfl, hx, rs⟩ := r.of_lst
  refine ⟨a, rfl, ⟨xs, SqL.of (g.sub _ _ hx)⟩, k _ ds S' H' g (fun i S1 H1 ok sub e => ⟨fun hi => ?_, fun hi => ?_, fun x H2 hi y => ?_⟩) q'⟩
  · have hx1 : H1 a = some (.lst xs) := sub _ _ (e _ _ hx)
    rw [← rs.length] at hi
    exact ⟨xs, xs[i], SqL.of hx1, List.getElem?_eq_getElem hi⟩
  · have hx1 : H1 a = some (.lst xs) := sub _ _ (e _ _ hx)
    exact ⟨xs, SqL.of hx1, by rw [rs.length]; exact hi⟩
  · have hx1 : H1 a = some (.lst xs) := sub _ _ (e _ _ hx)
    obtain ⟨rfl, y⟩ := y
    obtain ⟨d, hd, rd⟩ := rs.getV (y xs (SqL.of hx1))
    exact ⟨d, S1, hd, Gr.refl ok sub, rd.mono e⟩
theorem ri_tup {K : PySem.W.Frag} {tg : Expr} (h : RE X W e te F) (hK : X.K = K := by rfl) : RI X W tg e (iTup K te) (iSeq F true) := hK ▸ ⟨pi_tup h.pe, sim_itup h.sim⟩
theorem ri_lst {K : PySem.W.Frag} {tg : Expr} (h : RE X W e te F) (hK : X.K = K := by rfl) : RI X W tg e (iList K te) (iSeq F false) := hK ▸ ⟨pi_list h.pe, sim_ilst h.sim⟩
def rng (lo hi : Int) : List D := (List.range (hi - lo).toNat).map fun i => .int (lo + (i : Nat))
def iR1 (F : DA) : DA := fun ρ Q => F ρ fun ds => ∃ n : Int, ds = [.int n] ∧ n ≤ 100000 ∧ -100000 ≤ n ∧ Q (rng 0 n)
def iR2 (F : DA) : DA := fun ρ Q => F ρ fun ds => ∃ a n : Int, ds = [.int a, .int n] ∧ (-100000 ≤ a ∧ a ≤ 100000 ∧ n ≤ 100000 ∧ -100000 ≤ n) ∧ Q (rng a n)
theorem rng_len (lo hi : Int) : (rng lo hi).length = (hi - lo).toNat := by unfold rng; rw [List.length_map, List.length_range]
theorem rng_get {lo hi : Int} {i : Nat} (h : i < (hi - lo).toNat) : (rng lo hi)[i]? = some (.int (lo + (i : Nat))) := by
  unfold rng
  rw [List.getElem?_map, List.getElem?_range h]
  rfl
theorem itr_ok {S' : Hp} {lo : Int} {n : Nat} {ds : List D} (hl : ds.length = n) (hg : ∀ i, i < n → ds[i]? = some (.int (lo + (i : Nat)))) : ∀ i S1 H1, W.ok H1 → Ex S1 H1 → Ex S' S1 → (i < ds.length → (Itr lo n).go i H1) ∧ (ds.length ≤ i → (Itr lo n).stop i H1) ∧ ∀ x H2, i < ds.length → (Itr lo n).yld i H1 x H2 → ∃ d S2, ds[i]? = some d ∧ Gr W S1 H1 S2 H2 ∧ Rep S2 x d :=
  fun i S1 H1 ok sub e => ⟨fun hi => by rw [hl] at hi; exact hi, fun hi => by rw [hl] at hi; exact hi, fun x H2 hi ⟨e1, e2⟩ => by
    subst e1; subst e2
    rw [hl] at hi
    exact ⟨_, S1, hg i hi, Gr.refl ok sub, .int _⟩⟩
theorem Reps.one {S : Hp} {xs : List V} {x : D} (r : Reps S xs [x]) : ∃ a, xs = [a] ∧ Rep S a x := by
  cases r with
  | cons h r =>
    cases r
    exact ⟨_, rfl, h⟩
theorem ri_r1 {tg a : Expr} {t : TA} {GA : DA} {p : Pos} (hm : X.mg "range" = none) (ha : RA X W [a] t GA) (hg : Gl X "range" := by rfl) (hs : starEach [a] X.env = [(false, eval a X.env)] := by rfl) : RI X W tg (.Call (.Name "range" p) [a] [] pos) (iRng1 t) (iR1 GA) :=
  ⟨pi_range1 hg hm ha.pe hs, fun s Qd q R k => ha.sim s q fun vs ds S' H' g r ⟨n, e, h1, h2, q'⟩ => by
    subst e
    obtain ⟨a', rfl, r1⟩ := r.one
    cases r1.of_int
    refine ⟨n, rfl, by omega, by omega, k _ (rng 0 n) S' H' g (itr_ok (by rw [rng_len]; simp) fun i hi => rng_get (by simpa using hi)) q'⟩⟩
theorem ri_r2 {tg a b : Expr} {t : TA} {GA : DA} {p : Pos} (hm : X.mg "range" = none) (ha : RA X W [a, b] t GA) (hg : Gl X "range" := by rfl) (hs : starEach [a, b] X.env = [(false, eval a X.env), (false, eval b X.env)] := by rfl) (hs2 : starEach [b] X.env = [(false, eval b X.env)] := by rfl) :
    RI X W tg (.Call (.Name "range" p) [a, b] [] pos) (iRng2 t) (iR2 GA) :=
  ⟨pi_range2 hg hm ha.pe hs hs2, fun s Qd q R k => ha.sim s q fun vs ds S' H' g r ⟨a', n, e, ⟨h1, h2, h3, h4⟩, q'⟩ => by
    subst e
    obtain ⟨x, y, rfl, r1, r2⟩ := r.two
    cases r1.of_int
    cases r2.of_int
    exact ⟨a', n, rfl, ⟨by omega, by omega, by omega, by omega⟩, k _ (rng a' n) S' H' g (itr_ok (rng_len _ _) fun i hi => rng_get hi) q'⟩⟩

/-! ### comprehensions -/
def dComp (I : DA) (g : DG) (C : DT) (F : DE) (vs : List Nat) : DA := fun ρ Q => I ρ fun ds => ds.length ≤ 100000 ∧ ∃ P : Nat → List D → Prop, P 0 [] ∧
  (∀ i d acc, ds[i]? = some d → P i acc → g d (wipeD ρ vs) fun ρ' => C ρ' fun b => if b = true then F ρ' fun y => P (i + 1) (acc ++ [y]) else P (i + 1) acc) ∧ ∀ acc, P ds.length acc → Q acc
/-- a target's reading that stores slots of vs alone -/
def GIn (g : TG) (vs : List Nat) : Prop := ∀ (v : V) (σ : L2.St) (H : Hp) (Q : L2.St → Hp → Prop), g v (L2.wipe σ vs) H Q → g v (L2.wipe σ vs) H fun σ2 H2 => L2.wipe σ2 vs = L2.wipe σ vs ∧ Q σ2 H2
theorem wipe_set_in {i : Nat} {o : Option V} : ∀ {vs : List Nat} {σ : L2.St}, i ∈ vs → L2.wipe (σ.set i o) vs = L2.wipe σ vs
  | v :: vs, σ, h => by
    by_cases hv : i ∈ vs
    · show (L2.wipe (σ.set i o) vs).set v none = (L2.wipe σ vs).set v none
      rw [wipe_set_in hv]
    · have e : i = v := by
        rcases List.mem_cons.mp h with h | h
        · exact h
        · exact absurd h hv
      subst e
      have hs : ∀ (vs : List Nat) (σ : L2.St), i ∉ vs → L2.wipe (σ.set i o) vs = (L2.wipe σ vs).set i o := by
        intro vs
        induction vs with
        | nil => intro σ _; rfl
        | cons w ws ih =>
          intro σ hn
          have h1 : i ≠ w := fun z => hn (z ▸ List.mem_cons_self)
          have h2 : i ∉ ws := fun z => hn (List.mem_cons_of_mem _ z)
          show (L2.wipe (σ.set i o) ws).set w none = ((L2.wipe σ ws).set w none).set i o
          rw [ih σ h2, List.set_comm _ _ h1]
      show (L2.wipe (σ.set i o) vs).set i none = (L2.wipe σ vs).set i none
      rw [hs vs σ hv, List.set_set]
theorem wipe_wipe : ∀ {vs ws : List Nat} {σ : L2.St}, (∀ i ∈ ws, i ∈ vs) → L2.wipe (L2.wipe σ ws) vs = L2.wipe σ vs
  | vs, [], σ, _ => rfl
  | vs, w :: ws, σ, h => by
    show L2.wipe ((L2.wipe σ ws).set w none) vs = L2.wipe σ vs
    rw [wipe_set_in (h w List.mem_cons_self), wipe_wipe fun i hi => h i (List.mem_cons_of_mem _ hi)]
theorem gin_name {i : Nat} {vs : List Nat} (h : i ∈ vs) : GIn (gName i) vs := fun v σ H Q q => ⟨by rw [wipe_set_in h, wipe_wipe fun _ z => z], q⟩
theorem gin_tup2 {K : PySem.W.Frag} {i j : Nat} {vs : List Nat} (h1 : i ∈ vs) (h2 : j ∈ vs) : GIn (gTup K 2 (gCons (gName i) (gCons (gName j) gNil))) vs := fun v σ H Q q => by
  obtain ⟨a, xs, e, hs, hl, x, r, e1, y, r2, e2, e3, q⟩ := q
  exact ⟨a, xs, e, hs, hl, x, r, e1, y, r2, e2, e3, by rw [wipe_set_in h2, wipe_set_in h1, wipe_wipe fun _ z => z], q⟩
theorem Gr.updM {S H S1 H1 : Hp} {l : Addr} {o : HO} (g : Gr W S H S1 H1) (n : H l = none) (n1 : S1 l = none) (ok : W.ok H) : Gr W S H S1 (upd H1 l o) := by
  have nW : ¬ W.at_ l := fun w => by
    obtain ⟨o', h'⟩ := W.dom H l ok w
    rw [n] at h'; cases h'
  refine ⟨fun a u w h => ?_, W.loc H1 _ (fun a w => upd_ne fun z => nW (z ▸ w)) g.ok, fun a u h => ?_, g.st, g.ss⟩
  · rw [upd_ne (ne_of_none h n)]; exact g.ex a u w h
  · rw [upd_ne (ne_of_none h n1)]; exact g.sub a u h
theorem sim_lc {wi : TI} {I : DA} {g : TG} {gd : DG} {tt : TT} {C : DT} {vs : List Nat} (hi : SimI W wi I) (hg : SimG W g gd) (hw : GIn g vs) (ht : SimT W tt C) (he : SimE W te F) : SimL W (tLc wi g tt te vs) (dComp I gd C F vs) :=
  fun {B S0 ρ σ S H} s Qd q Q k => hi s q fun J ds S1 H1 g1 hJ ⟨hlen, P, p0, step, fin⟩ => fun Dl hD => by
    have s1 := s.gr g1
    refine ⟨fun i m H' => m = ds.length - i ∧ i ≤ ds.length ∧ ∃ S' xs acc, Gr W S1 H1 S' H' ∧ S' Dl = none ∧ H' Dl = some (.lst xs) ∧ Reps S' xs acc ∧ acc.length ≤ i ∧ P i acc, ⟨ds.length, by simp, Nat.zero_le _, S1, [], [], Gr.newM g1.ok g1.sub hD, g1.sub.free hD, upd_same, .nil, Nat.le_refl _, p0⟩, ?_⟩
    rintro i m H2 ⟨rfl, hi, S2, xs, acc, g2, n2, l2, r2, hl2, p2⟩
    have s2 := (s1.gr g2).wipe vs
    obtain ⟨j1, j2, j3⟩ := hJ i S2 H2 g2.ok g2.sub (g2.exS g1.sub)
    have nW : ¬ W.at_ Dl := fun w => by
      obtain ⟨o', h'⟩ := W.dom H1 Dl g1.ok w
      rw [hD] at h'; cases h'
    by_cases hlt : i < ds.length
    · refine .inr ⟨j1 hlt, fun H' => ∃ S' xs acc, Gr W S1 H1 S' H' ∧ S' Dl = none ∧ H' Dl = some (.lst xs) ∧ Reps S' xs acc ∧ acc.length ≤ i + 1 ∧ P (i + 1) acc, fun H' z => ⟨ds.length - (i + 1), by omega, rfl, hlt, z⟩, fun x H3 y => ?_⟩
      obtain ⟨d, S3, hd, g3, r3⟩ := j3 x H3 hlt y
      refine hw _ _ _ _ (hg (s2.gr g3) r3 (step i d acc hd p2) fun ρ4 σ4 s4 q4 => ?_)
      refine ht s4 q4 fun b S5 H5 g5 q5 => ?_
      have l3 : H3 Dl = some (.lst xs) := g3.ex _ _ nW l2
      have l5 : H5 Dl = some (.lst xs) := g5.ex _ _ nW l3
      have n3 : S3 Dl = none := (g3.st _ ⟨_, l2, .inr fun _ z => nomatch z⟩).trans n2
      have n5 : S5 Dl = none := (g5.st _ ⟨_, l3, .inr fun _ z => nomatch z⟩).trans n3
      have g25 := (g2.trans g3).trans g5
      have r5 : Reps S5 xs acc := r2.mono ((g3.exS g2.sub).trans (g5.exS g3.sub))
      cases b with
      | false => exact ⟨S5, xs, acc, g25, n5, l5, r5, by omega, q5⟩
      | true =>
        refine he (s4.gr g5) q5 fun v y' S6 H6 g6 r6 q6 => ?_
        have l6 : H6 Dl = some (.lst xs) := g6.ex _ _ nW l5
        have n6 : S6 Dl = none := (g6.st _ ⟨_, l5, .inr fun _ z => nomatch z⟩).trans n5
        refine ⟨xs, l6, smallLt _ (by rw [r5.length]; omega), S6, xs ++ [v], acc ++ [y'], (g25.trans g6).updM hD n6 g1.ok, n6, upd_same, (r5.mono (g6.exS g5.sub)).append (.cons r6 .nil), by rw [List.length_append]; simp; omega, q6⟩
    · have e : i = ds.length := by omega
      subst e
      refine .inl ⟨j2 (Nat.le_refl _), k Dl xs acc S2 H2 (g1.trans g2) (g1.back hD) n2 l2 r2 (fin acc p2)⟩
def tYesD : DT := fun _ Q => Q true
theorem rts_nil : RTs X W [] tYes tYesD := ⟨pts_nil, fun s Qd q Q k => k true _ _ s.refl q⟩
theorem rts_one {c : Expr} {t : TT} {C : DT} (h : RT X W c t C) : RTs X W [c] t C := ⟨pts_one h.pe, h.sim⟩
theorem rl_lc {elt tg iter : Expr} {ifs : List Expr} {scope : Scope} {own : List (Str × Nat)} {wi : TI} {I : DA} {g : TG} {gd : DG} {tt : TT} {C : DT} (hN : X.N.Nodup) (hi : RI X W tg iter wi I) (ok : BlkOk X.N X.env.scope scope own) (hw : GIn g (own.map (·.2)))
    (hg : ∀ (s : Shared) (H : Hp) (C' : Addr) (cl : List (Str × Addr)) (fp : List Addr), RG (X.blk s H scope (compEnvC scope cl C' X.env) fp) W tg g gd) (ht : ∀ (s : Shared) (H : Hp) (C' : Addr) (cl : List (Str × Addr)) (fp : List Addr), RTs (X.blk s H scope (compEnvC scope cl C' X.env) fp) W ifs tt C)
    (he : ∀ (s : Shared) (H : Hp) (C' : Addr) (cl : List (Str × Addr)) (fp : List Addr), RE (X.blk s H scope (compEnvC scope cl C' X.env) fp) W elt te F) (hc : X.calm = true := by rfl) (hs : ∀ x, foldedSetIterable iter X.env x = pure x := by intro _; rfl) :
    RL X W (.ListComp elt [⟨tg, iter, ifs, 0⟩] scope pos) (tLc wi g tt te (own.map (·.2))) (dComp I gd C F (own.map (·.2))) :=
  ⟨pe_lc hc hN hi.pe ok (fun s H C cl fp => (hg s H C cl fp).pe) (fun s H C cl fp => (ht s H C cl fp).pe) (fun s H C cl fp => (he s H C cl fp).pe) hs, sim_lc hi.sim (hg X.s_0 X.H_0 0 [] []).sim hw (ht X.s_0 X.H_0 0 [] []).sim (he X.s_0 X.H_0 0 [] []).sim⟩
end
end NR
/-! Operations on data: items, lengths, isinstance, membership, emptiness, concatenation, slices, built-ins, changes of a def's own lists and dicts, calls of defs. -/
namespace NR
open PySem PySem.Spec PyProof.Rows L2

/-! ### pure helpers -/
def dIs (ns : List Int) : List D := ns.map D.int
def sortI (ns : List Int) : List Int := ns.mergeSort fun a b => decide (a ≤ b)
theorem sortI_perm (ns : List Int) : (sortI ns).Perm ns := List.mergeSort_perm ns _
theorem sortI_sorted (ns : List Int) : (sortI ns).Pairwise (· ≤ ·) := by
  have h := List.pairwise_mergeSort (le := fun (a b : Int) => decide (a ≤ b)) (fun a b c h1 h2 => by simp at *; omega) (fun a b => by simp; omega) ns
  exact h.imp fun h => of_decide_eq_true h
theorem sorted_unique : ∀ {a b : List Int}, a.Perm b → a.Pairwise (· ≤ ·) → b.Pairwise (· ≤ ·) → a = b
  | [], b, p, _, _ => by rw [List.nil_perm.mp p]
  | x :: a, [], p, _, _ => absurd (List.perm_nil.mp p) (List.cons_ne_nil _ _)
  | x :: a, y :: b, p, h1, h2 => by
    have hx := List.pairwise_cons.mp h1
    have hy := List.pairwise_cons.mp h2
    have e : x = y := by
      have mx : x ∈ y :: b := p.mem_iff.mp List.mem_cons_self
      have my : y ∈ x :: a := p.mem_iff.mpr List.mem_cons_self
      rcases List.mem_cons.mp mx with e | mx
      · exact e
      · rcases List.mem_cons.mp my with e | my
        · exact e.symm
        · have a1 := hx.1 y my
          have a2 := hy.1 x mx
          omega
    subst e
    rw [sorted_unique (List.perm_cons x |>.mp p) hx.2 hy.2]
theorem sortI_eq {ns ns' : List Int} (p : ns'.Perm ns) (h : ns'.Pairwise (· ≤ ·)) : ns' = sortI ns := sorted_unique (p.trans (sortI_perm ns).symm) h (sortI_sorted ns)
def maxI : List Int → Int
  | [] => 0
  | [x] => x
  | x :: y :: r => max x (maxI (y :: r))
def minI : List Int → Int
  | [] => 0
  | [x] => x
  | x :: y :: r => min x (minI (y :: r))
theorem maxI_mem : ∀ {ns : List Int}, ns ≠ [] → maxI ns ∈ ns
  | [], h => absurd rfl h
  | [x], _ => List.mem_cons_self
  | x :: y :: r, _ => by
    have ih := maxI_mem (ns := y :: r) (by simp)
    show max x (maxI (y :: r)) ∈ _
    rcases Int.le_total x (maxI (y :: r)) with h | h
    · rw [Int.max_eq_right h]; exact List.mem_cons_of_mem _ ih
    · rw [Int.max_eq_left h]; exact List.mem_cons_self
theorem le_maxI : ∀ {ns : List Int} {y : Int}, y ∈ ns → y ≤ maxI ns
  | [x], y, h => by rw [List.mem_singleton.mp h]; exact Int.le_refl _
  | x :: z :: r, y, h => by
    show y ≤ max x (maxI (z :: r))
    rcases List.mem_cons.mp h with e | h
    · rw [e]; exact Int.le_max_left _ _
    · exact Int.le_trans (le_maxI h) (Int.le_max_right _ _)
theorem minI_mem : ∀ {ns : List Int}, ns ≠ [] → minI ns ∈ ns
  | [], h => absurd rfl h
  | [x], _ => List.mem_cons_self
  | x :: y :: r, _ => by
    have ih := minI_mem (ns := y :: r) (by simp)
    show min x (minI (y :: r)) ∈ _
    rcases Int.le_total x (minI (y :: r)) with h | h
    · rw [Int.min_eq_left h]; exact List.mem_cons_self
    · rw [Int.min_eq_right h]; exact List.mem_cons_of_mem _ ih
theorem minI_le : ∀ {ns : List Int} {y : Int}, y ∈ ns → minI ns ≤ y
  | [x], y, h => by rw [List.mem_singleton.mp h]; exact Int.le_refl _
  | x :: z :: r, y, h => by
    show min x (minI (z :: r)) ≤ y
    rcases List.mem_cons.mp h with e | h
    · rw [e]; exact Int.min_le_left _ _
    · exact Int.le_trans (Int.min_le_right _ _) (minI_le h)
theorem maxI_eq {ns : List Int} {m : Int} (h1 : m ∈ ns) (h2 : ∀ y, y ∈ ns → y ≤ m) : m = maxI ns := by
  have a := h2 _ (maxI_mem (fun e => by rw [e] at h1; cases h1))
  have b := le_maxI h1
  omega
theorem minI_eq {ns : List Int} {m : Int} (h1 : m ∈ ns) (h2 : ∀ y, y ∈ ns → m ≤ y) : m = minI ns := by
  have a := h2 _ (minI_mem (fun e => by rw [e] at h1; cases h1))
  have b := minI_le h1
  omega

/-! ### data as the library's data, for == -/
mutual
def D.py : D → PyData
  | .bl b => .bool b
  | .int i => .int i
  | .str x => .str x
  | .tup xs => .tuple (pys xs)
  | .lst xs => .list (pys xs)
  | _ => .none
def pys : List D → List PyData
  | [] => []
  | d :: ds => d.py :: pys ds
end
mutual
def D.plain : D → Bool
  | .non => true
  | .bl _ => true
  | .int _ => true
  | .str _ => true
  | .tup xs => plains xs
  | .lst xs => plains xs
  | _ => false
def plains : List D → Bool
  | [] => true
  | d :: ds => d.plain && plains ds
end
mutual
theorem Rep.dp {K : PySem.W.Frag} {S : Hp} : ∀ {v : V} {d : D}, Rep S v d → d.plain = true → Dp K S v d.py
  | _, _, .non, _ => .non
  | _, _, .bl b, _ => .bl b
  | _, _, .int i, _ => .int i
  | _, _, .str x, _ => .str x
  | _, _, .tup h r, p => .tup (SqT.of h) (Reps.dp r p)
  | _, _, .lst h r, p => .lst (SqL.of h) (Reps.dp r p)
theorem Reps.dp {K : PySem.W.Frag} {S : Hp} : ∀ {vs : List V} {ds : List D}, Reps S vs ds → plains ds = true → DpAll K S vs (pys ds)
  | _, _, .nil, _ => .nil
  | _, _, .cons h r, p => by
    have p' := Bool.and_eq_true_iff.mp p
    exact .cons (Rep.dp h p'.1) (Reps.dp r p'.2)
end
/-- a list that may be told from [] -/
def D.okE (d : D) : Bool := d.plain && SeqAt.shaped d.py
theorem eqv_nil (ds : List D) : PyData.eqv (D.lst ds).py (D.lst []).py = ds.isEmpty := by
  cases ds with
  | nil => rfl
  | cons a r => rfl
theorem pys_ints : ∀ ns : List Int, pys (dIs ns) = ns.map .int
  | [] => rfl
  | n :: ns => by show (D.int n).py :: pys (dIs ns) = PyData.int n :: _; rw [pys_ints ns]; rfl
theorem plains_ints : ∀ ns : List Int, plains (dIs ns) = true
  | [] => rfl
  | n :: ns => plains_ints ns

section
variable {X : Cx} {W : Wc} {e ea eb ec : Expr} {pos : Pos} {ta tb tc te : TE} {F G : DE} {st : Stmt} {rest : List Stmt} {t u : TS} {T U : DS}
/-! ### items, lengths, types -/
def fIx : D → D → (D → Prop) → Prop := fun x y Q => ∃ ds i d, (x = .tup ds ∨ x = .lst ds) ∧ y = .int i ∧ atI ds i = some d ∧ Q d
theorem Reps.atI {S : Hp} {vs : List V} {ds : List D} (r : Reps S vs ds) {i : Int} {d : D} (h : atI ds i = some d) : ∃ v, L2.atI vs i = some v ∧ Rep S v d := by
  unfold L2.atI at h ⊢
  rw [r.length]
  cases e : ixN ds.length i with
  | none => rw [e] at h; cases h
  | some j =>
    rw [e] at h
    exact r.get h
def rIxD (K : PySem.W.Frag) : R2 := fun x y H Q => rIxL K x y H Q ∨ rIxT K x y H Q
theorem re_ix {K : PySem.W.Frag} (ha : RE X W ea ta F) (hb : RE X W eb tb G) (hK : X.K = K := by rfl) (hs : PlainIx eb := by exact fun _ _ => rfl) : RE X W (.Subscript ea eb pos) (tOp (rIxD K) ta tb) (dOp2 fIx F G) := hK ▸
  ⟨pe_ix (ix_list.or ix_tup) ha.pe hb.pe hs, sim_op ha.sim hb.sim fun ok sub rx ry Qd q Q k => by
    obtain ⟨ds, i, d, e1, rfl, hi, q⟩ := q
    cases ry.of_int
    rcases e1 with rfl | rfl
    · obtain ⟨a, xs, rfl, h, r⟩ := rx.of_tup
      obtain ⟨v, hv, rv⟩ := r.atI hi
      exact .inr ⟨a, xs, i, v, rfl, rfl, SqT.of (sub _ _ h), hv, k v d _ _ (Gr.refl ok sub) rv q⟩
    · obtain ⟨a, xs, rfl, h, r⟩ := rx.of_lst
      obtain ⟨v, hv, rv⟩ := r.atI hi
      exact .inl ⟨a, xs, i, v, rfl, rfl, SqL.of (sub _ _ h), hv, k v d _ _ (Gr.refl ok sub) rv q⟩⟩
def fLen : List D → (D → Prop) → Prop := fun ds Q => ∃ xs, (ds = [.tup xs] ∨ ds = [.lst xs]) ∧ Q (.int xs.length)
def rLenD (K : PySem.W.Frag) : List V → Hp → VK → Prop := fun xs H Q => ∃ p ys, xs = [.ref p] ∧ (SqL K H p ys ∨ SqT K H p ys) ∧ Q (.int ys.length) H
theorem re_len {K : PySem.W.Frag} {t : TA} {FA : DA} {p : Pos} (hm : X.mg "len" = none) (ha : RA X W [e] t FA) (hK : X.K = K := by rfl) (hg : Gl X "len" := by rfl) (he : starEach (e :: []) X.env = (false, eval e X.env) :: starEach [] X.env := by rfl) (hpl : (backTo pos (starEach [] X.env)).any (·.1) = false := by rfl) :
    RE X W (.Call (.Name "len" p) [e] [] pos) (tCB (rLenD K) t) (dCB fLen FA) := hK ▸
  ⟨pe_callB call_len_seq hg hm PySem.boot_len ha.pe (he := he) (hpl := hpl), sim_cb ha.sim fun ok sub r Qd q Q k => by
    obtain ⟨xs, e1, q⟩ := q
    rcases e1 with rfl | rfl
    · obtain ⟨v, rfl, r1⟩ := r.one
      obtain ⟨a, ys, rfl, h, rs⟩ := r1.of_tup
      exact ⟨a, ys, rfl, .inr (SqT.of (sub _ _ h)), by rw [rs.length]; exact k _ _ _ _ (Gr.refl ok sub) (.int _) q⟩
    · obtain ⟨v, rfl, r1⟩ := r.one
      obtain ⟨a, ys, rfl, h, rs⟩ := r1.of_lst
      exact ⟨a, ys, rfl, .inl (SqL.of (sub _ _ h)), by rw [rs.length]; exact k _ _ _ _ (Gr.refl ok sub) (.int _) q⟩⟩
def D.tyn : D → String
  | .non => "NoneType" | .bl _ => "bool" | .int _ => "int" | .str _ => "str" | .tup _ => "tuple" | .lst _ => "list" | .dk _ => "dict" | .dt _ => "dict" | _ => ""
def isaB (a b : String) : Bool := a == b || (a == "bool" && b == "int")
def D.isa (d : D) (T : String) : Bool := isaB d.tyn T
theorem Rep.tyOf {K : PySem.W.Frag} {S H : Hp} (sub : Ex S H) {v : V} {d : D} (r : Rep S v d) (h : d.tyn ≠ "") : TyX K H v (.type d.tyn) := by
  cases r with
  | non => exact .base .non
  | bl b => exact .base (.bl b)
  | int i => exact .base (.int i)
  | str x => exact .base (.str x)
  | raw a => exact absurd rfl h
  | ty n => exact absurd rfl h
  | tup e _ => exact .base (.tup (sub _ _ e))
  | lst e _ => exact .base (.lst (sub _ _ e))
  | dk e => exact .base (.dK (sub _ _ e))
  | dt e => exact .base (.dT (sub _ _ e))
theorem kit_all : ∀ a ∈ ["NoneType", "bool", "int", "str", "tuple", "list", "dict"], ∀ b ∈ ["bool", "int", "str", "tuple", "list"], kitB a b = some (isaB a b) := by decide +kernel
theorem tyn_in (d : D) (h : d.tyn ≠ "") : d.tyn ∈ ["NoneType", "bool", "int", "str", "tuple", "list", "dict"] := by
  cases d <;> first | (exact absurd rfl h) | (show _ ∈ _; simp [D.tyn])
def fIsi : List D → (D → Prop) → Prop := fun ds Q => ∃ x, x.tyn ≠ "" ∧ ((∃ T, ds = [x, .ty T] ∧ T ∈ ["bool", "int", "str", "tuple", "list"] ∧ Q (.bl (x.isa T))) ∨
  ∃ T U, ds = [x, .tup [.ty T, .ty U]] ∧ T ∈ ["bool", "int", "str", "tuple", "list"] ∧ U ∈ ["bool", "int", "str", "tuple", "list"] ∧ Q (.bl (x.isa T || x.isa U)))
theorem Rep.of_ty {S : Hp} {v : V} {n : String} (r : Rep S v (.ty n)) : v = .ty n := by cases r; rfl
def rIsiD (K : PySem.W.Frag) : List V → Hp → VK → Prop := fun xs H Q => rIsi K xs H Q ∨ rIsiT K xs H Q
theorem re_isi {K : PySem.W.Frag} {e2 : Expr} {t : TA} {FA : DA} {p : Pos} (hm : X.mg "isinstance" = none) (ha : RA X W [e, e2] t FA) (hK : X.K = K := by rfl) (hg : Gl X "isinstance" := by rfl) (he : starEach [e, e2] X.env = (false, eval e X.env) :: starEach [e2] X.env := by rfl) (hpl : (backTo pos (starEach [e2] X.env)).any (·.1) = false := by rfl) :
    RE X W (.Call (.Name "isinstance" p) [e, e2] [] pos) (tCB (rIsiD K) t) (dCB fIsi FA) := hK ▸
  ⟨pe_callB (call_isi.or call_isiT) hg hm (by decide +kernel) ha.pe (he := he) (hpl := hpl), sim_cb ha.sim fun ok sub r Qd q Q k => by
    obtain ⟨x, hx, q⟩ := q
    rcases q with ⟨T, rfl, hT, q⟩ | ⟨T, U, rfl, hT, hU, q⟩
    · obtain ⟨v, w, rfl, r1, r2⟩ := r.two
      cases r2.of_ty
      exact .inl ⟨v, .ty T, _, _, x.isa T, rfl, .ty T, r1.tyOf sub hx, kit_ty (kit_all _ (tyn_in x hx) _ hT), k _ _ _ _ (Gr.refl ok sub) (.bl _) q⟩
    · obtain ⟨v, w, rfl, r1, r2⟩ := r.two
      obtain ⟨a, xs, rfl, h, rs⟩ := r2.of_tup
      obtain ⟨c1, c2, rfl, q1, q2⟩ := rs.two
      cases q1.of_ty
      cases q2.of_ty
      refine .inr ⟨v, a, [.ty T, .ty U], _, [.type T, .type U], x.isa T || x.isa U, rfl, sub _ _ h, .cons (.ty T) (.cons (.ty U) .nil), r1.tyOf sub hx, ?_, k _ _ _ _ (Gr.refl ok sub) (.bl _) q⟩
      refine kitAny_cons (b := x.isa T) (kit_ty (kit_all _ (tyn_in x hx) _ hT)) (fun e => ?_) fun e => by rw [e]; rfl
      refine kitAny_cons (b := x.isa U) (kit_ty (kit_all _ (tyn_in x hx) _ hU)) (fun e2 => ?_) fun e2 => by rw [e2, Bool.or_true]
      rw [e, e2]
      exact kitAny_nil⟩
theorem re_bty {x : Str} {n : String} (hm : X.mg x = none) (hv : bootBuiltins x = some (.type n)) (hg : Gl X x := by rfl) (hn : x ≠ "__name__" := by decide) (hd : (x == ("__debug__" : Str)) = false := by decide) : RE X W (.Name x pos) (tC (.ty n)) (dC (.ty n)) :=
  ⟨pe_bltn hg hm hv rfl hn hd, sim_c fun _ => .ty n⟩

/-! ### in, not in: dIs in a list or tuple of dIs -/
def fIn (neg : Bool) : D → D → (D → Prop) → Prop := fun x y Q => ∃ i ns, x = .int i ∧ (y = .lst (dIs ns) ∨ y = .tup (dIs ns)) ∧ Q (.bl (if neg then !decide (i ∈ ns) else decide (i ∈ ns)))
theorem flat_ints (ns : List Int) : (ns.map V.int).all flatV = true := by
  rw [List.all_map]
  exact List.all_eq_true.mpr fun _ _ => rfl
theorem inV_ints (i : Int) (ns : List Int) : inV (.int i) (ns.map V.int) = decide (i ∈ ns) := by
  unfold inV
  rw [List.any_map]
  induction ns with
  | nil => rfl
  | cons n ns ih =>
    rw [List.any_cons, ih]
    show ((n == i) || _) = _
    by_cases h : n = i
    · subst h; simp
    · have h' : i ≠ n := fun z => h z.symm
      simp [h, h']
theorem simIn {K : PySem.W.Frag} (neg : Bool) : SimR2 W (rIn K neg) (fIn neg) := fun ok sub rx ry Qd q Q k => by
  obtain ⟨i, ns, rfl, e, q⟩ := q
  cases rx.of_int
  rcases e with rfl | rfl
  · obtain ⟨a, xs, rfl, h, r⟩ := ry.of_lst
    cases r.of_ints
    refine ⟨a, _, rfl, .inl (SqL.of (sub _ _ h)), rfl, flat_ints ns, ?_⟩
    rw [inV_ints]
    refine k _ (.bl (if neg then !decide (i ∈ ns) else decide (i ∈ ns))) _ _ (Gr.refl ok sub) (.bl _) q
  · obtain ⟨a, xs, rfl, h, r⟩ := ry.of_tup
    cases r.of_ints
    refine ⟨a, _, rfl, .inr (SqT.of (sub _ _ h)), rfl, flat_ints ns, ?_⟩
    rw [inV_ints]
    refine k _ (.bl (if neg then !decide (i ∈ ns) else decide (i ∈ ns))) _ _ (Gr.refl ok sub) (.bl _) q
theorem o_in {K : PySem.W.Frag} (hK : X.K = K := by rfl) : Op2 X W (compareOp .In) (rIn K false) (fIn false) := hK ▸ ⟨op_in_seq, simIn false⟩
theorem o_notIn {K : PySem.W.Frag} (hK : X.K = K := by rfl) : Op2 X W (compareOp .NotIn) (rIn K true) (fIn true) := hK ▸ ⟨op_notIn_seq, simIn true⟩

/-! ### == [], != [] -/
def fEqN (neg : Bool) : D → D → (D → Prop) → Prop := fun x y Q => ∃ ds, x = .lst ds ∧ y = .lst [] ∧ (D.lst ds).okE = true ∧ Q (.bl (if neg then !ds.isEmpty else ds.isEmpty))
theorem okE_plain {d : D} (h : d.okE = true) : d.plain = true := (Bool.and_eq_true_iff.mp h).1
theorem okE_shaped {d : D} (h : d.okE = true) : SeqAt.shaped d.py = true := (Bool.and_eq_true_iff.mp h).2
theorem Dp.mono_sub {K : PySem.W.Frag} {S H : Hp} {v : V} {d : D} (sub : Ex S H) (r : Rep S v d) (p : d.plain = true) : Dp K H v d.py := (r.mono sub).dp p
theorem o_eqN {K : PySem.W.Frag} (hu : X.A.units + 64 < cLine) (hK : X.K = K := by rfl) : Op2 X W (compareOp .Eq) (rEqD K) (fEqN false) := hK ▸ ⟨op_eqD hu, fun ok sub rx ry Qd q Q k => by
  obtain ⟨ds, rfl, rfl, h, q⟩ := q
  refine ⟨_, _, Dp.mono_sub sub rx (okE_plain h), Dp.mono_sub sub ry rfl, okE_shaped h, by decide, ?_⟩
  rw [eqv_nil]
  exact k _ _ _ _ (Gr.refl ok sub) (.bl _) q⟩
theorem o_neN {K : PySem.W.Frag} (hu : X.A.units + 64 < cLine) (hK : X.K = K := by rfl) : Op2 X W (compareOp .NotEq) (rNeD K) (fEqN true) := hK ▸ ⟨op_neD hu, fun ok sub rx ry Qd q Q k => by
  obtain ⟨ds, rfl, rfl, h, q⟩ := q
  refine ⟨_, _, Dp.mono_sub sub rx (okE_plain h), Dp.mono_sub sub ry rfl, okE_shaped h, by decide, ?_⟩
  rw [eqv_nil]
  exact k _ _ _ _ (Gr.refl ok sub) (.bl _) q⟩
/-- .. of a list of the def's own -/
def dEmptyM (i : Nat) (neg : Bool) : DT := fun ρ Q => ∃ ds, ρ[i]? = some (.ml ds) ∧ (D.lst ds).okE = true ∧ Q (if neg then !ds.isEmpty else ds.isEmpty)
theorem sim_emptyM {i : Nat} {r : R2} (neg : Bool) (hr : ∀ (x y : V) (H : Hp) (Q : VK) (dx : D), Dp X.K H x dx.py → SeqAt.shaped dx.py = true → Dp X.K H y (D.lst []).py → Q (.bl (if neg then !PyData.eqv dx.py (D.lst []).py else PyData.eqv dx.py (D.lst []).py)) H → r x y H Q) :
    SimT W (tTest (tOp r (tVar i) (tLst tNil))) (dEmptyM i neg) := fun {B S0 ρ σ S H} s Qd q Q k => by
  obtain ⟨ds, e, h, q⟩ := q
  obtain ⟨l, hσ, _, w, n, xs, hl, rs⟩ := s.sl i _ e
  refine ⟨.ref l, hσ, Nat.zero_le _, fun p np => ?_⟩
  have g := Gr.newM s.ok s.sub np (o := .lst [])
  have hlp : l ≠ p := ne_of_none hl np
  refine hr _ _ _ _ (.lst ds) ?_ (okE_shaped h) (.lst (SqL.of upd_same) .nil) ⟨_, rfl, ?_⟩
  · have rs' : Reps (upd H p (.lst [])) xs ds := rs.mono (s.sub.trans (ex_upd np))
    exact .lst (SqL.of (by rw [upd_ne hlp]; exact hl)) (rs'.dp (okE_plain h))
  · rw [eqv_nil]
    exact k _ S _ g q
theorem rt_eqM {i : Nat} {x : Str} {p p2 : Pos} (hu : X.A.units + 64 < cLine) (hN : X.N[i]? = some x := by rfl) (hv : Vis X.env.scope x := by first | exact Or.inl rfl | exact Or.inr (Or.inl rfl) | exact Or.inr (Or.inr rfl)) (hd : (x == ("__debug__" : Str)) = false := by decide)
    (hcd : (x == ("__classdict__" : Str)) = false := by decide) : RT X W (.Compare (.Name x p) [.Eq] [.List [] p2] pos) (tTest (tOp (rEqD X.K) (tVar i) (tLst tNil))) (dEmptyM i false) :=
  ⟨pt_cmpR (op_eqD hu) (pe_var hN hv hd hcd) (pe_lst pa_nil) (nomark _), sim_emptyM (X := X) false fun x y H Q dx h1 h2 h3 q => ⟨_, _, h1, h3, h2, by decide, q⟩⟩
theorem rt_neM {i : Nat} {x : Str} {p p2 : Pos} (hu : X.A.units + 64 < cLine) (hN : X.N[i]? = some x := by rfl) (hv : Vis X.env.scope x := by first | exact Or.inl rfl | exact Or.inr (Or.inl rfl) | exact Or.inr (Or.inr rfl)) (hd : (x == ("__debug__" : Str)) = false := by decide)
    (hcd : (x == ("__classdict__" : Str)) = false := by decide) : RT X W (.Compare (.Name x p) [.NotEq] [.List [] p2] pos) (tTest (tOp (rNeD X.K) (tVar i) (tLst tNil))) (dEmptyM i true) :=
  ⟨pt_cmpR (op_neD hu) (pe_var hN hv hd hcd) (pe_lst pa_nil) (nomark _), sim_emptyM (X := X) true fun x y H Q dx h1 h2 h3 q => ⟨_, _, h1, h3, h2, by decide, q⟩⟩

/-! ### t + u, xs + ys, slices of tuples, t <= u -/
def fCatT : D → D → (D → Prop) → Prop := fun x y Q => ∃ ds es, x = .tup ds ∧ y = .tup es ∧ ds.length + es.length ≤ 100000 ∧ Q (.tup (ds ++ es))
theorem o_catT {K : PySem.W.Frag} (hK : X.K = K := by rfl) : Op2 X W (binaryOp .Add) (rCatA K) fCatT := hK ▸ ⟨op_catA, fun {S H x y dx dy} ok sub rx ry Qd q Q k => by
  obtain ⟨ds, es, rfl, rfl, hl, q⟩ := q
  obtain ⟨a, xs, rfl, h1, r1⟩ := rx.of_tup
  obtain ⟨b, ys, rfl, h2, r2⟩ := ry.of_tup
  refine ⟨a, b, xs, ys, rfl, rfl, SqT.of (sub _ _ h1), SqT.of (sub _ _ h2), small _ (by rw [r1.length, r2.length]; exact hl), fun e => ?_, fun _ e => ?_, fun _ _ p np => ?_⟩
  · subst e
    cases r1
    exact k _ _ _ _ (Gr.refl ok sub) ry q
  · subst e
    cases r2
    rw [List.append_nil] at q
    exact k _ _ _ _ (Gr.refl ok sub) rx q
  · exact k _ _ _ _ (Gr.new ok sub np) (.tup upd_same ((r1.append r2).mono (ex_upd (sub.free np)))) q⟩
def aCat (F G : DE) : DA := fun ρ Q => F ρ fun x => G ρ fun y => ∃ ds es, x = .lst ds ∧ y = .lst es ∧ ds.length + es.length ≤ 100000 ∧ Q (ds ++ es)
theorem rl_cat (ha : RE X W ea ta F) (hb : RE X W eb tb G) : RL X W (.BinOp ea .Add eb pos) (tOp rCat ta tb) (aCat F G) := ⟨pe_op op_cat ha.pe hb.pe, fun s Qd q Q k =>
  ha.sim s q fun x dx S1 H1 g1 r1 q1 => hb.sim (s.gr g1) q1 fun y dy S2 H2 g2 r2 ⟨ds, es, e1, e2, hl, q2⟩ => by
    subst e1; subst e2
    obtain ⟨a, xs, rfl, h1, r1⟩ := (r1.mono (g2.exS g1.sub)).of_lst
    obtain ⟨b, ys, rfl, h2, r2⟩ := r2.of_lst
    refine ⟨a, b, xs, ys, rfl, rfl, g2.sub _ _ h1, g2.sub _ _ h2, small _ (by rw [r1.length, r2.length]; exact hl), fun p np => ?_⟩
    exact k p _ _ S2 _ ((g1.trans g2).trans (Gr.newM g2.ok g2.sub np)) (g1.back (g2.back np)) (g2.sub.free np) upd_same (r1.append r2) q2⟩
/-- .. the left one a list of the def's own -/
def aCatM (i : Nat) (G : DE) : DA := fun ρ Q => ∃ ds, ρ[i]? = some (.ml ds) ∧ G ρ fun y => ∃ es, y = .lst es ∧ ds.length + es.length ≤ 100000 ∧ Q (ds ++ es)
theorem rl_catM {i : Nat} {x : Str} {p : Pos} (hb : RE X W eb tb G) (hN : X.N[i]? = some x := by rfl) (hv : Vis X.env.scope x := by first | exact Or.inl rfl | exact Or.inr (Or.inl rfl) | exact Or.inr (Or.inr rfl)) (hd : (x == ("__debug__" : Str)) = false := by decide)
    (hcd : (x == ("__classdict__" : Str)) = false := by decide) : RL X W (.BinOp (.Name x p) .Add eb pos) (tOp rCat (tVar i) tb) (aCatM i G) := ⟨pe_op op_cat (pe_var hN hv hd hcd) hb.pe, fun {B S0 ρ σ S H} s Qd q Q k => by
  obtain ⟨ds, e, q⟩ := q
  obtain ⟨l, hσ, _, w, n, xs, hl, rs⟩ := s.sl i _ e
  refine ⟨.ref l, hσ, hb.sim s q fun y dy S2 H2 g2 r2 ⟨es, e2, hlen, q2⟩ => ?_⟩
  subst e2
  obtain ⟨b, ys, rfl, h2, r2⟩ := r2.of_lst
  have rs2 := rs.mono (g2.exS s.sub)
  refine ⟨l, b, xs, ys, rfl, rfl, g2.ex _ _ w hl, g2.sub _ _ h2, small _ (by rw [rs2.length, r2.length]; exact hlen), fun p np => ?_⟩
  exact k p _ _ S2 _ (g2.trans (Gr.newM g2.ok g2.sub np)) (g2.back np) (g2.sub.free np) upd_same (rs2.append r2) q2⟩
abbrev DO := List Sl → (Option Int → Prop) → Prop
def SimO (W : Wc) (t : TO) (F : DO) : Prop := ∀ {B S0 : Hp} {ρ : List Sl} {σ : L2.St} {S H : Hp}, SR W B S0 ρ σ S H → ∀ {Qd : Option Int → Prop}, F ρ Qd → ∀ {Q : Option Int → Hp → Prop},
  (∀ o S' H', Gr W S H S' H' → Qd o → Q o H') → t σ H Q
structure RO (X : Cx) (W : Wc) (e : Option Expr) (t : TO) (F : DO) : Prop where
  pe : PO X e t
  sim : SimO W t F
def oNone : DO := fun _ Q => Q none
def oSome (F : DE) : DO := fun ρ Q => F ρ fun d => ∃ i, d = .int i ∧ Q (some i)
theorem ro_none : RO X W none tNoPart oNone := ⟨po_none, fun s Qd q Q k => k none _ _ s.refl q⟩
theorem ro_some (h : RE X W e te F) : RO X W (some e) (tPart te) (oSome F) := ⟨po_some h.pe, fun s Qd q Q k => h.sim s q fun v d S' H' g r ⟨i, e, q'⟩ => by
  subst e
  exact ⟨i, r.of_int, k _ _ _ g q'⟩⟩
def cutD (ds : List D) (lo hi : Option Int) : List D := (ds.drop (HT.sIx ds.length 0 lo)).take (HT.sIx ds.length ds.length hi - HT.sIx ds.length 0 lo)
theorem Reps.cut {S : Hp} {vs : List V} {ds : List D} (r : Reps S vs ds) (lo hi : Option Int) : Reps S (cutV vs lo hi) (cutD ds lo hi) := by
  unfold cutV cutD
  rw [r.length]
  exact (r.drop _).take _
def dSlT (F : DE) (L U : DO) : DE := fun ρ Q => F ρ fun d => L ρ fun lo => U ρ fun hi => ∃ ds, d = .tup ds ∧ Q (.tup (cutD ds lo hi))
theorem re_slT {K : PySem.W.Frag} {lo hi : Option Expr} {tl th : TO} {L U : DO} {p2 : Pos} (he : RE X W e te F) (hl : RO X W lo tl L) (hh : RO X W hi th U) (hK : X.K = K := by rfl) : RE X W (.Subscript e (.Slice lo hi none p2) pos) (tSl (rSlA K) te tl th) (dSlT F L U) := hK ▸ ⟨pe_slice sl_tupA he.pe hl.pe hh.pe, fun s Qd q Q k =>
  he.sim s q fun v d S1 H1 g1 r1 q1 => hl.sim (s.gr g1) q1 fun l S2 H2 g2 q2 => hh.sim ((s.gr g1).gr g2) q2 fun h S3 H3 g3 ⟨ds, e, q3⟩ => by
    subst e
    have g := (g1.trans g2).trans g3
    have r3 := r1.mono ((g2.exS g1.sub).trans (g3.exS g2.sub))
    obtain ⟨a, xs, rfl, hx, rs⟩ := id r3.of_tup
    refine ⟨a, xs, rfl, SqT.of (g3.sub _ _ hx), fun hw => ?_, fun hw p np => ?_⟩
    · have ec : cutD ds l h = ds := by
        unfold cutD
        rw [← rs.length, hw.1, hw.2, List.drop_zero, Nat.sub_zero, rs.length, List.take_length]
      rw [ec] at q3
      exact k _ _ _ _ g r3 q3
    · exact k _ _ _ _ (g.trans (Gr.new g3.ok g3.sub np)) (.tup upd_same ((rs.cut l h).mono (ex_upd (g3.sub.free np)))) q3⟩
def leT (ns ms : List Int) : Bool := Ob.lexAt (fun j => decide (ns.getD j 0 = ms.getD j 0)) (fun j => decide (ns.getD j 0 ≤ ms.getD j 0)) (decide (ns.length ≤ ms.length)) 0 (min ns.length ms.length)
def fLeT : D → D → (D → Prop) → Prop := fun x y Q => ∃ ns ms, x = .tup (dIs ns) ∧ y = .tup (dIs ms) ∧ Q (.bl (leT ns ms))
theorem o_leT {K : PySem.W.Frag} (hu : X.A.units < cLine) (hK : X.K = K := by rfl) : Op2 X W (compareOp .LtE) (rLeT K) fLeT := hK ▸ ⟨op_leT hu, fun ok sub rx ry Qd q Q k => by
  obtain ⟨ns, ms, rfl, rfl, q⟩ := q
  obtain ⟨a, xs, rfl, h1, r1⟩ := rx.of_tup
  obtain ⟨b, ys, rfl, h2, r2⟩ := ry.of_tup
  cases r1.of_ints
  cases r2.of_ints
  exact ⟨a, b, ns, ms, rfl, rfl, SqT.of (sub _ _ h1), SqT.of (sub _ _ h2), k _ _ _ _ (Gr.refl ok sub) (.bl _) q⟩⟩

/-! ### built-ins by name -/
section
variable {t : TA} {FA : DA} {p : Pos} {x : Str} {id : String} {r : List V → Hp → VK → Prop} {f : List D → (D → Prop) → Prop} {fl : List D → (List D → Prop) → Prop}
structure CB (X : Cx) (W : Wc) (v : Value) (r : List V → Hp → VK → Prop) (f : List D → (D → Prop) → Prop) : Prop where
  op : CallR X v r
  sim : SimRA W r f
structure CBL (X : Cx) (W : Wc) (v : Value) (r : List V → Hp → VK → Prop) (f : List D → (List D → Prop) → Prop) : Prop where
  op : CallR X v r
  sim : SimRAL W r f
theorem re_cb {es : List Expr} (h : CB X W (.builtin id) r f) (hm : X.mg x = none) (hv : bootBuiltins x = some (.builtin id)) (ha : RA X W (e :: es) t FA) (hg : Gl X x := by rfl) (hn : x ≠ "__name__" := by decide) (hdb : (x == ("__debug__" : Str)) = false := by decide)
    (he : starEach (e :: es) X.env = (false, eval e X.env) :: starEach es X.env := by rfl) (hpl : (backTo pos (starEach es X.env)).any (·.1) = false := by rfl) : RE X W (.Call (.Name x p) (e :: es) [] pos) (tCB r t) (dCB f FA) := ⟨pe_callB h.op hg hm hv ha.pe hn hdb he hpl, sim_cb ha.sim h.sim⟩
theorem rl_cb {es : List Expr} (h : CBL X W (.builtin id) r fl) (hm : X.mg x = none) (hv : bootBuiltins x = some (.builtin id)) (ha : RA X W (e :: es) t FA) (hg : Gl X x := by rfl) (hn : x ≠ "__name__" := by decide) (hdb : (x == ("__debug__" : Str)) = false := by decide)
    (he : starEach (e :: es) X.env = (false, eval e X.env) :: starEach es X.env := by rfl) (hpl : (backTo pos (starEach es X.env)).any (·.1) = false := by rfl) : RL X W (.Call (.Name x p) (e :: es) [] pos) (tCB r t) (dCBL fl FA) := ⟨pe_callB h.op hg hm hv ha.pe hn hdb he hpl, sim_cbl ha.sim h.sim⟩
theorem re_cty {es : List Expr} (h : CB X W (.type id) r f) (hm : X.mg x = none) (hv : bootBuiltins x = some (.type id)) (ha : RA X W (e :: es) t FA) (hg : Gl X x := by rfl) (hn : x ≠ "__name__" := by decide) (hdb : (x == ("__debug__" : Str)) = false := by decide)
    (he : starEach (e :: es) X.env = (false, eval e X.env) :: starEach es X.env := by rfl) (hpl : (backTo pos (starEach es X.env)).any (·.1) = false := by rfl) : RE X W (.Call (.Name x p) (e :: es) [] pos) (tCB r t) (dCB f FA) := ⟨pe_callTy h.op hg hm hv ha.pe hn hdb he hpl, sim_cb ha.sim h.sim⟩
theorem rl_cty {es : List Expr} (h : CBL X W (.type id) r fl) (hm : X.mg x = none) (hv : bootBuiltins x = some (.type id)) (ha : RA X W (e :: es) t FA) (hg : Gl X x := by rfl) (hn : x ≠ "__name__" := by decide) (hdb : (x == ("__debug__" : Str)) = false := by decide)
    (he : starEach (e :: es) X.env = (false, eval e X.env) :: starEach es X.env := by rfl) (hpl : (backTo pos (starEach es X.env)).any (·.1) = false := by rfl) : RL X W (.Call (.Name x p) (e :: es) [] pos) (tCB r t) (dCBL fl FA) := ⟨pe_callTy h.op hg hm hv ha.pe hn hdb he hpl, sim_cbl ha.sim h.sim⟩
end
def fAbs : List D → (D → Prop) → Prop := fun ds Q => ∃ i : Int, ds = [.int i] ∧ Q (.int (if i < 0 then -i else i))
theorem c_abs : CB X W (.builtin "abs") (fun xs H Q => ∃ i, xs = [.int i] ∧ Q (.int (if i < 0 then -i else i)) H) fAbs := ⟨call_abs, fun ok sub r Qd q Q k => by
  obtain ⟨i, rfl, q⟩ := q
  obtain ⟨v, rfl, r1⟩ := r.one
  cases r1.of_int
  exact ⟨i, rfl, k _ _ _ _ (Gr.refl ok sub) (.int _) q⟩⟩
def fMax2 : List D → (D → Prop) → Prop := fun ds Q => ∃ i j : Int, ds = [.int i, .int j] ∧ Q (.int (max i j))
def fMin2 : List D → (D → Prop) → Prop := fun ds Q => ∃ i j : Int, ds = [.int i, .int j] ∧ Q (.int (min i j))
theorem c_max2 (hc : X.calm = true := by rfl) : CB X W (.builtin "max") (fun xs H Q => ∃ i j, xs = [.int i, .int j] ∧ Q (.int (if j > i then j else i)) H) fMax2 := ⟨call_max2 hc, fun ok sub r Qd q Q k => by
  obtain ⟨i, j, rfl, q⟩ := q
  obtain ⟨v, w, rfl, r1, r2⟩ := r.two
  cases r1.of_int
  cases r2.of_int
  refine ⟨i, j, rfl, ?_⟩
  have e : (if j > i then j else i) = max i j := by split <;> omega
  rw [e]
  exact k _ _ _ _ (Gr.refl ok sub) (.int _) q⟩
theorem c_min2 (hc : X.calm = true := by rfl) : CB X W (.builtin "min") (fun xs H Q => ∃ i j, xs = [.int i, .int j] ∧ Q (.int (if j < i then j else i)) H) fMin2 := ⟨call_min2 hc, fun ok sub r Qd q Q k => by
  obtain ⟨i, j, rfl, q⟩ := q
  obtain ⟨v, w, rfl, r1, r2⟩ := r.two
  cases r1.of_int
  cases r2.of_int
  refine ⟨i, j, rfl, ?_⟩
  have e : (if j < i then j else i) = min i j := by split <;> omega
  rw [e]
  exact k _ _ _ _ (Gr.refl ok sub) (.int _) q⟩
def fMaxL : List D → (D → Prop) → Prop := fun ds Q => ∃ ns, ds = [.lst (dIs ns)] ∧ ns ≠ [] ∧ Q (.int (maxI ns))
def fMinL : List D → (D → Prop) → Prop := fun ds Q => ∃ ns, ds = [.lst (dIs ns)] ∧ ns ≠ [] ∧ Q (.int (minI ns))
theorem c_maxL {K : PySem.W.Frag} (hc : X.calm = true := by rfl) (hK : X.K = K := by rfl) : CB X W (.builtin "max") (rMax K) fMaxL := hK ▸ ⟨cr_max hc, fun ok sub r Qd q Q k => by
  obtain ⟨ns, rfl, hne, q⟩ := q
  obtain ⟨v, rfl, r1⟩ := r.one
  obtain ⟨a, xs, rfl, h, rs⟩ := r1.of_lst
  cases rs.of_ints
  refine ⟨a, ns, rfl, SqL.of (sub _ _ h), List.length_pos_iff.mpr hne, fun m h1 h2 => ?_⟩
  rw [maxI_eq h1 h2]
  exact k _ _ _ _ (Gr.refl ok sub) (.int _) q⟩
theorem c_minL {K : PySem.W.Frag} (hc : X.calm = true := by rfl) (hK : X.K = K := by rfl) : CB X W (.builtin "min") (rMin K) fMinL := hK ▸ ⟨cr_min hc, fun ok sub r Qd q Q k => by
  obtain ⟨ns, rfl, hne, q⟩ := q
  obtain ⟨v, rfl, r1⟩ := r.one
  obtain ⟨a, xs, rfl, h, rs⟩ := r1.of_lst
  cases rs.of_ints
  refine ⟨a, ns, rfl, SqL.of (sub _ _ h), List.length_pos_iff.mpr hne, fun m h1 h2 => ?_⟩
  rw [minI_eq h1 h2]
  exact k _ _ _ _ (Gr.refl ok sub) (.int _) q⟩
def fAll : List D → (D → Prop) → Prop := fun ds Q => ∃ bs : List Bool, ds = [.lst (bs.map D.bl)] ∧ Q (.bl (bs.all id))
theorem c_all {K : PySem.W.Frag} (hc : X.calm = true := by rfl) (hK : X.K = K := by rfl) : CB X W (.builtin "all") (rAll K) fAll := hK ▸ ⟨cr_all hc, fun ok sub r Qd q Q k => by
  obtain ⟨bs, rfl, q⟩ := q
  obtain ⟨v, rfl, r1⟩ := r.one
  obtain ⟨a, xs, rfl, h, rs⟩ := r1.of_lst
  cases rs.of_bls
  exact ⟨a, bs, rfl, SqL.of (sub _ _ h), k _ _ _ _ (Gr.refl ok sub) (.bl _) q⟩⟩
def fInt : List D → (D → Prop) → Prop := fun ds Q => ∃ i : Int, ds = [.int i] ∧ Q (.int i)
theorem c_int : CB X W (.type "int") (fun xs H Q => (∃ i, xs = [.int i] ∧ Q (.int i) H) ∨ ∃ k, xs = [.bl k] ∧ Q (.int (if k then 1 else 0)) H) fInt := ⟨call_int1, fun ok sub r Qd q Q k => by
  obtain ⟨i, rfl, q⟩ := q
  obtain ⟨v, rfl, r1⟩ := r.one
  cases r1.of_int
  exact .inl ⟨i, rfl, k _ _ _ _ (Gr.refl ok sub) (.int _) q⟩⟩
def fTuple : List D → (D → Prop) → Prop := fun ds Q => ∃ xs, (ds = [.lst xs] ∨ ds = [.tup xs]) ∧ Q (.tup xs)
def rTupD (K : PySem.W.Frag) : List V → Hp → VK → Prop := fun xs H Q => ∃ p ys, xs = [.ref p] ∧ ((SqL K H p ys ∧ ∀ l, H l = none → Q (.ref l) (upd H l (.tup ys))) ∨ (SqT K H p ys ∧ Q (.ref p) H))
theorem c_tuple {K : PySem.W.Frag} (hK : X.K = K := by rfl) : CB X W (.type "tuple") (rTupD K) fTuple := hK ▸ ⟨call_tuple_of, fun ok sub r Qd q Q k => by
  obtain ⟨xs, e, q⟩ := q
  rcases e with rfl | rfl
  · obtain ⟨v, rfl, r1⟩ := r.one
    obtain ⟨a, ys, rfl, h, rs⟩ := r1.of_lst
    exact ⟨a, ys, rfl, .inl ⟨SqL.of (sub _ _ h), fun l nl => k _ _ _ _ (Gr.new ok sub nl) (.tup upd_same (rs.mono (ex_upd (sub.free nl)))) q⟩⟩
  · obtain ⟨v, rfl, r1⟩ := r.one
    obtain ⟨a, ys, rfl, h, rs⟩ := id r1.of_tup
    exact ⟨a, ys, rfl, .inr ⟨SqT.of (sub _ _ h), k _ _ _ _ (Gr.refl ok sub) r1 q⟩⟩⟩
def fList : List D → (List D → Prop) → Prop := fun ds Q => ∃ xs, (ds = [.lst xs] ∨ ds = [.tup xs]) ∧ Q xs
def rLstD (K : PySem.W.Frag) : List V → Hp → VK → Prop := fun xs H Q => ∃ p ys, xs = [.ref p] ∧ (SqL K H p ys ∨ SqT K H p ys) ∧ ∀ l, H l = none → Q (.ref l) (upd H l (.lst ys))
theorem c_list {K : PySem.W.Frag} (hK : X.K = K := by rfl) : CBL X W (.type "list") (rLstD K) fList := hK ▸ ⟨call_list_of, fun ok sub r Qd q Q k => by
  obtain ⟨xs, e, q⟩ := q
  rcases e with rfl | rfl
  · obtain ⟨v, rfl, r1⟩ := r.one
    obtain ⟨a, ys, rfl, h, rs⟩ := r1.of_lst
    exact ⟨a, ys, rfl, .inl (SqL.of (sub _ _ h)), fun l nl => k l ys xs _ _ (Gr.newM ok sub nl) nl (sub.free nl) upd_same rs q⟩
  · obtain ⟨v, rfl, r1⟩ := r.one
    obtain ⟨a, ys, rfl, h, rs⟩ := r1.of_tup
    exact ⟨a, ys, rfl, .inr (SqT.of (sub _ _ h)), fun l nl => k l ys xs _ _ (Gr.newM ok sub nl) nl (sub.free nl) upd_same rs q⟩⟩
def fSort : List D → (List D → Prop) → Prop := fun ds Q => ∃ ns, ds = [.lst (dIs ns)] ∧ Q (dIs (sortI ns))
theorem c_sort {K : PySem.W.Frag} (hK : X.K = K := by rfl) : CBL X W (.builtin "sorted") (rSortedI K) fSort := hK ▸ ⟨cr_sortedI, fun ok sub r Qd q Q k => by
  obtain ⟨ns, rfl, q⟩ := q
  obtain ⟨v, rfl, r1⟩ := r.one
  obtain ⟨a, ys, rfl, h, rs⟩ := r1.of_lst
  cases rs.of_ints
  refine ⟨a, ns, rfl, SqL.of (sub _ _ h), fun ns' l h1 h2 nl => ?_⟩
  rw [sortI_eq h1 h2]
  exact k l _ _ _ _ (Gr.newM ok sub nl) nl (sub.free nl) upd_same (Reps.ints _) q⟩
def fSortK : List D → (List D → Prop) → Prop := fun ds Q => ∃ ks : List Int, ds = [.dk ks] ∧ ks.length < 64 ∧ Q (dIs (sortI ks))
theorem dkv_keys (ks : List Int) : (dkv ks).map (·.1) = ks.map Sum.inl := by
  unfold dkv
  rw [List.map_map]
  rfl
theorem c_sortK (hc : X.calm = true := by rfl) : CBL X W (.builtin "sorted") (fun xs H Q => ∃ (a : Addr) (kvs : List (Key × V)) (ks : List Int), xs = [.ref a] ∧ Rd H a (.dK kvs) ∧ kvs.map (·.1) = ks.map Sum.inl ∧ ks.length < 64 ∧
    ∀ (ys : List Int) (p : Addr), ys.Perm ks → ys.Pairwise (· ≤ ·) → H p = none → Q (.ref p) (upd H p (.lst (ys.map V.int)))) fSortK := ⟨call_sortedDI hc, fun ok sub r Qd q Q k => by
  obtain ⟨ks, rfl, h64, q⟩ := q
  obtain ⟨v, rfl, r1⟩ := r.one
  obtain ⟨a, rfl, h⟩ := r1.of_dk
  refine ⟨a, _, ks, rfl, .inl (sub _ _ h), dkv_keys ks, h64, fun ns' l h1 h2 nl => ?_⟩
  rw [sortI_eq h1 h2]
  exact k l _ _ _ _ (Gr.newM ok sub nl) nl (sub.free nl) upd_same (Reps.ints _) q⟩
/-- list(range(n)) -/
def aListRg (F : DE) : DA := fun ρ Q => F ρ fun d => ∃ n : Int, d = .int n ∧ 0 ≤ n ∧ n ≤ 100000 ∧ Q (rng 0 n)
theorem rl_listRg {p p2 pos2 : Pos} (hm : X.mg "list" = none) (hm2 : X.mg "range" = none) (ha : RE X W ea ta F) (hc : X.calm = true := by rfl) (hg : Gl X "list" := by rfl) (hg2 : Gl X "range" := by rfl) (na : starEach [ea] X.env = (false, eval ea X.env) :: starEach [] X.env := by rfl)
    (na2 : starEach [Expr.Call (.Name "range" p2) [ea] [] pos2] X.env = (false, eval (.Call (.Name "range" p2) [ea] [] pos2) X.env) :: starEach [] X.env := by rfl) : RL X W (.Call (.Name "list" p) [.Call (.Name "range" p2) [ea] [] pos2] [] pos) (tLstRg (tRg1 ta)) (aListRg F) :=
  ⟨pe_listRg hc hg hm (prg_1 hg2 hm2 ha.pe na) na2, fun s Qd q Q k => ha.sim s q fun v d S' H' g r ⟨n, e, h0, h1, q'⟩ => by
    subst e
    refine ⟨n, r.of_int, RgOk.of_le (by omega) (by omega) (by omega) (by omega), fun l nl => ?_⟩
    refine k l _ _ S' _ (g.trans (Gr.newM g.ok g.sub nl)) (g.back nl) (g.sub.free nl) upd_same ?_ q'
    unfold rgV rng
    generalize List.range (n - 0).toNat = L
    induction L with
    | nil => exact .nil
    | cons x L ih => exact .cons (.int _) ih⟩

/-! ### xs.index(y), dIs -/
def dIndex (F : DE) (G : DA) : DE := fun ρ Q => F ρ fun x => ∃ ns : List Int, x = .lst (dIs ns) ∧ G ρ fun ys => ∃ (i : Int) (j : Nat), ys = [.int i] ∧ ns[j]? = some i ∧ (∀ m, m < j → ns[m]? ≠ some i) ∧ Q (.int j)
theorem re_index {K : PySem.W.Frag} {t : TA} {GA : DA} {apos : Pos} (ho : RE X W ea ta F) (ha : RA X W [eb] t GA) (hK : X.K = K := by rfl)
    (hbase : attributeBase ea "index" X.env (eval ea X.env) = eval ea X.env := by rfl)
    (hfew : ((backTo pos (starEach (eb :: []) X.env)).all (fun x => !x.1) && (backToKw pos (keywordEach [] X.env)).all (fun x => x.1.isSome)
      && decide ((eb :: []).length + ([] : List Keyword).length + (if ([] : List Keyword).isEmpty then 0 else 1) < 30)) = true := by rfl)
    (hline : (apos.endLine == pos.line) = true := by rfl) (hs : starEach (eb :: []) X.env = (false, eval eb X.env) :: starEach [] X.env := by rfl) (hplain : (backTo pos (starEach [] X.env)).any (·.1) = false := by rfl) :
    RE X W (.Call (.Attribute ea "index" apos) [eb] [] pos) (tBM K "list" (rIndex K) ta t) (dIndex F GA) := hK ▸ ⟨pe_bm PySem.F.plainAttrs_list PySem.F.slot_list_index PySem.F.type_list_index mt_index ho.pe ha.pe hbase hfew hline hs hplain, fun s Qd q Q k =>
  ho.sim s q fun v d S1 H1 g1 r1 ⟨ns, e, q1⟩ => by
    subst e
    obtain ⟨a, xs, rfl, h, rs⟩ := r1.of_lst
    refine ⟨.inl ⟨rfl, _, SqL.of (g1.sub _ _ h)⟩, ha.sim (s.gr g1) q1 fun vs ds S2 H2 g2 r2 ⟨i, j, e, hj, hno, q2⟩ => ?_⟩
    subst e
    obtain ⟨w, rfl, rw'⟩ := r2.one
    cases rw'.of_int
    cases rs.of_ints
    refine ⟨a, ns.map V.int, .int i, j, .int i, rfl, rfl, SqL.of (g2.sub _ _ (g2.exS g1.sub _ _ h)), rfl, flat_ints ns, by rw [List.getElem?_map, hj]; rfl, by simp [eqV], fun m z' hm hz => ?_, k _ _ _ _ (g1.trans g2) (.int _) q2⟩
    rw [List.getElem?_map] at hz
    cases e : ns[m]? with
    | none => rw [e] at hz; cases hz
    | some y =>
      rw [e] at hz
      cases hz
      have : y ≠ i := fun z => hno m hm (by rw [e, z])
      simp [eqV, this]⟩
end
end NR
/-! A def's own lists and dicts changed; calls of defs; a def by its body. -/
namespace NR
open PySem PySem.Spec PyProof.Rows L2
section
variable {X : Cx} {W : Wc} {e ea eb ec : Expr} {pos : Pos} {ta tb tc te : TE} {F G : DE} {st : Stmt} {rest : List Stmt} {t u : TS} {T U : DS}
theorem Gr.keepUpd {S H S1 H1 : Hp} (g : Gr W S H S1 H1) : True := True.intro
/-! ### lists -/
def dApp (i : Nat) (F : DE) : DS := fun E ρ => ∃ ds, ρ[i]? = some (.ml ds) ∧ ds.length < 100000 ∧ F ρ fun d => E.nx (ρ.set i (.ml (ds ++ [d])))
theorem set_same {ρ : List Sl} {i : Nat} {x : Sl} (h : ρ[i]? = some x) : i < ρ.length := (List.getElem?_eq_some_iff.mp h).1
theorem rs_app {i : Nat} {x : Str} {p apos : Pos} {pos' : Pos} (he : RE X W e te F) (hN : X.N[i]? = some x := by rfl) (hv : Vis X.env.scope x := by first | exact Or.inl rfl | exact Or.inr (Or.inl rfl) | exact Or.inr (Or.inr rfl)) (hd : (x == ("__debug__" : Str)) = false := by decide)
    (hcd : (x == ("__classdict__" : Str)) = false := by decide) (hs1 : starEach (e :: []) X.env = (false, eval e X.env) :: starEach [] X.env := by rfl)
    (hbase : attributeBase (.Name x p) "append" X.env (eval (.Name x p) X.env) = eval (.Name x p) X.env := by rfl)
    (hfew : ((backTo pos (starEach (e :: []) X.env)).all (fun x => !x.1) && (backToKw pos (keywordEach [] X.env)).all (fun x => x.1.isSome)
      && decide ((e :: []).length + ([] : List Keyword).length + (if ([] : List Keyword).isEmpty then 0 else 1) < 30)) = true := by rfl)
    (hline : (apos.endLine == pos.line) = true := by rfl) (hplain : (backTo pos (starEach [] X.env)).any (·.1) = false := by rfl)
    (hs : swapsWith (.Call (.Attribute (.Name x p) "append" apos) [e] [] pos) none pos'.line X.env = pure false := by rfl) :
    RS X W (.Expr (.Call (.Attribute (.Name x p) "append" apos) [e] [] pos) pos') (tDrop (tBM X.K "list" rAppend (tVar i) (tCons te tNil))) (dApp i F) :=
  ⟨ps_expr (pe_bm PySem.F.plainAttrs_list PySem.F.slot_list_append PySem.F.type_list_append mt_append (pe_var hN hv hd hcd) (pa_cons he.pe pa_nil hs1) hbase hfew hline hs1 hplain) hs, fun {B S0 ρ σ S H} s E D' q l => by
    obtain ⟨ds, e1, hl, q⟩ := q
    obtain ⟨a, hσ, b, w, n, xs, hx, rs⟩ := s.sl i _ e1
    refine ⟨.ref a, hσ, .inl ⟨rfl, _, SqL.of hx⟩, he.sim s q fun v d S1 H1 g1 r1 q1 => ?_⟩
    have hx1 := g1.ex _ _ w hx
    have n1 : S1 a = none := (g1.st _ ⟨_, hx, .inr fun _ z => nomatch z⟩).trans n
    have rs1 := rs.mono (g1.exS s.sub)
    refine ⟨a, xs, v, rfl, rfl, hx1, smallLt _ (by rw [rs.length]; exact hl), ?_⟩
    exact l.nx _ _ S1 _ ((s.gr g1).upd (x' := .ml (ds ++ [d])) e1 rfl hσ rfl ⟨xs ++ [v], upd_same, rs1.append (.cons r1 .nil)⟩) (g1.exS s.sub) q1⟩
def dPop (j i : Nat) : DS := fun E ρ => ∃ ds d, ρ[i]? = some (.ml (ds ++ [d])) ∧ E.nx ((ρ.set i (.ml ds)).set j (.im d))
theorem rs_pop {i j : Nat} {x y : Str} {p p2 apos cpos : Pos} (hND : X.N.Nodup) (hN : X.N[i]? = some x := by rfl) (hv : Vis X.env.scope x := by first | exact Or.inl rfl | exact Or.inr (Or.inl rfl) | exact Or.inr (Or.inr rfl)) (hd : (x == ("__debug__" : Str)) = false := by decide)
    (hcd : (x == ("__classdict__" : Str)) = false := by decide) (hj : X.N[j]? = some y := by rfl) (hy : Loc X.env.scope y := by first | exact .inl rfl | exact .inr rfl)
    (hbase : attributeBase (.Name x p) "pop" X.env (eval (.Name x p) X.env) = eval (.Name x p) X.env := by rfl) (hline : (apos.endLine == cpos.line) = true := by rfl)
    (hs : swapsWith (.Call (.Attribute (.Name x p) "pop" apos) [] [] cpos) (some (.Name y p2)) pos.line X.env = pure false := by rfl) (hf : X.fn y = true ∨ X.env.scope.names.lookup y = some .local := by first | exact .inl rfl | exact .inr rfl) :
    RS X W (.Assign [.Name y p2] (.Call (.Attribute (.Name x p) "pop" apos) [] [] cpos) pos) (tAsg (tBM0 X.K "list" rPop (tVar i)) (gName j)) (dPop j i) :=
  ⟨ps_set hND hj hy (pe_bm0 PySem.F.plainAttrs_list PySem.F.slot_list_pop PySem.F.type_list_pop mt_pop (pe_var hN hv hd hcd) hbase hline) hs hf, fun {B S0 ρ σ S H} s E D' q l => by
    obtain ⟨ds, d, e1, q⟩ := q
    obtain ⟨a, hσ, b, w, n, xs, hx, rs⟩ := s.sl i _ e1
    have hlen := rs.length
    rw [List.length_append, List.length_singleton] at hlen
    obtain ⟨v, hv, rv⟩ := rs.get (i := ds.length) (d := d) (by simp)
    refine ⟨.ref a, hσ, .inl ⟨rfl, _, SqL.of hx⟩, a, xs, v, rfl, rfl, hx, by rw [hlen]; exact hv, ?_⟩
    have rd : Reps S xs.dropLast ds := by
      have := rs.dropLast
      rwa [List.dropLast_concat] at this
    have s1 := s.upd (o := .lst xs.dropLast) e1 rfl hσ (x' := .ml ds) rfl ⟨_, upd_same, rd⟩
    exact l.nx _ _ S _ (s1.setIm rv) (Ex.refl _) q⟩
def dSetL (i : Nat) (F G : DE) : DS := fun E ρ => G ρ fun d => ∃ ds, ρ[i]? = some (.ml ds) ∧ F ρ fun x => ∃ (k : Int) (j : Nat), x = .int k ∧ ixN ds.length k = some j ∧ E.nx (ρ.set i (.ml (ds.set j d)))
theorem rs_setL {i : Nat} {x : Str} {p tpos : Pos} (he : RE X W e te G) (hi : RE X W ea ta F) (hN : X.N[i]? = some x := by rfl) (hv : Vis X.env.scope x := by first | exact Or.inl rfl | exact Or.inr (Or.inl rfl) | exact Or.inr (Or.inr rfl)) (hd : (x == ("__debug__" : Str)) = false := by decide)
    (hcd : (x == ("__classdict__" : Str)) = false := by decide)
    (ha : ∀ v, assign (.Subscript (.Name x p) ea tpos) X.env v = (do
      let ov ← holding [v] (eval (.Name x p) X.env)
      let iv ← holding [v, ov] (eval ea X.env)
      standAt tpos
      holding [v, ov, iv] (setItem ov iv v)
      release [v, ov, iv] []) := by intro _; rfl)
    (hs : swapsWithSole [.Subscript (.Name x p) ea tpos] e pos.line X.env = pure false := by rfl) (hw : swappedStores [.Subscript (.Name x p) ea tpos] e X.env = pure none := by rfl)
    (h1 : (assignEach [.Subscript (.Name x p) ea tpos] X.env).map (·.2) = [assign (.Subscript (.Name x p) ea tpos) X.env] := by rfl) :
    RS X W (.Assign [.Subscript (.Name x p) ea tpos] e pos) (tAsg te (gSub (tVar i) ta rSetL)) (dSetL i F G) :=
  ⟨ps_asg he.pe (pg_sub (pe_var hN hv hd hcd) hi.pe set_list ha) hs hw h1, fun {B S0 ρ σ S H} s E D' q l =>
    he.sim s q fun v d S1 H1 g1 r1 ⟨ds, e1, q1⟩ => by
      have s1 := s.gr g1
      obtain ⟨a, hσ, b, w, n, xs, hx, rs⟩ := s1.sl i _ e1
      refine ⟨.ref a, hσ, hi.sim s1 q1 fun y dy S2 H2 g2 r2 ⟨k, j, e2, hj, q2⟩ => ?_⟩
      subst e2
      cases r2.of_int
      have hx2 := g2.ex _ _ w hx
      have rs2 := rs.mono (g2.exS s1.sub)
      refine ⟨a, xs, k, j, rfl, rfl, hx2, by rw [rs.length]; exact hj, ?_⟩
      exact l.nx _ _ S2 _ ((s1.gr g2).upd (x' := .ml (ds.set j d)) e1 rfl hσ rfl ⟨_, upd_same, rs2.set (r1.mono (g2.exS g1.sub)) j⟩) ((g1.exS s.sub).trans (g2.exS g1.sub)) q2⟩

/-! ### dicts -/
def putKs {α : Type} [DecidableEq α] (ks : List α) (k : α) : List α := if k ∈ ks then ks else ks ++ [k]
theorem putK_map {α κ : Type} [DecidableEq α] [DecidableEq κ] (f : α → κ) (hf : ∀ a b, f a = f b → a = b) (ks : List α) (k : α) : putK (ks.map fun k => (f k, V.bl true)) (f k) (V.bl true) = (putKs ks k).map fun k => (f k, V.bl true) := by
  have hany : ((ks.map fun k => (f k, V.bl true)).any fun kv => decide (kv.1 = f k)) = decide (k ∈ ks) := by
    induction ks with
    | nil => rfl
    | cons x r ih =>
      rw [List.map_cons, List.any_cons, ih]
      by_cases h : x = k
      · subst h; simp
      · have h1 : ¬ f x = f k := fun z => h (hf _ _ z)
        have h2 : ¬ k = x := fun z => h z.symm
        simp [h1, h2]
  unfold putK putKs
  rw [hany]
  by_cases h : k ∈ ks
  · rw [if_pos (decide_eq_true h), if_pos h, List.map_map]
    apply List.map_congr_left
    intro a _
    show (if f a = f k then (f a, V.bl true) else (f a, V.bl true)) = _
    split <;> rfl
  · rw [if_neg (by simpa using h), if_neg h, List.map_append]
    rfl
theorem valV_map' {α κ : Type} [DecidableEq α] [DecidableEq κ] (f : α → κ) (hf : ∀ a b, f a = f b → a = b) (ks : List α) (k : α) : (valV (ks.map fun k => (f k, V.bl true)) (f k)).isSome = decide (k ∈ ks) := by
  rw [← valV_any]
  induction ks with
  | nil => rfl
  | cons x r ih =>
    rw [List.map_cons, List.any_cons, ih]
    by_cases h : x = k
    · subst h; simp
    · have h1 : ¬ f x = f k := fun z => h (hf _ _ z)
      have h2 : ¬ k = x := fun z => h z.symm
      simp [h1, h2]
theorem inl_inj (a b : Int) (h : (Sum.inl a : Key) = Sum.inl b) : a = b := Sum.inl.inj h
theorem inls_inj : ∀ (a b : List Int), a.map (Sum.inl : Int → Key) = b.map Sum.inl → a = b
  | [], [], _ => rfl
  | [], _ :: _, h => by cases h
  | _ :: _, [], h => by cases h
  | x :: a, y :: b, h => by
    rw [List.map_cons, List.map_cons] at h
    injection h with h1 h2
    rw [Sum.inl.inj h1, inls_inj a b h2]
theorem kV_ints (k : List Int) : (k.map (Sum.inl : Int → Key)).map kV = k.map V.int := by rw [List.map_map]; rfl
def dPutK (i : Nat) (F G : DE) : DS := fun E ρ => G ρ fun v => v = .bl true ∧ ∃ ks, ρ[i]? = some (.mk ks) ∧ ks.length < 100000 ∧ F ρ fun x => ∃ k : Int, x = .int k ∧ E.nx (ρ.set i (.mk (putKs ks k)))
def dPutT (i : Nat) (F G : DE) : DS := fun E ρ => G ρ fun v => v = .bl true ∧ ∃ ks, ρ[i]? = some (.mt ks) ∧ ks.length < 100000 ∧ F ρ fun x => ∃ k : List Int, x = .tup (dIs k) ∧ E.nx (ρ.set i (.mt (putKs ks k)))
theorem rs_putK {i : Nat} {x : Str} {p tpos : Pos} (hu : X.A.units + 1 < cLine) (he : RE X W e te G) (hi : RE X W ea ta F) (hN : X.N[i]? = some x := by rfl) (hv : Vis X.env.scope x := by first | exact Or.inl rfl | exact Or.inr (Or.inl rfl) | exact Or.inr (Or.inr rfl)) (hd : (x == ("__debug__" : Str)) = false := by decide)
    (hcd : (x == ("__classdict__" : Str)) = false := by decide) (hs : swapsWith e (some (.Subscript (.Name x p) ea tpos)) pos.line X.env = pure false := by rfl) :
    RS X W (.Assign [.Subscript (.Name x p) ea tpos] e pos) (sDPut (tVar i) ta te) (dPutK i F G) :=
  ⟨ps_dput hu (pe_var hN hv hd hcd) hi.pe he.pe hs, fun {B S0 ρ σ S H} s E D' q l =>
    he.sim s q fun v d S1 H1 g1 r1 ⟨ev, ks, e1, hlen, q1⟩ => by
      subst ev
      cases r1.of_bl
      have s1 := s.gr g1
      obtain ⟨a, hσ, b, w, n, hx⟩ := s1.sl i _ e1
      refine ⟨.ref a, hσ, hi.sim s1 q1 fun y dy S2 H2 g2 r2 ⟨k, e2, q2⟩ => ?_⟩
      subst e2
      cases r2.of_int
      have hx2 : H2 a = some (.dK (dkv ks)) := g2.ex _ _ w hx
      refine ⟨a, _, rfl, DPut.k (k := .inl k) hx2 (by unfold dkv; rw [List.length_map]; exact smallLt _ hlen), ?_⟩
      refine l.nx _ _ S2 _ ((s1.gr g2).upd e1 rfl hσ rfl ?_) ((g1.exS s.sub).trans (g2.exS g1.sub)) q2
      show L2.upd H2 a _ a = _
      rw [upd_same]
      exact congrArg (fun z => some (HO.dK z)) (putK_map Sum.inl inl_inj ks k)⟩
theorem rs_putT {i : Nat} {x : Str} {p tpos : Pos} (hu : X.A.units + 1 < cLine) (he : RE X W e te G) (hi : RE X W ea ta F) (hN : X.N[i]? = some x := by rfl) (hv : Vis X.env.scope x := by first | exact Or.inl rfl | exact Or.inr (Or.inl rfl) | exact Or.inr (Or.inr rfl)) (hd : (x == ("__debug__" : Str)) = false := by decide)
    (hcd : (x == ("__classdict__" : Str)) = false := by decide) (hs : swapsWith e (some (.Subscript (.Name x p) ea tpos)) pos.line X.env = pure false := by rfl) :
    RS X W (.Assign [.Subscript (.Name x p) ea tpos] e pos) (sDPut (tVar i) ta te) (dPutT i F G) :=
  ⟨ps_dput hu (pe_var hN hv hd hcd) hi.pe he.pe hs, fun {B S0 ρ σ S H} s E D' q l =>
    he.sim s q fun v d S1 H1 g1 r1 ⟨ev, ks, e1, hlen, q1⟩ => by
      subst ev
      cases r1.of_bl
      have s1 := s.gr g1
      obtain ⟨a, hσ, b, w, n, hx⟩ := s1.sl i _ e1
      refine ⟨.ref a, hσ, hi.sim s1 q1 fun y dy S2 H2 g2 r2 ⟨k, e2, q2⟩ => ?_⟩
      subst e2
      obtain ⟨c, xs, rfl, hc, rs⟩ := r2.of_tup
      cases rs.of_ints
      have hx2 : H2 a = some (.dT (dtv ks)) := g2.ex _ _ w hx
      refine ⟨a, _, rfl, DPut.t (k := k.map Sum.inl) hx2 (by rw [kV_ints]; exact g2.sub _ _ hc) (by unfold dtv; rw [List.length_map]; exact smallLt _ hlen), ?_⟩
      refine l.nx _ _ S2 _ ((s1.gr g2).upd e1 rfl hσ rfl ?_) ((g1.exS s.sub).trans (g2.exS g1.sub)) q2
      show L2.upd H2 a _ a = _
      rw [upd_same]
      exact congrArg (fun z => some (HO.dT z)) (putK_map (κ := List Key) (fun k : List Int => k.map (Sum.inl : Int → Key)) inls_inj ks k)⟩
def dInM (i : Nat) (neg : Bool) (F : DE) : DT := fun ρ Q => F ρ fun x => ∃ (k : Int) (ks : List Int), x = .int k ∧ ρ[i]? = some (.mk ks) ∧ Q (if neg then !decide (k ∈ ks) else decide (k ∈ ks))
theorem rt_inM {i : Nat} {x : Str} {p : Pos} (hu : X.A.units + 1 < cLine) (hi : RE X W ea ta F) (hN : X.N[i]? = some x := by rfl) (hv : Vis X.env.scope x := by first | exact Or.inl rfl | exact Or.inr (Or.inl rfl) | exact Or.inr (Or.inr rfl)) (hd : (x == ("__debug__" : Str)) = false := by decide)
    (hcd : (x == ("__classdict__" : Str)) = false := by decide) (h1 : behindInMarks .In (.Name x p) = false := by first | exact nobehind _ (by decide) (by decide) | rfl) : RT X W (.Compare ea [.In] [.Name x p] pos) (tB (tDIn ta (tVar i))) (dInM i false F) :=
  ⟨pt_cmp (pc_din hu hi.pe (pe_var hN hv hd hcd)) h1, fun s Qd q Q k => hi.sim s q fun y dy S2 H2 g2 r2 ⟨n, ks, e2, e1, q2⟩ => by
    subst e2
    cases r2.of_int
    obtain ⟨a, hσ, b, w, _, hx⟩ := (s.gr g2).sl i _ e1
    refine ⟨.ref a, hσ, a, _, rfl, DGet.k (k := .inl n) hx, _, rfl, ?_⟩
    rw [show (valV (dkv ks) (Sum.inl n)).isSome = decide (n ∈ ks) from valV_map' Sum.inl inl_inj ks n]
    exact k _ _ _ g2 q2⟩
theorem rt_notInM {i : Nat} {x : Str} {p : Pos} (hu : X.A.units + 1 < cLine) (hi : RE X W ea ta F) (hN : X.N[i]? = some x := by rfl) (hv : Vis X.env.scope x := by first | exact Or.inl rfl | exact Or.inr (Or.inl rfl) | exact Or.inr (Or.inr rfl)) (hd : (x == ("__debug__" : Str)) = false := by decide)
    (hcd : (x == ("__classdict__" : Str)) = false := by decide) (h1 : behindInMarks .NotIn (.Name x p) = false := by first | exact nobehind _ (by decide) (by decide) | rfl) : RT X W (.Compare ea [.NotIn] [.Name x p] pos) (tB (tDNotIn ta (tVar i))) (dInM i true F) :=
  ⟨pt_cmp (pc_dnotin hu hi.pe (pe_var hN hv hd hcd)) h1, fun s Qd q Q k => hi.sim s q fun y dy S2 H2 g2 r2 ⟨n, ks, e2, e1, q2⟩ => by
    subst e2
    cases r2.of_int
    obtain ⟨a, hσ, b, w, _, hx⟩ := (s.gr g2).sl i _ e1
    refine ⟨.ref a, hσ, a, _, rfl, DGet.k (k := .inl n) hx, _, rfl, ?_⟩
    rw [show (valV (dkv ks) (Sum.inl n)).isSome = decide (n ∈ ks) from valV_map' Sum.inl inl_inj ks n]
    exact k _ _ _ g2 q2⟩
def xK : DX := fun _ Q => Q (.mk [])
def xT : DX := fun _ Q => Q (.mt [])
theorem rx_newK : RX X W (.Dict [] [] pos) tDNewK xK := ⟨pe_dnewK, fun s Qd q Q k p np => k _ (.mk []) _ _ (Gr.newM s.ok s.sub np) ⟨p, rfl, np, s.sub.free np, upd_same⟩ q⟩
theorem rx_newT : RX X W (.Dict [] [] pos) tDNewT xT := ⟨pe_dnewT, fun s Qd q Q k p np => k _ (.mt []) _ _ (Gr.newM s.ok s.sub np) ⟨p, rfl, np, s.sub.free np, upd_same⟩ q⟩
def dNewK : DE := fun _ Q => Q (.dk [])
theorem re_newK : RE X W (.Dict [] [] pos) tDNewK dNewK := ⟨pe_dnewK, fun s Qd q Q k p np => k _ _ _ _ (Gr.new s.ok s.sub np) (.dk upd_same) q⟩
def xK1 (F : DE) : DX := fun ρ Q => F ρ fun d => ∃ k : Int, d = .int k ∧ Q (.mk [k])
theorem rx_newK1 {ev : Expr} {v : Bool} (he : RE X W e te F) {j : Nat} {p2 : Pos} (h2 : v = true := by rfl) : RX X W (.Dict [some e] [.Constant (.bool v) j p2] pos) (tDisp [(te, tC (.bl v))]) (xK1 F) :=
  ⟨pe_disp (pps_cons he.pe pe_bl pps_nil) (by rfl) (by rfl) (fun z => by cases z) (by show 1 ≤ 15; decide), fun {B S0 ρ σ S H} s Qd q Q k p np => by
    subst h2
    have g0 := Gr.newM s.ok s.sub np (o := .dK [])
    refine he.sim (s.gr g0) q fun v d S1 H1 g1 r1 ⟨n, e1, q1⟩ => ?_
    subst e1
    cases r1.of_int
    have nW : ¬ W.at_ p := fun w => by
      obtain ⟨o', h'⟩ := W.dom H p s.ok w
      rw [np] at h'; cases h'
    have h1 : H1 p = some (.dK []) := g1.ex _ _ nW upd_same
    have n1 : S1 p = none := (g1.st p ⟨_, upd_same, .inr fun _ z => nomatch z⟩).trans (s.sub.free np)
    refine ⟨h1, [(.inl n, .bl true)], rfl, by show 1 ≤ 15; decide, ?_⟩
    exact k _ (.mk [n]) S1 _ ((g0.trans g1).updM np n1 s.ok) ⟨p, rfl, np, n1, upd_same⟩ q1⟩

/-! ### calls, defs -/
abbrev FT := Wc → List D → (D → Prop) → Prop
def spD (n : Nat) (Fp : FT) : Sp := fun vs H Q _ => ∃ (W : Wc) (S : Hp) (ds : List D) (Qd : D → Prop), W.ok H ∧ Ex S H ∧ (∀ a, W.at_ a → S a = none) ∧ Reps S vs ds ∧ ds.length = n ∧ Fp W ds Qd ∧
  ∀ v d S' H', Gr W S H S' H' → Rep S' v d → Qd d → Q v H'
def dCall (n : Nat) (Fp : FT) (W : Wc) (FA : DA) : DE := fun ρ Q => FA ρ fun ds => ds.length = n ∧ Fp W ds Q
theorem sim_call {n : Nat} {Fp : FT} {t : TA} {FA : DA} (ha : SimA W t FA) : SimE W (tCall (spD n Fp) [] E0 t) (dCall n Fp W FA) := fun s Qd q Q k =>
  ha s q fun vs ds S1 H1 g1 r1 ⟨e, q1⟩ => by
    rw [List.append_nil]
    exact ⟨W, S1, ds, Qd, g1.ok, g1.sub, (s.gr g1).wat, r1, e, q1, fun v d S' H' g r q' => k v d S' H' (g1.trans g) r q'⟩
theorem re_call {n k : Nat} {Fp : FT} {t : TA} {FA : DA} {f : Addr} {fd : FuncData} {ps : List Str} {x : Str} {p : Pos} {es : List Expr} (hF : FnOk X.prog X.w X.K X.mg X.base CX0 k f fd ps (spD n Fp)) (hr : Room k X.A) (hm : X.mg x = some (.ref f)) (hk : PySem.W.keepIn X.K (.ref f) = true) (hb : Binds X.K fd ps [])
    (ha : RA X W (e :: es) t FA) (hg : Gl X x := by rfl) (hdb : (x == ("__debug__" : Str)) = false := by decide) (he : starEach (e :: es) X.env = (false, eval e X.env) :: starEach es X.env := by rfl) (hpl : (backTo pos (starEach es X.env)).any (·.1) = false := by rfl) :
    RE X W (.Call (.Name x p) (e :: es) [] pos) (tCall (spD n Fp) [] E0 t) (dCall n Fp W FA) := ⟨pe_call hF hr hg hm hk hb .nil pass0 ha.pe hdb he hpl, sim_call ha.sim⟩
def startD (N : List Str) (ds : List D) : List Sl := ds.map Sl.im ++ List.replicate (N.length - ds.length) Sl.no
theorem sr_start {N : List Str} {S H : Hp} {vs : List V} {ds : List D} (ok : W.ok H) (sub : Ex S H) (wat : ∀ a, W.at_ a → S a = none) (r : Reps S vs ds) : SR W H S (startD N ds) (L2.start N vs) S H where
  ok := ok
  base := fun _ _ _ h => h
  dom := fun _ o h => ⟨o, h⟩
  st := fun _ _ => rfl
  ss := fun _ _ h => h
  sub := sub
  wat := wat
  sl := fun i s e => by
    unfold startD at e
    unfold L2.start
    by_cases hi : i < ds.length
    · rw [List.getElem?_append_left (by rw [List.length_map]; exact hi), List.getElem?_map, List.getElem?_eq_getElem hi] at e
      cases e
      obtain ⟨v, hv, rv⟩ := r.get (List.getElem?_eq_getElem hi)
      refine ⟨v, ?_, rv⟩
      rw [List.getElem?_append_left (by rw [List.length_map, r.length]; exact hi), List.getElem?_map, hv]
      rfl
    · rw [List.getElem?_append_right (by rw [List.length_map]; omega)] at e
      have hm := List.mem_of_getElem? e
      rw [(List.mem_replicate.mp hm).2]
      exact True.intro
  ne := fun i j si sj l ei ej mi mj _ _ => by
    have no : ∀ (i : Nat) (s : Sl), (startD N ds)[i]? = some s → s.mut = false := fun i s e => by
      have hm := List.mem_of_getElem? e
      unfold startD at hm
      rcases List.mem_append.mp hm with h | h
      · obtain ⟨d, _, rfl⟩ := List.mem_map.mp h
        rfl
      · rw [(List.mem_replicate.mp h).2]; rfl
    rw [no i si ei] at mi
    cases mi
  len := by
    unfold startD L2.start
    rw [List.length_append, List.length_append, List.length_map, List.length_map, List.length_replicate, List.length_replicate, r.length]
theorem fn_ok {P : Program} {w : World} {K : PySem.W.Frag} {mg : Str → Option Value} {base : Heap} {x qual : Str} {st : Stmt} {f : Addr} {fd : FuncData} {N ps : List Str} {k n : Nat} {Fp : FT} {T : Wc → DS} (F : Fun K x qual st f fd) (S : FnScope N ps (defScope st)) (hn : n = ps.length)
    (hbody : ∀ (cdv : Value) (A : Around) (outer : List Env) (s : Shared) (H : Hp) (E : XK), Room k (A.deeper (envOfC qual (defScope st) s.heap.objs.size f cdv)) → ∀ W : Wc,
      ∃ t, RSs (cxOf CX0 P w K mg base N qual (defScope st) f cdv A outer s H E).nox W (defBody st) t (T W))
    (hT : ∀ (W : Wc) (ds : List D) (Q : D → Prop), ds.length = n → Fp W ds Q → T W { nx := fun _ => Q .non, rt := Q } (startD N ds)) : FnOk P w K mg base CX0 (k + 1) f fd ps (spD n Fp) := by
  refine F.ok S (fun vs H Q E h => ?_) (fun cdv A outer s H vs Q E hr h => ?_)
  · obtain ⟨W, S, ds, Qd, _, _, _, r, e, _⟩ := h
    rw [r.length, e, hn]
  · obtain ⟨W, S, ds, Qd, ok, sub, wat, r, e, q, kk⟩ := h
    obtain ⟨t, ht⟩ := hbody cdv A outer s H E hr W
    have gb : ∀ {ρ' σ' S' H'}, SR W H S ρ' σ' S' H' → Gr W S H S' H' := fun s' => ⟨s'.base, s'.ok, s'.sub, s'.st, s'.ss⟩
    refine ⟨t, ht.pe, ht.sim (sr_start ok sub wat r) (hT W ds Qd e q) ⟨fun ρ' σ' S' H' s' _ q' => kk .non .non S' H' (gb s') .non q', fun ρ' σ' S' H' s' _ q' => q', fun ρ' σ' S' H' s' _ q' => q', fun v d ρ' σ' S' H' s' r' q' => kk v d S' H' (gb s') r' q'⟩⟩
end
end NR
/-! Further rules: y = [..], a, b = x, y by a tuple, calls by what stands at a name, zip of two tuples. -/
namespace NR
open PySem PySem.Spec PyProof.Rows L2
section
variable {X : Cx} {W : Wc} {e ea eb ec : Expr} {pos : Pos} {ta tb tc te : TE} {F G : DE} {st : Stmt} {rest : List Stmt} {t u : TS} {T U : DS}
theorem rs_setLc {i : Nat} {y : Str} {py spos : Pos} {elt tg iter : Expr} {ifs : List Expr} {scope : Scope} {own : List (Str × Nat)} {wi : TI} {I : DA} {g : TG} {gd : DG} {tt : TT} {C : DT} (hN : X.N.Nodup) (hi : RI X W tg iter wi I) (ok : BlkOk X.N X.env.scope scope own) (hw : GIn g (own.map (·.2)))
    (hg : ∀ (s : Shared) (H : Hp) (C' : Addr) (cl : List (Str × Addr)) (fp : List Addr), RG (X.blk s H scope (compEnvC scope cl C' X.env) fp) W tg g gd) (ht : ∀ (s : Shared) (H : Hp) (C' : Addr) (cl : List (Str × Addr)) (fp : List Addr), RTs (X.blk s H scope (compEnvC scope cl C' X.env) fp) W ifs tt C)
    (he : ∀ (s : Shared) (H : Hp) (C' : Addr) (cl : List (Str × Addr)) (fp : List Addr), RE (X.blk s H scope (compEnvC scope cl C' X.env) fp) W elt te F) (hc : X.calm = true := by rfl) (hy : X.N[i]? = some y := by rfl) (hyl : X.env.scope.names.lookup y = some .local := by rfl)
    (hsw : swapsWith (.ListComp elt [⟨tg, iter, ifs, 0⟩] scope pos) (some (.Name y py)) spos.line X.env = pure true := by exact sw_true rfl rfl rfl (by decide +kernel)) (hs : ∀ x, foldedSetIterable iter X.env x = pure x := by intro _; rfl) :
    RS X W (.Assign [.Name y py] (.ListComp elt [⟨tg, iter, ifs, 0⟩] scope pos) spos) (tAsg (tLc wi g tt te (own.map (·.2))) (gName i)) (dAsg i (xE (dL (dComp I gd C F (own.map (·.2)))))) :=
  ⟨ps_setLc hc hN hy hyl hsw hi.pe ok (fun s H C cl fp => (hg s H C cl fp).pe) (fun s H C cl fp => (ht s H C cl fp).pe) (fun s H C cl fp => (he s H C cl fp).pe) hs, fun {B S0 ρ σ S H} s E D' q l => by
    have sl : SimL W (tLc wi g tt te (own.map (·.2))) (dComp I gd C F (own.map (·.2))) := sim_lc hi.sim (hg X.s_0 X.H_0 0 [] []).sim hw (ht X.s_0 X.H_0 0 [] []).sim (he X.s_0 X.H_0 0 [] []).sim
    exact siml_e sl s (Qd := fun d => E.nx (ρ.set i (.im d))) q fun v d S' H' g' r q' => l.nx _ _ S' H' (s.setNew g' (x := .im d) r) (g'.exS s.sub) q'⟩
/-! a, b = x, y by a tuple -/
theorem SR.setNew2 {B S0 S H S1 H1 S2 H2 : Hp} {ρ : List Sl} {σ : L2.St} {i j : Nat} {v w : V} {s1 s2 : Sl} (s : SR W B S0 ρ σ S H) (g1 : Gr W S H S1 H1) (n1 : NewSl S1 H H1 v s1) (g2 : Gr W S1 H1 S2 H2) (n2 : NewSl S2 H1 H2 w s2) :
    SR W B S0 ((ρ.set i s1).set j s2) ((σ.set i (some v)).set j (some w)) S2 H2 := by
  have a1 := (s.setNew (i := i) (g1.trans g2) (n1.gr g1 g2 s.ok))
  by_cases m : s2.mut = true
  · obtain ⟨l2, rfl, n3, n4, ow⟩ := newSl_mut m n2
    have n0 : H l2 = none := g1.back n3
    have nW : ¬ W.at_ l2 := fun w => by
      obtain ⟨o', h'⟩ := W.dom H1 l2 g1.ok w
      rw [n3] at h'; cases h'
    have nB : B l2 = none := by
      cases e : B l2 with
      | none => rfl
      | some o =>
        obtain ⟨o', h'⟩ := s.dom l2 o e
        rw [n0] at h'; cases h'
    refine a1.set (slOk_of m ⟨l2, rfl, nB, nW, n4, ow⟩) fun _ k sk l' hk ek mk el e2 => ?_
    cases el
    by_cases hki : i = k
    · subst hki
      have hil : i < ρ.length := by
        have := (List.getElem?_eq_some_iff.mp ek).1
        rwa [List.length_set] at this
      rw [List.getElem?_set_self hil] at ek
      cases ek
      rw [List.getElem?_set_self (by rw [s.len]; exact hil)] at e2
      have ev : v = .ref l2 := by injection e2 with e2; injection e2
      obtain ⟨l3, e3, _, _, o3⟩ := newSl_mut mk n1
      rw [ev] at e3
      cases e3
      obtain ⟨u, hu⟩ := o3.some
      rw [n3] at hu; cases hu
    · rw [List.getElem?_set_ne hki] at ek e2
      obtain ⟨l3, e3, _, _, _, o3⟩ := slOk_mut mk (s.sl k sk ek)
      rw [e2] at e3
      cases e3
      obtain ⟨u, hu⟩ := o3.some
      rw [n0] at hu; cases hu
  · cases s2 with
    | no => exact a1.setNo
    | im d => exact a1.setIm n2
    | ml ds => exact absurd rfl m
    | mk ks => exact absurd rfl m
    | mt ks => exact absurd rfl m
theorem rs_parT {i j : Nat} {x y : Str} {a b : Expr} {t1 t2 : TE} {F1 F2 : DX} {px py pt : Pos} {kt k2 pt2} (hN : X.N.Nodup) (h1 : RX X W a t1 F1) (h2 : RX X W b t2 F2) (hc : X.calm = true := by rfl) (hi : X.N[i]? = some x := by rfl) (hj : X.N[j]? = some y := by rfl)
    (hx : Loc X.env.scope x := by first | exact .inl rfl | exact .inr rfl) (hy : Loc X.env.scope y := by first | exact .inl rfl | exact .inr rfl) (hfx : X.fn x = true ∨ X.env.scope.names.lookup x = some .local := by first | exact .inl rfl | exact .inr rfl) (hfy : X.fn y = true ∨ X.env.scope.names.lookup y = some .local := by first | exact .inl rfl | exact .inr rfl)
    (na : starEach [a, b] X.env = (false, eval a X.env) :: starEach [b] X.env := by rfl) (nb : starEach [b] X.env = (false, eval b X.env) :: starEach [] X.env := by rfl)
    (hn : (assignEach [.Name x px, .Name y py] X.env).length = 2 := by rfl) (hst : (assignEach [.Name x px, .Name y py] X.env).findIdx? (·.1) = none := by rfl)
    (hs1 : (assignEach [.Name x px, .Name y py] X.env).map (·.2) = assign (.Name x px) X.env :: (assignEach [.Name y py] X.env).map (·.2) := by rfl) (hs2 : (assignEach [.Name y py] X.env).map (·.2) = assign (.Name y py) X.env :: (assignEach [] X.env).map (·.2) := by rfl)
    (hs : swapsWithSole [.Tuple [.Name x px, .Name y py] kt pt] (.Tuple [a, b] k2 pt2) pos.line X.env = pure false := by rfl) (hw : swappedStores [.Tuple [.Name x px, .Name y py] kt pt] (.Tuple [a, b] k2 pt2) X.env = pure none := by rfl)
    (hh : (assignEach [.Tuple [.Name x px, .Name y py] kt pt] X.env).map (·.2) = [assign (.Tuple [.Name x px, .Name y py] kt pt) X.env] := by rfl) :
    RS X W (.Assign [.Tuple [.Name x px, .Name y py] kt pt] (.Tuple [a, b] k2 pt2) pos) (tAsg (tTup (tCons t1 (tCons t2 tNil))) (gTup X.K 2 (gCons (gName i) (gCons (gName j) gNil)))) (dPar i j F1 F2) :=
  ⟨ps_asg (pe_tup (pa_cons h1.pe (pa_cons h2.pe pa_nil nb) na)) (pg_tup hc (pgs_cons (pg_name hN hi hx hfx) (pgs_cons (pg_name hN hj hy hfy) pgs_nil hs2) hs1) hn hst) hs hw hh, fun {B S0 ρ σ S H} s E D' q l =>
    h1.sim s q fun v s1 S1 H1 g1 n1 q1 => h2.sim (s.gr g1) q1 fun w s2 S2 H2 g2 n2 q2 => ⟨by show 2 ≤ sizeLine; decide, fun p np =>
      ⟨p, [v, w], rfl, SqT.of upd_same, rfl, v, [w], rfl, w, [], rfl, rfl, by
        have g3 := Gr.newM g2.ok g2.sub np (o := .tup [v, w])
        exact l.nx _ _ S2 _ (s.setNew2 g1 n1 (g2.trans g3) (n2.gr g2 g3 g1.ok)) ((g1.trans g2).exS s.sub) q2⟩⟩⟩

/-! ### what stands at a name -/
structure Cal (P : Program) (w : World) (K : PySem.W.Frag) (mg : Str → Option Value) (base : Heap) (k : Nat) (x : Str) (ps : List Str) (n : Nat) (Fp : FT) : Prop where
  ex : ∃ f fd, FnOk P w K mg base CX0 k f fd ps (spD n Fp) ∧ mg x = some (.ref f) ∧ PySem.W.keepIn K (.ref f) = true ∧ Binds K fd ps []
theorem Cal.mono {P : Program} {w : World} {K : PySem.W.Frag} {mg : Str → Option Value} {base : Heap} {j k : Nat} {x : Str} {ps : List Str} {n : Nat} {Fp : FT} (c : Cal P w K mg base j x ps n Fp) (h : j ≤ k) : Cal P w K mg base k x ps n Fp := by
  obtain ⟨f, fd, h1, h2⟩ := c.ex
  exact ⟨f, fd, h1.mono h, h2⟩
def tCalX (x : Str) (n : Nat) (Fp : FT) (t : TA) : TE := tCall (spD n Fp) [] E0 t
theorem re_callC {n k : Nat} {Fp : FT} {t : TA} {FA : DA} {ps : List Str} {x : Str} {p : Pos} {es : List Expr} (c : Cal X.prog X.w X.K X.mg X.base k x ps n Fp) (hr : Room k X.A)
    (ha : RA X W (e :: es) t FA) (hg : Gl X x := by rfl) (hdb : (x == ("__debug__" : Str)) = false := by decide) (he : starEach (e :: es) X.env = (false, eval e X.env) :: starEach es X.env := by rfl) (hpl : (backTo pos (starEach es X.env)).any (·.1) = false := by rfl) :
    RE X W (.Call (.Name x p) (e :: es) [] pos) (tCall (spD n Fp) [] E0 t) (dCall n Fp W FA) := by
  obtain ⟨f, fd, h1, h2, h3, h4⟩ := c.ex
  exact re_call h1 hr h2 h3 h4 ha hg hdb he hpl
/-- the built-ins and constants that the text names -/
structure Bl (mg : Str → Option Value) : Prop where
  len_ : mg "len" = none
  range_ : mg "range" = none
  isinstance_ : mg "isinstance" = none
  all_ : mg "all" = none
  sorted_ : mg "sorted" = none
  max_ : mg "max" = none
  min_ : mg "min" = none
  abs_ : mg "abs" = none
  tuple_ : mg "tuple" = none
  list_ : mg "list" = none
  zip_ : mg "zip" = none
  enumerate_ : mg "enumerate" = none
  int_ : mg "int" = none
  bool_ : mg "bool" = none
  str_ : mg "str" = none
  set_ : mg "set" = none
  most_points : ∃ t, mg "MOST_POINTS" = some (.int 12 t)
  most_height : ∃ t, mg "MOST_HEIGHT" = some (.int 99 t)
theorem re_globE {x : Str} {i : Int} (hg : Gl X x) (h : ∃ t, X.mg x = some (.int i t)) (hd : (x == ("__debug__" : Str)) = false := by decide) : RE X W (.Name x pos) (tC (.int i)) (dC (.int i)) := by
  obtain ⟨t, h⟩ := h
  exact re_globI hg h hd

/-! ### zip of two tuples -/
def zipD (ds es : List D) : List D := (ds.zip es).map fun p => .tup [p.1, p.2]
def iZipD (F : DA) : DA := fun ρ Q => F ρ fun xs => ∃ ds es, xs = [.tup ds, .tup es] ∧ ds.length = es.length ∧ Q (zipD ds es)
theorem zipD_len {ds es : List D} (h : ds.length = es.length) : (zipD ds es).length = ds.length := by
  unfold zipD
  rw [List.length_map, List.length_zip, h, Nat.min_self]
theorem zipD_get {ds es : List D} {i : Nat} {d e : D} (h1 : ds[i]? = some d) (h2 : es[i]? = some e) : (zipD ds es)[i]? = some (.tup [d, e]) := by
  unfold zipD
  rw [List.getElem?_map, List.getElem?_zip_eq_some (z := (d, e)) |>.mpr ⟨h1, h2⟩]
  rfl
theorem itzT_ok {K : PySem.W.Frag} {S' : Hp} {a b : Addr} {xs ys : List V} {ds es : List D} (hx : S' a = some (.tup xs)) (hy : S' b = some (.tup ys)) (rx : Reps S' xs ds) (ry : Reps S' ys es) (hl : ds.length = es.length) :
    ∀ i S1 H1, W.ok H1 → Ex S1 H1 → Ex S' S1 → (i < (zipD ds es).length → (RZ.ItzT K a b).go i H1) ∧ ((zipD ds es).length ≤ i → (RZ.ItzT K a b).stop i H1) ∧ ∀ x H2, i < (zipD ds es).length → (RZ.ItzT K a b).yld i H1 x H2 → ∃ d S2, (zipD ds es)[i]? = some d ∧ Gr W S1 H1 S2 H2 ∧ Rep S2 x d :=
  fun i S1 H1 ok sub e => by
    have hx1 := sub _ _ (e _ _ hx)
    have hy1 := sub _ _ (e _ _ hy)
    have l1 := rx.length
    have l2 := ry.length
    rw [zipD_len hl]
    refine ⟨fun hi => ⟨xs, ys, xs[i]'(by omega), ys[i]'(by omega), SqT.of hx1, SqT.of hy1, List.getElem?_eq_getElem _, List.getElem?_eq_getElem _⟩, fun hi => ⟨xs, ys, SqT.of hx1, SqT.of hy1, .inl (by omega)⟩, fun x H2 hi y => ?_⟩
    obtain ⟨T, x', y', rfl, nT, rfl, f1, f2⟩ := y
    obtain ⟨d1, e1, r1⟩ := rx.getV (f1 xs (SqT.of hx1))
    obtain ⟨d2, e2, r2⟩ := ry.getV (f2 ys (SqT.of hy1))
    refine ⟨_, upd S1 T (.tup [x', y']), zipD_get e1 e2, Gr.new ok sub nT, .tup upd_same ?_⟩
    have ex : Ex S' (upd S1 T (.tup [x', y'])) := e.trans (ex_upd (sub.free nT))
    exact .cons (r1.mono ex) (.cons (r2.mono ex) .nil)
theorem ri_zipT {K : PySem.W.Frag} {e2 : Expr} {t : TA} {FA : DA} {p tpos : Pos} {elts : List Expr} {kk : Nat} (hm : X.mg "zip" = none) (ha : RA X W [e, e2] t FA) (hK : X.K = K := by rfl) (hg : Gl X "zip" := by rfl)
    (hs : starEach [e, e2] X.env = (false, eval e X.env) :: starEach [e2] X.env := by rfl) (hpl : (backTo pos (starEach [e2] X.env)).any (·.1) = false := by rfl) :
    RI X W (.Tuple elts kk tpos) (.Call (.Name "zip" p) [e, e2] [] pos) (RZ.iZipA K t) (iZipD FA) := hK ▸
  ⟨RZ.pi_zipA hg hm ha.pe hs hpl, fun s Qd q R k => ha.sim s q fun vs xs S' H' g r ⟨ds, es, e1, hl, q'⟩ => by
    subst e1
    obtain ⟨v, w, rfl, r1, r2⟩ := r.two
    obtain ⟨a, xs, rfl, hx, rx⟩ := r1.of_tup
    obtain ⟨b, ys, rfl, hy, ry⟩ := r2.of_tup
    exact ⟨a, b, xs, ys, rfl, .inr ⟨SqT.of (g.sub _ _ hx), SqT.of (g.sub _ _ hy), k _ (zipD ds es) S' H' g (itzT_ok hx hy rx ry hl) q'⟩⟩⟩
end
end NR
/-! Rules that the layer lacks, from the library's own: d.update(e), enumerate of a tuple, max and min of a pair. -/
namespace NR
open PySem PySem.Spec PyProof.Rows L2
/-! ### d.update(e) -/
section
variable {X : Cx} {W : Wc} {e ea eb ec : Expr} {pos : Pos} {ta tb tc te : TE} {F G : DE} {st : Stmt} {rest : List Stmt} {t u : TS} {T U : DS}
def rUpdK : V → List V → Hp → VK → Prop := fun x vs H Q => ∃ d o kvs more, x = .ref d ∧ vs = [.ref o] ∧ H d = some (.dK kvs) ∧ H o = some (.dK more) ∧ d ≠ o ∧ kvs.length + more.length ≤ sizeLine ∧ Q .non (upd H d (.dK (mergeK kvs more)))
theorem mt_updK : MtM X "dict.update" rUpdK := by
  intro pins s σ H x vs v us Q I rx rv h
  obtain ⟨d, o, kvs, more, rfl, rfl, hd, ho, hne, hl, q⟩ := h
  cases rx
  obtain ⟨u, rfl, ru⟩ := rv.one
  cases ru
  obtain ⟨z1, s1, vs1, rel1, dd1⟩ := dk_of I.hok hd
  obtain ⟨z2, s2, vs2, rel2, dd2⟩ := dk_of I.hok ho
  refine call_meetsIn PySem.F.slot_dict_update dd1.typeIs PySem.F.entry_dict_update (PySem.F.args_dict_update_2 _ _) (meets_dict_update (mixKind X.prog X.w) d o hne s2)
    ⟨vs1, vs2, dd1, dd2, by rw [← rel1.length, ← rel2.length]; exact hl, fun h' dd' _ hs => ?_⟩
  have hx : ∃ q, h'.get? d = some q := let ⟨q, _, _, hq, _⟩ := dd'; ⟨q, hq⟩
  exact ⟨.non, _, d_write (t' := s.toks) I (by rw [hd]; exact True.intro) hs hx (dk_new (Nat.le_trans (length_mergeK more kvs) hl) s1 (KV.merge rel2 rel1) dd'), rfl, q⟩
def unionKs (ks more : List Int) : List Int := more.foldl putKs ks
theorem mergeK_dkv : ∀ (more ks : List Int), mergeK (dkv ks) (dkv more) = dkv (unionKs ks more)
  | [], ks => rfl
  | k :: r, ks => by
    show mergeK (putK (dkv ks) (Sum.inl k) (V.bl true)) (dkv r) = dkv (unionKs (putKs ks k) r)
    rw [show putK (dkv ks) (Sum.inl k) (V.bl true) = dkv (putKs ks k) from putK_map (Sum.inl : Int → Key) inl_inj ks k]
    exact mergeK_dkv r _
def dUpdate (i : Nat) (F : DE) : DS := fun E ρ => ∃ ks, ρ[i]? = some (.mk ks) ∧ F ρ fun d => ∃ more, d = .dk more ∧ ks.length + more.length ≤ 100000 ∧ E.nx (ρ.set i (.mk (unionKs ks more)))
theorem rs_update {i : Nat} {x : Str} {p apos : Pos} {pos' : Pos} (he : RE X W e te F) (hN : X.N[i]? = some x := by rfl) (hv : Vis X.env.scope x := by first | exact Or.inl rfl | exact Or.inr (Or.inl rfl) | exact Or.inr (Or.inr rfl)) (hd : (x == ("__debug__" : Str)) = false := by decide)
    (hcd : (x == ("__classdict__" : Str)) = false := by decide) (hs1 : starEach (e :: []) X.env = (false, eval e X.env) :: starEach [] X.env := by rfl)
    (hbase : attributeBase (.Name x p) "update" X.env (eval (.Name x p) X.env) = eval (.Name x p) X.env := by rfl)
    (hfew : ((backTo pos (starEach (e :: []) X.env)).all (fun x => !x.1) && (backToKw pos (keywordEach [] X.env)).all (fun x => x.1.isSome)
      && decide ((e :: []).length + ([] : List Keyword).length + (if ([] : List Keyword).isEmpty then 0 else 1) < 30)) = true := by rfl)
    (hline : (apos.endLine == pos.line) = true := by rfl) (hplain : (backTo pos (starEach [] X.env)).any (·.1) = false := by rfl)
    (hs : swapsWith (.Call (.Attribute (.Name x p) "update" apos) [e] [] pos) none pos'.line X.env = pure false := by rfl) :
    RS X W (.Expr (.Call (.Attribute (.Name x p) "update" apos) [e] [] pos) pos') (tDrop (tBM X.K "dict" rUpdK (tVar i) (tCons te tNil))) (dUpdate i F) :=
  ⟨ps_expr (pe_bm PySem.F.plainAttrs_dict PySem.F.slot_dict_update PySem.F.type_dict_update mt_updK (pe_var hN hv hd hcd) (pa_cons he.pe pa_nil hs1) hbase hfew hline hs1 hplain) hs, fun {B S0 ρ σ S H} s E D' q l => by
    obtain ⟨ks, e1, q⟩ := q
    obtain ⟨a, hσ, b, w, n, hx⟩ := s.sl i _ e1
    refine ⟨.ref a, hσ, .inr (.inr (.inl ⟨rfl, .inl ⟨_, hx⟩⟩)), he.sim s q fun v d S1 H1 g1 r1 ⟨more, e2, hl, q1⟩ => ?_⟩
    · subst e2
      obtain ⟨o, rfl, ho⟩ := r1.of_dk
      have hx1 : H1 a = some (.dK (dkv ks)) := g1.ex _ _ w hx
      have n1 : S1 a = none := (g1.st _ ⟨_, hx, .inr fun _ z => nomatch z⟩).trans n
      refine ⟨a, o, _, _, rfl, rfl, hx1, g1.sub _ _ ho, fun z => ?_, ?_, ?_⟩
      · rw [← z, n1] at ho; cases ho
      · unfold dkv; rw [List.length_map, List.length_map]; exact small _ hl
      · rw [mergeK_dkv]
        exact l.nx _ _ S1 _ ((s.gr g1).upd (x' := .mk (unionKs ks more)) e1 rfl hσ rfl upd_same) (g1.exS s.sub) q1⟩
/-! ### max and min of a pair of ints -/
def rPairX (lt : Int → Int → Int) (K : PySem.W.Frag) : List V → Hp → VK → Prop := fun vs H Q => ∃ (a : Addr) (i j : Int), vs = [V.ref a] ∧ SqT K H a [.int i, .int j] ∧ Q (.int (lt i j)) H
theorem holds_ints {h : Heap} : ∀ {us : List Value} {ns : List Int}, IntsAre us ns → PySem.W.HoldAll h us ns
  | _, _, .nil => ⟨[], .nil⟩
  | _, _, .cons n t r => by
    obtain ⟨as, q⟩ := holds_ints (h := h) r
    exact ⟨_, .cons (.int n t) q⟩
theorem maxOf2 (i j : Int) : PySem.W.maxOf i [j] = max i j := by
  show (if decide (i < j) = true then j else i) = max i j
  by_cases h : i < j
  · rw [if_pos (decide_eq_true h)]; omega
  · rw [if_neg (by simpa using h)]; omega
theorem minOf2 (i j : Int) : PySem.W.minOf i [j] = min i j := by
  show (if decide (j < i) = true then j else i) = min i j
  by_cases h : j < i
  · rw [if_pos (decide_eq_true h)]; omega
  · rw [if_neg (by simpa using h)]; omega
theorem holds_at {h : Heap} {v : Value} {n : Int} (x : PySem.W.Holds h v n) : ∃ t, v = .int n t := by
  obtain ⟨as, r⟩ := x
  have r' : Reads h v (.int n) as := r
  cases r' with
  | int i t => exact ⟨t, rfl⟩
theorem call_maxP (hc : X.calm = true) (hu : X.A.units + 64 < cLine) : CallR X (.builtin "max") (rPairX max X.K) := by
  intro pins s σ H vs us Q I r h
  obtain ⟨a, i, j, rfl, hs, q⟩ := h
  obtain ⟨its, rv, pt, _⟩ := I.tuple hs
  rw [Vals.ref1 r]
  have hi : IntsAre its [i, j] := Vals.ints (ns := [i, j]) rv
  refine PySem.W.max_tuple_datum (α := Int) (x := i) (xs := [j]) (I.ok.hd hc) (show s.heap.IsTuple a its.toArray from pt) (by simpa using holds_ints hi) (by show X.A.units + 1 + 0 < cLine; omega) fun k v h' tk hk hv keep => ?_
  rw [maxOf2] at hv
  obtain ⟨t, rfl⟩ := holds_at hv
  exact ⟨.int (max i j), H, I.kept keep, ⟨t, rfl⟩, q⟩
theorem call_minP (hc : X.calm = true) (hu : X.A.units + 64 < cLine) : CallR X (.builtin "min") (rPairX min X.K) := by
  intro pins s σ H vs us Q I r h
  obtain ⟨a, i, j, rfl, hs, q⟩ := h
  obtain ⟨its, rv, pt, _⟩ := I.tuple hs
  rw [Vals.ref1 r]
  have hi : IntsAre its [i, j] := Vals.ints (ns := [i, j]) rv
  refine PySem.W.min_tuple_datum (α := Int) (x := i) (xs := [j]) (I.ok.hd hc) (show s.heap.IsTuple a its.toArray from pt) (by simpa using holds_ints hi) (by show X.A.units + 1 + 0 < cLine; omega) fun k v h' tk hk hv keep => ?_
  rw [minOf2] at hv
  obtain ⟨t, rfl⟩ := holds_at hv
  exact ⟨.int (min i j), H, I.kept keep, ⟨t, rfl⟩, q⟩
def fMaxP : List D → (D → Prop) → Prop := fun ds Q => ∃ i j : Int, ds = [.tup [.int i, .int j]] ∧ Q (.int (max i j))
def fMinP : List D → (D → Prop) → Prop := fun ds Q => ∃ i j : Int, ds = [.tup [.int i, .int j]] ∧ Q (.int (min i j))
theorem c_maxP {K : PySem.W.Frag} (hu : X.A.units + 64 < cLine) (hc : X.calm = true := by rfl) (hK : X.K = K := by rfl) : CB X W (.builtin "max") (rPairX max K) fMaxP := hK ▸ ⟨call_maxP hc hu, fun ok sub r Qd q Q k => by
  obtain ⟨i, j, rfl, q⟩ := q
  obtain ⟨v, rfl, r1⟩ := r.one
  obtain ⟨a, xs, rfl, h, rs⟩ := r1.of_tup
  obtain ⟨x, y, rfl, r1, r2⟩ := rs.two
  cases r1.of_int
  cases r2.of_int
  exact ⟨a, i, j, rfl, SqT.of (sub _ _ h), k _ _ _ _ (Gr.refl ok sub) (.int _) q⟩⟩
theorem c_minP {K : PySem.W.Frag} (hu : X.A.units + 64 < cLine) (hc : X.calm = true := by rfl) (hK : X.K = K := by rfl) : CB X W (.builtin "min") (rPairX min K) fMinP := hK ▸ ⟨call_minP hc hu, fun ok sub r Qd q Q k => by
  obtain ⟨i, j, rfl, q⟩ := q
  obtain ⟨v, rfl, r1⟩ := r.one
  obtain ⟨a, xs, rfl, h, rs⟩ := r1.of_tup
  obtain ⟨x, y, rfl, r1, r2⟩ := rs.two
  cases r1.of_int
  cases r2.of_int
  exact ⟨a, i, j, rfl, SqT.of (sub _ _ h), k _ _ _ _ (Gr.refl ok sub) (.int _) q⟩⟩
end

/-! ### for i, x in enumerate(t), t a tuple -/
theorem enum_new_tup (a : Addr) (xs : Array Value) (k : Nat) (dd : Option Addr) (sl : Array (Option Value)) :
    Meets (Builtin.«enumerate.__new__» ⟨[.type "enumerate", .ref a], []⟩) (fun _ R s => s.heap.get? a = some { cls := .type "tuple", dict := dd, data := .seq xs k, slots := sl } ∧
      R (.ok (.ret (.ref (s.heap.push { cls := .type "tuple_iterator", data := .fields #[.ref a, .int 0 0] }).objs.size)))
        { s with heap := (s.heap.push { cls := .type "tuple_iterator", data := .fields #[.ref a, .int 0 0] }).push { cls := .type "enumerate", data := .fields #[.none, .bool false, .ref s.heap.objs.size, rawInt 0, .none, .none] } }) :=
  .of_wp fun prog w A R s h => by
    obtain ⟨hp, g, d, tk, os⟩ := s; obtain ⟨ht, h⟩ := h
    have sb := sub_enumerate
    have hT : Heap.IsTuple (Shared.heap ⟨hp, g, d, tk, os⟩) a xs := ⟨_, ht, rfl, k, rfl⟩
    wp_walk using AutoSeq1.wpAny_loadPart' ht
    refine wpAny_stack_any fun st => wpAny_pure ?_
    split
    · rename_i c _ _ _ _ _
      cases (c == Value.type "enumerate")
      · wp_walk using AutoSeq1.wpAny_loadPart' ht, wpAny_pyIter_tuple hT
        exact ⟨_, rfl, h⟩
      · wp_walk using AutoSeq1.wpAny_loadPart' ht, wpAny_pyIter_tuple hT
        exact ⟨_, rfl, h⟩
    · wp_walk using AutoSeq1.wpAny_loadPart' ht, wpAny_pyIter_tuple hT
      exact ⟨_, rfl, h⟩
theorem call_enumT {prog : Program} {w : World} {A : Around} {E : Value → Shared → Prop} {s : Shared} {a : Addr} {xs : Array Value} {Q : Value → Shared → Prop} (hT : s.heap.IsTuple a xs)
    (h : ∀ h', IsEnum h' (s.heap.objs.size + 1) s.heap.objs.size 0 .none → h'.IsTupleIter s.heap.objs.size a 0 → h'.objs.size = s.heap.objs.size + 2 → (∀ b o, s.heap.get? b = some o → h'.get? b = some o) → Q (.ref (s.heap.objs.size + 1)) { s with heap := h' }) :
    wpAny (model prog w) A (call (.type "enumerate") [.ref a]) Q E s := by
  obtain ⟨⟨c, dd, dt, sl⟩, ht, hc, n, hd⟩ := hT
  simp only at hc hd
  subst hc hd
  refine callType_new F.called_enumerate (by decide) (F.typeCall_enumerate_1 _) (F.newCall_enumerate_1 _) (fun obj => F.args_object_init_2 obj _) F.entry_enumerate_new (enum_new_tup a xs n dd sl) ⟨ht, ?_⟩
  have hz : ∀ o, (s.heap.push o).objs.size = s.heap.objs.size + 1 := fun o => Heap.size_push ..
  show _ ∧ _
  rw [hz]
  have he := Heap.get?_push_size (s.heap.push { cls := .type "tuple_iterator", data := .fields #[.ref a, .int 0 0] }) (o := { cls := .type "enumerate", data := .fields #[.none, .bool false, .ref s.heap.objs.size, rawInt 0, .none, .none] }) rfl
  rw [hz] at he
  exact ⟨⟨_, he, rfl⟩, h _ he ⟨_, Heap.get?_push_of_some _ (Heap.get?_push_size _ rfl), rfl, rfl⟩ (by rw [Heap.size_push, hz]) fun b o x => Heap.get?_push_of_some _ (Heap.get?_push_of_some _ x)⟩
/-- (0, x), (1, y), .. of the tracked tuple at a, each pair new -/
def Iet (a : Addr) : It := ⟨fun i H => ∃ xs x, H a = some (.tup xs) ∧ xs[i]? = some x, fun i H v H' => ∃ T x, v = .ref T ∧ H T = none ∧ H' = upd H T (.tup [.int (i : Nat), x]) ∧ ∀ xs, H a = some (.tup xs) → xs[i]? = some x, fun i H => ∃ xs, H a = some (.tup xs) ∧ xs.length ≤ i⟩
theorem enum_end_tup {prog : Program} {w : World} {A : Around} {E : Value → Shared → Prop} {s : Shared} {e it a : Addr} {c : Int} {i : Nat} {xs : Array Value} {old : Value} {Q : Option Value → Shared → Prop} (hh : A.handled = none)
    (he : IsEnum s.heap e it c old) (hit : s.heap.IsTupleIter it a i) (hl : s.heap.IsTuple a xs) (hx : xs[i]? = none) (hQ : ∀ h', Heap.ExtBut it s.heap h' → Q none { s with heap := h' }) : wpAny (model prog w) A (pyNext (.ref e)) Q E s := by
  have ty : s.TypeIs (.ref e) "enumerate" := ⟨_, he, rfl⟩
  unfold pyNext
  refine wpAny_bind (wpAny_attempt (wpAny_callSpecial?_slot (name := Str.ofString "__next__") ty F.slot_enumerate_next (wpAny_call_entry F.slot_enumerate_next ty F.entry_enumerate_next ?_ (F.args_enumerate_next_1 _))))
  show wpAny _ _ (field (.ref e) 2 >>= _) _ _ _
  refine wpAny_bind (wpAny_field he rfl (x := .ref it) rfl ?_)
  refine wpAny_bind (wpAny_nextOf_tuple_end hh hit hl hx fun h' x eb hx' => ?_)
  obtain ⟨o, ho, hc⟩ := hx'
  exact wpAny_bind (wpAny_isInstance (T := "StopIteration") (b := true) ⟨o, ho, hc⟩ isSubtype_stop (wpAny_pure (hQ _ eb)))
theorem turn_enumT {P : Program} {w : World} {K : PySem.W.Frag} {elts : List Expr} {kk : Nat} {tpos : Pos} (a e it : Addr) : Turn P w K (.Tuple elts kk tpos) (Iet a) [e, it] e (fun i h => (∃ old, IsEnum h e it ((i : Nat) : Int) old) ∧ h.IsTupleIter it a i ∧ e ≠ it) where
  mem := by simp
  obj := fun i h st b hb => by
    obtain ⟨⟨old, he⟩, ⟨o, ho, _, hd⟩, _⟩ := st
    rcases List.mem_cons.mp hb with z | z
    · rw [z]; exact ⟨_, he, fun v q => by cases q⟩
    · rw [List.mem_singleton.mp z]; exact ⟨o, ho, fun v q => by rw [hd] at q; cases q⟩
  keep := fun i h h' st k => ⟨let ⟨old, he⟩ := st.1; ⟨old, k e (by simp) _ he⟩, st.2.1.at fun o q => k it (by simp) o q, st.2.2⟩
  item := by
    intro X hP hw hK hc i pins s σ H E I hf st hg
    subst hP hw hK
    obtain ⟨⟨old, he⟩, hit, hne⟩ := st
    obtain ⟨xs, x, hq, hx⟩ := hg
    obtain ⟨its, rv, pt, _⟩ := I.tuple (SqT.of hq)
    obtain ⟨u, hu, ru⟩ := rv.get hx
    have hae : e ≠ a := fun z => by rw [← z, (hf e (by simp)).1] at hq; cases hq
    have hai : a ≠ it := fun z => by rw [z, (hf it (by simp)).1] at hq; cases hq
    have hlen : i < its.toArray.size := by
      have := (List.getElem?_eq_some_iff.mp hu).1
      simpa using this
    refine wpAny_pyNext_enum_itemC (Draws.tuple (A := X.A.in1) (I.ok.hd hc) it a hai its.toArray) he ⟨hit, show s.heap.IsTuple a its.toArray from pt⟩ hlen hne (by simp [hne, hae]) fun y h' tk hy ho hst hT hsz hk => ?_
    have ey : y = u := by
      have h1 : its.toArray[i]? = some u := by simpa using hu
      rw [hy] at h1; exact Option.some.inj h1
    subst ey
    refine ⟨_, rfl, wpAny_letOwnedTupleGo_enum (s := { s with heap := h', toks := tk + 1 }) ho fun h2 he2 sb => ?_⟩
    have hel : e < s.heap.objs.size := Heap.lt_size he
    have hil : it < s.heap.objs.size := by obtain ⟨_, q, _⟩ := hit; exact Heap.lt_size q
    have hT2 : h2.get? s.heap.objs.size = some { cls := .type "tuple", data := .seq #[.int i tk, y] } := (sb.2 _ (Nat.ne_of_gt hel)).trans hT
    have new : ObjOk X.prog X.w (upd H s.heap.objs.size (.tup [.int (i : Nat), x])) h2 s.heap.objs.size (.tup [.int (i : Nat), x]) := ⟨by show 2 ≤ sizeLine; decide, [.int i tk, y], .cons ⟨_, rfl⟩ (.cons ru .nil), ⟨_, hT2, rfl, _, rfl⟩⟩
    have I1 : Inv X pins σ (upd H s.heap.objs.size (.tup [.int (i : Nat), x])) { s with heap := h2, toks := tk + 1 } :=
      I.turnedNew (ch := [e, it]) (fun b ob hb q => (sb.2 b (fun z => hb (by simp [z]))).trans (hk b ob (fun z => hb (by simp [z])) (fun z => hb (by simp [z])) q)) hf (Nat.le_refl _) new
    refine ⟨.ref s.heap.objs.size, _, I1, rfl, ⟨_, x, rfl, I.hok.fresh (Nat.le_refl _), rfl, fun ys hys => by rw [hq] at hys; cases hys; exact hx⟩, ⟨⟨y, ?_⟩, hst.1.at fun o q => (sb.2 it (Ne.symm hne)).trans q, hne⟩, fun b hb => ?_⟩
    · have e1 : ((i + 1 : Nat) : Int) = (i : Int) + 1 := by omega
      rw [e1]; exact he2
    · have hb' : b < s.heap.objs.size := by
        rcases List.mem_cons.mp hb with z | z
        · rw [z]; exact hel
        · rw [List.mem_singleton.mp z]; exact hil
      rw [upd_ne (Nat.ne_of_lt hb')]
      exact (hf b hb).1
  done := by
    intro X hP hw hK hc i pins s σ H E I hf st hg
    subst hP hw hK
    obtain ⟨⟨old, he⟩, hit, hne⟩ := st
    obtain ⟨xs, hq, hx⟩ := hg
    obtain ⟨its, rv, pt, _⟩ := I.tuple (SqT.of hq)
    obtain ⟨f0, f1, f2, f3, f4, f5⟩ := hf it (by simp)
    have hai : a ≠ it := fun z => by rw [z, f0] at hq; cases hq
    have hl := rv.length
    exact enum_end_tup (I.ok.hd hc) he hit (show s.heap.IsTuple a its.toArray from pt) (by simp; omega) fun h' eb => ⟨rfl, I.turned (t' := s.toks) (fun b o hb q => eb b o hb q) f0 f1 f3 f4 f5⟩
  self := fun A i s Q E st h => let ⟨_, he⟩ := st.1; wpAny_pyIter_enum he h

def iEnT (ta : TA) : TI := fun σ H R => ta σ H fun vs H1 => ∃ a xs, vs = [.ref a] ∧ H1 a = some (.tup xs) ∧ R (Iet a) H1
theorem pi_enumT {X : Cx} {e : Expr} {ta : TA} {p pos tpos : Pos} {elts : List Expr} {kk : Nat} (hg : Gl X "enumerate") (hm : X.mg "enumerate" = none) (ha : PA X [e] ta) (hs : starEach [e] X.env = [(false, eval e X.env)] := by rfl) : PI X (.Tuple elts kk tpos) (.Call (.Name "enumerate" p) [e] [] pos) (iEnT ta) := by
  refine ⟨fun pins s σ H R I h => ?_⟩
  refine Call_ (ld_blt I hg hm boot_enumerate (PyProof.Rows.callWith_type1 (thn (ha.run pos pins s σ H _ I h) fun us s1 ⟨vs, H1, I1, r1, a, xs, ex, hq, q⟩ => ?_) hs rfl))
  subst ex
  rw [Vals.ref1 r1]
  obtain ⟨its, rv, pt, _⟩ := I1.tuple (SqT.of hq)
  refine call_enumT (show s1.heap.IsTuple a its.toArray from pt) fun h' he hit hsz hk => wpAny_pyIter_enum he ?_
  have I2 : Inv X pins σ H1 { s1 with heap := h' } := I1.kept (t' := s1.toks) hk
  refine ⟨s1.heap.objs.size + 1, [s1.heap.objs.size + 1, s1.heap.objs.size], _, _, H1, rfl, I2, turn_enumT a (s1.heap.objs.size + 1) s1.heap.objs.size, ⟨⟨.none, he⟩, hit, Nat.succ_ne_self _⟩, fun b hb => ?_, q⟩
  have hle : s1.heap.objs.size ≤ b := by
    rcases List.mem_cons.mp hb with z | z
    · rw [z]; exact Nat.le_succ _
    · rw [List.mem_singleton.mp z]; exact Nat.le_refl _
  exact I1.fpOk hle (I1.hok.fresh hle)
def enD (ds : List D) : List D := (List.range ds.length).map fun i => .tup [.int (i : Nat), ds.getD i .non]
theorem enD_len (ds : List D) : (enD ds).length = ds.length := by unfold enD; rw [List.length_map, List.length_range]
theorem enD_get {ds : List D} {i : Nat} {d : D} (h : ds[i]? = some d) : (enD ds)[i]? = some (.tup [.int (i : Nat), d]) := by
  unfold enD
  rw [List.getElem?_map, List.getElem?_range (List.getElem?_eq_some_iff.mp h).1]
  show some (D.tup [.int (i : Nat), ds.getD i .non]) = _
  rw [List.getD_eq_getElem?_getD, h]
  rfl
def iEnumT (F : DA) : DA := fun ρ Q => F ρ fun xs => ∃ ds, xs = [.tup ds] ∧ Q (enD ds)
theorem ri_enumT {K : PySem.W.Frag} {X : Cx} {W : Wc} {e : Expr} {t : TA} {FA : DA} {p pos tpos : Pos} {elts : List Expr} {kk : Nat} (hm : X.mg "enumerate" = none) (ha : RA X W [e] t FA) (hg : Gl X "enumerate" := by rfl) (hs : starEach [e] X.env = [(false, eval e X.env)] := by rfl) :
    RI X W (.Tuple elts kk tpos) (.Call (.Name "enumerate" p) [e] [] pos) (iEnT t) (iEnumT FA) := ⟨pi_enumT hg hm ha.pe hs, fun s Qd q R k => ha.sim s q fun vs xs S' H' g r ⟨ds, e1, q'⟩ => by
    subst e1
    obtain ⟨v, rfl, r1⟩ := r.one
    obtain ⟨a, ys, rfl, hx, rx⟩ := r1.of_tup
    refine ⟨a, ys, rfl, g.sub _ _ hx, k _ (enD ds) S' H' g (fun i S1 H1 ok sub e => ?_) q'⟩
    have hx1 := sub _ _ (e _ _ hx)
    have l1 := rx.length
    rw [enD_len]
    refine ⟨fun hi => ⟨ys, ys[i]'(by omega), hx1, List.getElem?_eq_getElem _⟩, fun hi => ⟨ys, hx1, by omega⟩, fun x H2 hi y => ?_⟩
    obtain ⟨T, x', rfl, nT, rfl, f1⟩ := y
    obtain ⟨d1, e1, r1⟩ := rx.getV (f1 ys hx1)
    exact ⟨_, upd S1 T (.tup [.int (i : Nat), x']), enD_get e1, Gr.new ok sub nT, .tup upd_same (.cons (.int _) (.cons (r1.mono (e.trans (ex_upd (sub.free nT)))) .nil))⟩⟩
end NR
/-! for p in zip(t, u), tuples t and u, p a name: the pair of a turn stays held by the name, so each turn makes a new one. -/
namespace NR
open PySem PySem.Spec PyProof.Rows L2
section
variable {prog : Program} {w : World} {A : Around} {E : Value → Shared → Prop} {s : Shared}
theorem zipH_next {z TI TO T i1 i2 a b : Addr} {f : Bool} {oT : Obj} {k m : Nat} {xs ys : Array Value} {x y : Value} {Q : Option Value → Shared → Prop} (D : ZipApart z TI TO i1 i2 a b)
    (hz : IsZipHeld s.heap z TI TO T f) (hT : s.heap.get? T = some oT) (hTI : IsPair s.heap TI (.ref i1) (.ref i2)) (h1 : s.heap.IsTupleIter i1 a k) (h2 : s.heap.IsTupleIter i2 b m)
    (ta : s.heap.IsTuple a xs) (tb : s.heap.IsTuple b ys) (hx : xs[k]? = some x) (hy : ys[m]? = some y)
    (hQ : ∀ h', IsZipHeld h' z TI TO T true → h'.IsTupleIter i1 a (k + 1) → h'.IsTupleIter i2 b (m + 1) → h'.get? s.heap.objs.size = some { cls := .type "tuple", data := .seq #[x, y] } →
      (∀ c o, c ≠ z → c ≠ i1 → c ≠ i2 → s.heap.get? c = some o → h'.get? c = some o) → Q (some (.ref s.heap.objs.size)) { s with heap := h' }) : wpAny (model prog w) A (pyNext (.ref z)) Q E s := by
  have ty : s.TypeIs (.ref z) "zip" := ⟨_, hz, rfl⟩
  unfold pyNext
  refine wpAny_bind (wpAny_attempt (wpAny_callSpecial?_slot (name := Str.ofString "__next__") ty F.slot_zip_next (wpAny_call_entry F.slot_zip_next ty F.entry_zip_next ?_ (F.args_zip_next_1 _))))
  show wpAny _ _ (field (.ref z) 2 >>= _) _ _ _
  refine wpAny_bind (wpAny_field hz rfl (x := .bool false) rfl ?_)
  show wpAny _ _ (field (.ref z) 3 >>= _) _ _ _
  refine wpAny_bind (wpAny_field hz rfl (x := .ref TI) rfl (wpAny_bind (wpAny_seqItems hTI rfl ?_)))
  show wpAny _ _ (Builtin.SmallTypes.ownedTupleIsFree (.ref z) >>= _) _ _ _
  refine wpAny_bind (wpAny_tupleHeld_zip hz hT fun ha za sa => ?_)
  simp only [Bool.false_eq_true, if_false]
  refine wpAny_bind ?_
  rw [← Array.forIn_toList]
  simp only [List.forIn_cons, List.forIn_nil]
  refine wpAny_bind (wpAny_bind (wpAny_holding ?_))
  show wpAny _ _ (Builtin.SmallTypes.nextOf (.ref i1) >>= _) _ _ _
  have e1 := h1.extBut sa.extBut D.i1z
  have u1 := ta.extBut sa.extBut D.l1z
  refine wpAny_bind (wpAny_nextOf_tuple_item (s := { s with heap := ha }) e1 u1 hx fun hb f1 sb => wpAny_pure (wpAny_pure ?_))
  refine wpAny_bind (wpAny_bind (wpAny_holding ?_))
  show wpAny _ _ (Builtin.SmallTypes.nextOf (.ref i2) >>= _) _ _ _
  have e2 := (h2.extBut sa.extBut D.i2z).extBut sb.extBut D.i12.symm
  have u2 := (tb.extBut sa.extBut D.l2z).extBut sb.extBut D.l2i1
  refine wpAny_bind (wpAny_nextOf_tuple_item (s := { s with heap := hb }) e2 u2 hy fun hc f2 sc => wpAny_pure (wpAny_pure (wpAny_pure ?_)))
  show wpAny _ _ (newTuple [x, y] >>= _) _ _ _
  refine wpAny_bind (wpAny_newTuple (wpAny_pure ⟨_, rfl, wpAny_pure ?_⟩))
  have sz : hc.objs.size = s.heap.objs.size := by rw [sc.1, sb.1, sa.1]
  have zc : IsZipHeld hc z TI TO T true := sc.extBut _ _ D.i2z.symm (sb.extBut _ _ D.i1z.symm za)
  have np := Heap.get?_push_size hc (o := { cls := .type "tuple", data := .seq #[x, y] }) rfl
  show Q (some (.ref hc.objs.size)) _
  rw [sz] at np ⊢
  exact hQ _ (Heap.get?_push_of_some _ zc) ((f1.extBut sc.extBut D.i12).at fun o e => Heap.get?_push_of_some _ e) (f2.at fun o e => Heap.get?_push_of_some _ e) np
    fun c o c1 c2 c3 e => Heap.get?_push_of_some _ (sc.extBut _ _ c3 (sb.extBut _ _ c2 (sa.extBut _ _ c1 e)))
theorem zipH_end {z TI TO T i1 i2 a b : Addr} {f : Bool} {oT : Obj} {k m : Nat} {xs ys : Array Value} {Q : Option Value → Shared → Prop} (hh : A.handled = none) (D : ZipApart z TI TO i1 i2 a b)
    (hz : IsZipHeld s.heap z TI TO T f) (hT : s.heap.get? T = some oT) (hTI : IsPair s.heap TI (.ref i1) (.ref i2)) (h1 : s.heap.IsTupleIter i1 a k) (ta : s.heap.IsTuple a xs) (hx : xs[k]? = none)
    (hQ : ∀ h', (∀ c o, c ≠ z → c ≠ i1 → c ≠ i2 → s.heap.get? c = some o → h'.get? c = some o) → Q none { s with heap := h' }) : wpAny (model prog w) A (pyNext (.ref z)) Q E s := by
  have ty : s.TypeIs (.ref z) "zip" := ⟨_, hz, rfl⟩
  unfold pyNext
  refine wpAny_bind (wpAny_attempt (wpAny_callSpecial?_slot (name := Str.ofString "__next__") ty F.slot_zip_next (wpAny_call_entry F.slot_zip_next ty F.entry_zip_next ?_ (F.args_zip_next_1 _))))
  show wpAny _ _ (field (.ref z) 2 >>= _) _ _ _
  refine wpAny_bind (wpAny_field hz rfl (x := .bool false) rfl ?_)
  show wpAny _ _ (field (.ref z) 3 >>= _) _ _ _
  refine wpAny_bind (wpAny_field hz rfl (x := .ref TI) rfl (wpAny_bind (wpAny_seqItems hTI rfl ?_)))
  show wpAny _ _ (Builtin.SmallTypes.ownedTupleIsFree (.ref z) >>= _) _ _ _
  refine wpAny_bind (wpAny_tupleHeld_zip hz hT fun ha za sa => ?_)
  simp only [Bool.false_eq_true, if_false]
  refine wpAny_bind ?_
  rw [← Array.forIn_toList]
  simp only [List.forIn_cons, List.forIn_nil]
  refine wpAny_bind (wpAny_bind (wpAny_holding ?_))
  show wpAny _ _ (Builtin.SmallTypes.nextOf (.ref i1) >>= _) _ _ _
  refine wpAny_bind (wpAny_nextOf_tuple_end (s := { s with heap := ha }) hh (h1.extBut sa.extBut D.i1z) (ta.extBut sa.extBut D.l1z) hx fun hb e sb he => ?_)
  obtain ⟨o, ho, hc⟩ := he
  exact wpAny_bind (wpAny_isInstance (T := "StopIteration") (b := true) ⟨o, ho, hc⟩ isSubtype_stop (wpAny_pure (hQ _ fun c o c1 c2 _ x => sb _ _ c2 (sa.extBut _ _ c1 x))))

/-- a zip's record, what it says of its last pair: v, f -/
abbrev ZipS (h : Heap) (z TI TO : Addr) (v : Value) (f : Bool) : Prop := h.get? z = some { cls := .type "zip", dict := none, data := .fields #[v, .bool f, .bool false, .ref TI, .ref TO], slots := #[] }
/-- its last pair is free -/
def ZFree (h : Heap) (v : Value) : Prop := v = .none ∨ ∃ T : Addr, v = rawInt T ∧ h.get? T = none
theorem alive_none {a : Addr} {Q : Option Obj → Shared → Prop} (ha : s.heap.get? a = none) (h : Q none s) : wpAny (model prog w) A (loadIfAlive a) Q E s := by
  have h' : Q (s.heap.get? a) s := by
    rw [ha]
    exact h
  intro _ _ _
  exact h'
theorem zfree {z TI TO : Addr} {v : Value} {f : Bool} {Q : Bool → Shared → Prop} (hz : ZipS s.heap z TI TO v f) (hv : ZFree s.heap v) (q : Q true s) : wpAny (model prog w) A (Builtin.SmallTypes.ownedTupleIsFree (.ref z)) Q E s := by
  unfold Builtin.SmallTypes.ownedTupleIsFree
  rcases hv with rfl | ⟨T, rfl, hT⟩
  · exact wpAny_bind (wpAny_field hz rfl (x := .none) rfl (wpAny_pure q))
  · refine wpAny_bind (wpAny_field hz rfl (x := rawInt T) rfl ?_)
    show wpAny _ _ (loadIfAlive ((T : Int).toNat) >>= _) _ _ _
    rw [Int.toNat_natCast]
    refine wpAny_bind (alive_none hT ?_)
    simp only [Option.isNone_none, if_true]
    exact wpAny_pure q
theorem zipF_next {z TI TO i1 i2 a b : Addr} {v p q : Value} {f : Bool} {k m : Nat} {xs ys : Array Value} {x y : Value} {Q : Option Value → Shared → Prop} (D : ZipApart z TI TO i1 i2 a b)
    (hz : ZipS s.heap z TI TO v f) (hv : ZFree s.heap v) (hTI : IsPair s.heap TI (.ref i1) (.ref i2)) (hTO : IsPair s.heap TO p q) (h1 : s.heap.IsTupleIter i1 a k) (h2 : s.heap.IsTupleIter i2 b m)
    (ta : s.heap.IsTuple a xs) (tb : s.heap.IsTuple b ys) (hx : xs[k]? = some x) (hy : ys[m]? = some y)
    (hQ : ∀ h', ZipS h' z TI TO (rawInt s.heap.objs.size) false → IsPair h' TO x y → h'.IsTupleIter i1 a (k + 1) → h'.IsTupleIter i2 b (m + 1) → h'.get? s.heap.objs.size = some { cls := .type "tuple", data := .seq #[x, y] } →
      (∀ c o, c ≠ z → c ≠ TO → c ≠ i1 → c ≠ i2 → s.heap.get? c = some o → h'.get? c = some o) → Q (some (.ref s.heap.objs.size)) { s with heap := h' }) : wpAny (model prog w) A (pyNext (.ref z)) Q E s := by
  have ty : s.TypeIs (.ref z) "zip" := ⟨_, hz, rfl⟩
  unfold pyNext
  refine wpAny_bind (wpAny_attempt (wpAny_callSpecial?_slot (name := Str.ofString "__next__") ty F.slot_zip_next (wpAny_call_entry F.slot_zip_next ty F.entry_zip_next ?_ (F.args_zip_next_1 _))))
  show wpAny _ _ (field (.ref z) 2 >>= _) _ _ _
  refine wpAny_bind (wpAny_field hz rfl (x := .bool false) rfl ?_)
  show wpAny _ _ (field (.ref z) 3 >>= _) _ _ _
  refine wpAny_bind (wpAny_field hz rfl (x := .ref TI) rfl (wpAny_bind (wpAny_seqItems hTI rfl ?_)))
  show wpAny _ _ (Builtin.SmallTypes.ownedTupleIsFree (.ref z) >>= _) _ _ _
  refine wpAny_bind (zfree hz hv ?_)
  simp only [if_true]
  refine wpAny_bind (wpAny_rule (wpAny_bind (wpAny_field hz rfl (x := .ref TO) rfl (wpAny_bind (wpAny_setField_rec hz (by simp) fun ha za sa => ?_)))))
  replace za : ZipS ha z TI TO .ellipsis f := za
  refine wpAny_bind ?_
  simp only [List.zipIdx_cons, List.zipIdx_nil, List.forIn_cons, List.forIn_nil]
  refine wpAny_bind (wpAny_bind (wpAny_onRaise ?_))
  show wpAny _ _ (Builtin.SmallTypes.nextOf (.ref i1) >>= _) _ _ _
  refine wpAny_bind (wpAny_nextOf_tuple_item (s := { s with heap := ha }) (h1.extBut sa.extBut D.i1z) (ta.extBut sa.extBut D.l1z) hx fun hb f1 sb => wpAny_pure ?_)
  have tb2 : IsPair hb TO p q := sb.extBut _ _ D.TOi1 (sa.extBut _ _ D.TOz hTO)
  refine wpAny_bind (wpAny_seqItems tb2 rfl (wpAny_bind (wpAny_updateSeq_pair tb2 fun hc tc sc => ?_)))
  replace tc : IsPair hc TO x q := tc
  refine wpAny_bind (wpAny_letGo (wpAny_pure ?_))
  refine wpAny_bind (wpAny_bind (wpAny_onRaise ?_))
  show wpAny _ _ (Builtin.SmallTypes.nextOf (.ref i2) >>= _) _ _ _
  have e2 := ((h2.extBut sa.extBut D.i2z).extBut sb.extBut D.i12.symm).extBut sc.extBut D.TOi2.symm
  have u2 := ((tb.extBut sa.extBut D.l2z).extBut sb.extBut D.l2i1).extBut sc.extBut D.l2TO
  refine wpAny_bind (wpAny_nextOf_tuple_item (s := { s with heap := hc }) e2 u2 hy fun hd f2 sd => wpAny_pure ?_)
  have td : IsPair hd TO x q := sd.extBut _ _ D.TOi2 tc
  refine wpAny_bind (wpAny_seqItems td rfl (wpAny_bind (wpAny_updateSeq_pair td fun he te se => ?_)))
  replace te : IsPair he TO x y := te
  refine wpAny_bind (wpAny_letGo (wpAny_pure (wpAny_pure ?_)))
  refine wpAny_bind (wpAny_seqItems te rfl (wpAny_bind (wpAny_newTuple ?_)))
  have sz : he.objs.size = s.heap.objs.size := by rw [se.1, sd.1, sc.1, sb.1, sa.1]
  have ze : ZipS he z TI TO .ellipsis f := se.extBut _ _ D.TOz.symm (sd.extBut _ _ D.i2z.symm (sc.extBut _ _ D.TOz.symm (sb.extBut _ _ D.i1z.symm za)))
  have kp : ∀ c o, c ≠ z → c ≠ TO → c ≠ i1 → c ≠ i2 → s.heap.get? c = some o → he.get? c = some o := fun c o n1 n2 n3 n4 e =>
    se.extBut _ _ n2 (sd.extBut _ _ n4 (sc.extBut _ _ n2 (sb.extBut _ _ n3 (sa.extBut _ _ n1 e))))
  have g1 : he.IsTupleIter i1 a (k + 1) := ((f1.extBut sc.extBut D.TOi1.symm).extBut sd.extBut D.i12).extBut se.extBut D.TOi1.symm
  have g2 : he.IsTupleIter i2 b (m + 1) := f2.extBut se.extBut D.TOi2.symm
  have lz : z < he.objs.size := Heap.lt_size ze
  show wpAny _ _ (Builtin.SmallTypes.ownedTupleHandOut (.ref z) (.ref he.objs.size) >>= _) _ _ _
  refine wpAny_bind ?_
  unfold Builtin.SmallTypes.ownedTupleHandOut
  have zf : ZipS (he.push { cls := .type "tuple", data := .seq #[x, y] }) z TI TO .ellipsis f := Heap.get?_push_of_some _ ze
  refine wpAny_bind (wpAny_setField_rec zf (by simp) fun hg zg sg => ?_)
  replace zg : ZipS hg z TI TO (rawInt he.objs.size) f := zg
  refine wpAny_setField_rec zg (by simp) fun hi zi si => ?_
  replace zi : ZipS hi z TI TO (rawInt he.objs.size) false := zi
  have up : ∀ c o, c ≠ z → he.get? c = some o → hi.get? c = some o := fun c o n e => si.extBut _ _ n (sg.extBut _ _ n (Heap.get?_push_of_some _ e))
  have np : hi.get? he.objs.size = some { cls := .type "tuple", data := .seq #[x, y] } := si.extBut _ _ (Nat.ne_of_gt lz) (sg.extBut _ _ (Nat.ne_of_gt lz) (Heap.get?_push_size _ rfl))
  rw [sz] at zi np
  refine wpAny_pure ⟨_, rfl, wpAny_pure ?_⟩
  show Q (some (.ref he.objs.size)) _
  rw [sz]
  exact hQ hi zi (up _ _ D.TOz te) (g1.at fun o e => up _ o D.i1z e) (g2.at fun o e => up _ o D.i2z e) np fun c o n1 n2 n3 n4 e => up c o n1 (kp c o n1 n2 n3 n4 e)
theorem zipF_end {z TI TO i1 i2 a b : Addr} {v p q : Value} {f : Bool} {k : Nat} {xs : Array Value} {Q : Option Value → Shared → Prop} (hh : A.handled = none) (D : ZipApart z TI TO i1 i2 a b)
    (hz : ZipS s.heap z TI TO v f) (hv : ZFree s.heap v) (hTI : IsPair s.heap TI (.ref i1) (.ref i2)) (hTO : IsPair s.heap TO p q) (h1 : s.heap.IsTupleIter i1 a k) (ta : s.heap.IsTuple a xs) (hx : xs[k]? = none)
    (hQ : ∀ h', (∀ c o, c ≠ z → c ≠ TO → c ≠ i1 → c ≠ i2 → s.heap.get? c = some o → h'.get? c = some o) → Q none { s with heap := h' }) : wpAny (model prog w) A (pyNext (.ref z)) Q E s := by
  have ty : s.TypeIs (.ref z) "zip" := ⟨_, hz, rfl⟩
  unfold pyNext
  refine wpAny_bind (wpAny_attempt (wpAny_callSpecial?_slot (name := Str.ofString "__next__") ty F.slot_zip_next (wpAny_call_entry F.slot_zip_next ty F.entry_zip_next ?_ (F.args_zip_next_1 _))))
  show wpAny _ _ (field (.ref z) 2 >>= _) _ _ _
  refine wpAny_bind (wpAny_field hz rfl (x := .bool false) rfl ?_)
  show wpAny _ _ (field (.ref z) 3 >>= _) _ _ _
  refine wpAny_bind (wpAny_field hz rfl (x := .ref TI) rfl (wpAny_bind (wpAny_seqItems hTI rfl ?_)))
  show wpAny _ _ (Builtin.SmallTypes.ownedTupleIsFree (.ref z) >>= _) _ _ _
  refine wpAny_bind (zfree hz hv ?_)
  simp only [if_true]
  refine wpAny_bind (wpAny_rule (wpAny_bind (wpAny_field hz rfl (x := .ref TO) rfl (wpAny_bind (wpAny_setField_rec hz (by simp) fun ha za sa => ?_)))))
  replace za : ZipS ha z TI TO .ellipsis f := za
  refine wpAny_bind ?_
  simp only [List.zipIdx_cons, List.zipIdx_nil, List.forIn_cons, List.forIn_nil]
  refine wpAny_bind (wpAny_bind (wpAny_onRaise ?_))
  show wpAny _ _ (Builtin.SmallTypes.nextOf (.ref i1) >>= _) _ _ _
  refine wpAny_bind (wpAny_nextOf_tuple_end (s := { s with heap := ha }) hh (h1.extBut sa.extBut D.i1z) (ta.extBut sa.extBut D.l1z) hx fun hb e sb he => ?_)
  obtain ⟨o, ho, hc⟩ := he
  have zb : ZipS hb z TI TO .ellipsis f := sb _ _ D.i1z.symm za
  have ne : e ≠ z := fun w => by
    subst w
    rw [zb] at ho
    cases ho
    simp at hc
  refine wpAny_setField_rec zb (by simp) fun hd _ sd => ?_
  exact wpAny_bind (wpAny_isInstance (T := "StopIteration") (b := true) ⟨o, sd.extBut _ _ ne ho, hc⟩ isSubtype_stop (wpAny_pure (hQ _ fun c o n1 _ n3 _ x => sd.extBut _ _ n1 (sb _ _ n3 (sa.extBut _ _ n1 x)))))
end
def ItN (K : PySem.W.Frag) (a b : Addr) : It := ⟨(RZ.ItzT K a b).go, (RZ.ItzT K a b).yld, fun i H => ∃ xs : List V, SqT K H a xs ∧ xs.length ≤ i⟩
theorem zip_self {P : Program} {w : World} {A : Around} {E : Value → Shared → Prop} {s : Shared} {z TI TO : Addr} {v : Value} {f : Bool} {Q : Value → Shared → Prop} (hz : ZipS s.heap z TI TO v f) (h : Q (.ref z) s) : wpAny (model P w) A (pyIter (.ref z)) Q E s := by
  have ty : s.TypeIs (.ref z) "zip" := ⟨_, hz, rfl⟩
  refine wpAny_pyIter_slot ty F.slot_zip_iter (wpAny_call_entry F.slot_zip_iter ty F.entry_zip_iter ?_ (F.args_zip_iter_1 _))
  exact wpAny_pure ⟨_, rfl, "zip", _, ty, F.slot_zip_next.lookup, h⟩
theorem turn_zipN {P : Program} {w : World} {K : PySem.W.Frag} {n : Str} {np : Pos} {a b z TI TO i1 i2 : Addr} (D : ZipApart z TI TO i1 i2 a b) :
    Turn P w K (.Name n np) (ItN K a b) [z, TI, TO, i1, i2] z (fun i h => (∃ v f, ZipS h z TI TO v f ∧ (v = .none ∨ ∃ T : Addr, v = rawInt T)) ∧ IsPair h TI (.ref i1) (.ref i2) ∧ (∃ x y, IsPair h TO x y) ∧ h.IsTupleIter i1 a i ∧ h.IsTupleIter i2 b i) where
  mem := List.mem_cons_self
  obj := fun i h st c hc => by
    obtain ⟨⟨v, f, hz, _⟩, hTI, ⟨x, y, hTO⟩, ⟨o1, e1, _, d1⟩, ⟨o2, e2, _, d2⟩⟩ := st
    simp only [List.mem_cons, List.not_mem_nil, or_false] at hc
    rcases hc with rfl | rfl | rfl | rfl | rfl
    · exact ⟨_, hz, fun v q => nomatch q⟩
    · exact ⟨_, hTI, fun v q => nomatch q⟩
    · exact ⟨_, hTO, fun v q => nomatch q⟩
    · exact ⟨o1, e1, fun v q => by rw [d1] at q; cases q⟩
    · exact ⟨o2, e2, fun v q => by rw [d2] at q; cases q⟩
  keep := fun i h h' st k => by
    obtain ⟨⟨v, f, hz, hv⟩, hTI, ⟨x, y, hTO⟩, h1, h2⟩ := st
    have m : ∀ c, c ∈ [z, TI, TO, i1, i2] → ∀ o, h.get? c = some o → h'.get? c = some o := k
    refine ⟨⟨v, f, m z (by simp) _ hz, hv⟩, m TI (by simp) _ hTI, ⟨x, y, m TO (by simp) _ hTO⟩, ?_, ?_⟩
    · exact h1.at fun o q => m i1 (by simp) o q
    · exact h2.at fun o q => m i2 (by simp) o q
  item := by
    intro X hP hw hK hc i pins s σ H E I hf st hg
    subst hP hw hK
    obtain ⟨⟨v, f, hz, hv⟩, hTI, ⟨p, q, hTO⟩, h1, h2⟩ := st
    obtain ⟨xs, ys, x, y, gx, gy, hx, hy⟩ := hg
    obtain ⟨us, rx, px, _⟩ := I.tuple gx
    obtain ⟨ws, ry, py, _⟩ := I.tuple gy
    obtain ⟨u, hu, ru⟩ := rx.get hx
    obtain ⟨t, ht, rt⟩ := ry.get hy
    have lz : z < s.heap.objs.size := Heap.lt_size hz
    have lt : ∀ c, c ∈ [z, TI, TO, i1, i2] → c < s.heap.objs.size := fun c hcm => by
      simp only [List.mem_cons, List.not_mem_nil, or_false] at hcm
      rcases hcm with rfl | rfl | rfl | rfl | rfl
      · exact lz
      · exact Heap.lt_size hTI
      · exact Heap.lt_size hTO
      · obtain ⟨_, e1, _⟩ := h1
        exact Heap.lt_size e1
      · obtain ⟨_, e2, _⟩ := h2
        exact Heap.lt_size e2
    have fin : ∀ h', (∃ f', ZipS h' z TI TO (v) f' ∨ ZipS h' z TI TO (rawInt s.heap.objs.size) f') → IsPair h' TI (.ref i1) (.ref i2) → (∃ x y, IsPair h' TO x y) → h'.IsTupleIter i1 a (i + 1) → h'.IsTupleIter i2 b (i + 1) →
        h'.get? s.heap.objs.size = some { cls := .type "tuple", data := .seq #[u, t] } → (∀ c o, c ∉ [z, TI, TO, i1, i2] → s.heap.get? c = some o → h'.get? c = some o) →
        ∃ r, some (Value.ref s.heap.objs.size) = some r ∧ wpAny (model X.prog X.w) X.A (letOwnedTupleGo (.Name n np) (.ref z) r) (fun _ s2 => ∃ x H', Inv X pins σ H' s2 ∧ RelV x r ∧ (ItN X.K a b).yld i H x H' ∧
          ((∃ v f, ZipS s2.heap z TI TO v f ∧ (v = .none ∨ ∃ T : Addr, v = rawInt T)) ∧ IsPair s2.heap TI (.ref i1) (.ref i2) ∧ (∃ x y, IsPair s2.heap TO x y) ∧ s2.heap.IsTupleIter i1 a (i + 1) ∧ s2.heap.IsTupleIter i2 b (i + 1)) ∧ ∀ b ∈ [z, TI, TO, i1, i2], H' b = none) E { s with heap := h' } := by
      intro h' hz' hTI' hTO' h1' h2' hn hk
      refine ⟨_, rfl, wpAny_pure ?_⟩
      have new : ObjOk X.prog X.w (upd H s.heap.objs.size (.tup [x, y])) h' s.heap.objs.size (.tup [x, y]) :=
        ⟨by show 2 ≤ sizeLine; decide, [u, t], .cons ru (.cons rt .nil), ⟨_, hn, rfl, _, rfl⟩⟩
      have I1 : Inv X pins σ (upd H s.heap.objs.size (.tup [x, y])) { s with heap := h' } := I.turnedNew (t' := s.toks) (ch := [z, TI, TO, i1, i2]) (fun c o hb q => hk c o hb q) hf (Nat.le_refl _) new
      refine ⟨.ref s.heap.objs.size, _, I1, rfl, ⟨_, x, y, rfl, I.hok.fresh (Nat.le_refl _), rfl, fun l hl => by rw [I.tuple_inj hl gx]; exact hx, fun l hl => by rw [I.tuple_inj hl gy]; exact hy⟩, ⟨?_, hTI', hTO', h1', h2'⟩, fun c hcm => ?_⟩
      · obtain ⟨f', z1 | z1⟩ := hz'
        · exact ⟨_, f', z1, hv⟩
        · exact ⟨_, f', z1, .inr ⟨_, rfl⟩⟩
      · rw [upd_ne (Nat.ne_of_lt (lt c hcm))]
        exact (hf c hcm).1
    have hx2 : us.toArray[i]? = some u := by simpa using hu
    have hy2 : ws.toArray[i]? = some t := by simpa using ht
    by_cases fr : ZFree s.heap v
    · refine zipF_next D hz fr hTI hTO h1 h2 px py hx2 hy2 fun h' z' to' a1 a2 nt hk => ?_
      exact fin h' ⟨_, .inr z'⟩ (hk _ _ D.TIz D.TITO D.TIi1 D.TIi2 hTI) ⟨_, _, to'⟩ a1 a2 nt fun c o hb q => hk c o (fun e => hb (by simp [e])) (fun e => hb (by simp [e])) (fun e => hb (by simp [e])) (fun e => hb (by simp [e])) q
    · rcases hv with rfl | ⟨T, rfl⟩
      · exact absurd (.inl rfl) fr
      · cases hT : s.heap.get? T with
        | none => exact absurd (.inr ⟨T, rfl, hT⟩) fr
        | some oT =>
          refine zipH_next D hz hT hTI h1 h2 px py hx2 hy2 fun h' z' a1 a2 nt hk => ?_
          exact fin h' ⟨_, .inl z'⟩ (hk _ _ D.TIz D.TIi1 D.TIi2 hTI) ⟨_, _, hk _ _ D.TOz D.TOi1 D.TOi2 hTO⟩ a1 a2 nt fun c o hb q => hk c o (fun e => hb (by simp [e])) (fun e => hb (by simp [e])) (fun e => hb (by simp [e])) q
  done := by
    intro X hP hw hK hc i pins s σ H E I hf st hg
    subst hP hw hK
    obtain ⟨⟨v, f, hz, hv⟩, hTI, ⟨p, q, hTO⟩, h1, h2⟩ := st
    obtain ⟨xs, gx, hend⟩ := hg
    obtain ⟨us, rx, px, _⟩ := I.tuple gx
    have l1 := rx.length
    have he : us.toArray[i]? = none := by simp; omega
    by_cases fr : ZFree s.heap v
    · refine zipF_end (I.ok.hd hc) D hz fr hTI hTO h1 px he fun h' hk => ⟨rfl, I.turnedL (t' := s.toks) (ch := [z, TI, TO, i1, i2]) (fun c o hb q => ?_) hf⟩
      exact hk c o (fun e => hb (by simp [e])) (fun e => hb (by simp [e])) (fun e => hb (by simp [e])) (fun e => hb (by simp [e])) q
    · rcases hv with rfl | ⟨T, rfl⟩
      · exact absurd (.inl rfl) fr
      · cases hT : s.heap.get? T with
        | none => exact absurd (.inr ⟨T, rfl, hT⟩) fr
        | some oT =>
          refine zipH_end (m := 0) (ys := #[]) (I.ok.hd hc) D hz hT hTI h1 px he fun h' hk => ⟨rfl, I.turnedL (t' := s.toks) (ch := [z, TI, TO, i1, i2]) (fun c o hb q => ?_) hf⟩
          exact hk c o (fun e => hb (by simp [e])) (fun e => hb (by simp [e])) (fun e => hb (by simp [e])) q
  self := fun A i s Q E st h => by
    obtain ⟨⟨v, f, hz, _⟩, _⟩ := st
    exact zip_self hz h
def iZN (K : PySem.W.Frag) (ta : TA) : TI := fun σ H R => ta σ H fun vs H1 => ∃ a b xs ys, vs = [.ref a, .ref b] ∧ SqT K H1 a xs ∧ SqT K H1 b ys ∧ R (ItN K a b) H1
theorem pi_zipN {X : Cx} {e e2 : Expr} {ta : TA} {p pos np : Pos} {n : Str} (hg : Gl X "zip") (hm : X.mg "zip" = none) (ha : PA X [e, e2] ta)
    (hs : starEach [e, e2] X.env = (false, eval e X.env) :: starEach [e2] X.env := by rfl) (hpl : (backTo pos (starEach [e2] X.env)).any (·.1) = false := by rfl) :
    PI X (.Name n np) (.Call (.Name "zip" p) [e, e2] [] pos) (iZN X.K ta) := by
  refine ⟨fun pins s σ H R I h => ?_⟩
  refine Call_ (ld_blt I hg hm PyProof.Rows.boot_zip (PyProof.Rows.callWith_type1 (thn (ha.run pos pins s σ H _ I h) fun us s1 hv => ?_) hs hpl))
  obtain ⟨vs, H1, I1, r1, a, b, xs, ys, rfl, gx, gy, q⟩ := hv
  cases r1 with
  | cons r rr =>
  cases rr with
  | cons r' rr =>
  cases rr
  cases r
  cases r'
  obtain ⟨us, rx, px, _⟩ := I1.tuple gx
  obtain ⟨ws, ry, py, _⟩ := I1.tuple gy
  obtain ⟨o1, ho1, _⟩ := id px
  obtain ⟨o2, ho2, _⟩ := id py
  refine RZ.call_zipT (show s1.heap.IsTuple a us.toArray from px) (show s1.heap.IsTuple b ws.toArray from py) fun h' hz hTI hTO h1 h2 hsz hk => zip_self hz ?_
  have I2 : Inv X pins σ H1 { s1 with heap := h' } := I1.kept (t' := s1.toks) hk
  refine ⟨_, [s1.heap.objs.size + 4, s1.heap.objs.size + 2, s1.heap.objs.size + 3, s1.heap.objs.size, s1.heap.objs.size + 1], _, _, H1, rfl, I2, turn_zipN (PySem.W.ktu_apart s1.heap.objs.size a b (Heap.lt_size ho1) (Heap.lt_size ho2)), ⟨⟨_, _, hz, .inl rfl⟩, hTI, ⟨_, _, hTO⟩, h1, h2⟩, fun c hcm => ?_, q⟩
  have hle : s1.heap.objs.size ≤ c := by
    simp only [List.mem_cons, List.not_mem_nil, or_false] at hcm
    rcases hcm with rfl | rfl | rfl | rfl | rfl
    · exact Nat.le_add_right _ 4
    · exact Nat.le_add_right _ 2
    · exact Nat.le_add_right _ 3
    · exact Nat.le_refl _
    · exact Nat.le_add_right _ 1
  exact I1.fpOk hle (I1.hok.fresh hle)
theorem ri_zipN {K : PySem.W.Frag} {X : Cx} {W : Wc} {e e2 : Expr} {t : TA} {FA : DA} {p pos np : Pos} {n : Str} (hm : X.mg "zip" = none) (ha : RA X W [e, e2] t FA) (hK : X.K = K := by rfl) (hg : Gl X "zip" := by rfl)
    (hs : starEach [e, e2] X.env = (false, eval e X.env) :: starEach [e2] X.env := by rfl) (hpl : (backTo pos (starEach [e2] X.env)).any (·.1) = false := by rfl) :
    RI X W (.Name n np) (.Call (.Name "zip" p) [e, e2] [] pos) (iZN K t) (iZipD FA) := hK ▸
  ⟨pi_zipN hg hm ha.pe hs hpl, fun s Qd q R k => ha.sim s q fun vs xs S' H' g r ⟨ds, es, e1, hl, q'⟩ => by
    subst e1
    obtain ⟨v, w, rfl, r1, r2⟩ := r.two
    obtain ⟨a, xs, rfl, hx, rx⟩ := r1.of_tup
    obtain ⟨b, ys, rfl, hy, ry⟩ := r2.of_tup
    refine ⟨a, b, xs, ys, rfl, SqT.of (g.sub _ _ hx), SqT.of (g.sub _ _ hy), k _ (zipD ds es) S' H' g (fun i S1 H1 ok sub e => ?_) q'⟩
    obtain ⟨z1, _, z3⟩ := itzT_ok hx hy rx ry hl i S1 H1 ok sub e
    refine ⟨z1, fun hi => ⟨xs, SqT.of (sub _ _ (e _ _ hx)), ?_⟩, z3⟩
    rw [zipD_len hl] at hi
    have := rx.length
    omega⟩
end NR
/-! sorted(set(e)), e a tuple or a list of ints. -/
namespace NR
open PySem PySem.Spec PyProof.Rows L2
section
variable {P : Program} {w : World} {A : Around} {E : Value → Shared → Prop} {s : Shared}
abbrev zSet (w : World) : Obj := { cls := .type "set", dict := none, data := .set #[] 0 (.fresh 0 0 (!w.params.followText "set-order")) }
theorem call_set_lstI {l : Addr} {us : Array Value} (ns : List Int) {Q : Value → Shared → Prop} (hd : A.handled = none) (hl : s.heap.IsList l us) (hu : IntsAre us.toList ns) (small : ns.length + 1 < scanBound)
    (h : ∀ (h' : Heap) (tk c : Nat), SetR w h' s.heap.objs.size (fun j => decide (j ∈ ns)) c → c ≤ ns.length → (∀ b o, s.heap.get? b = some o → h'.get? b = some o) → Q (.ref s.heap.objs.size) { s with heap := h', toks := tk }) :
    wpAny (model P w) A (call (.type "set") [.ref l]) Q E s := by
  have ul : us.size = ns.length := by simpa using IntsAre.length hu
  obtain ⟨c, tl, hmro⟩ := F.called_set.mro
  have made := F.called_set.made
  have sub := F.called_set.sub
  refine wpAny_call (codeAny_of_tree (show wpAny _ _ (callAny (.type "set") _) _ _ _ from wpAny_pure ⟨Code.quiet_builtin _ (by decide +kernel), codeAny_builtin F.entry_type_call ?_⟩))
  rw [Around.under_plain (weight_type_call_type "set" [.ref l] []) rfl]
  have n1 := F.called_set.notType
  have n2 := F.called_set.canCreate
  have n3 := F.typeCall_set_1 (.ref l)
  repeat (any_goals (first | assumption | wp_step))
  refine codeAny_mono (code_set_led1 (w := w) (.ref l) (E := E) (Q₁ := fun obj s₁ => obj = .ref s.heap.objs.size ∧ s₁ = { s with heap := s.heap.push (zSet w) }) ⟨rfl, rfl⟩) fun r s₁ hr => ?_
  cases r with
  | error e => exact hr
  | ok fl =>
  cases fl with
  | ret obj =>
    obtain ⟨rfl, rfl⟩ := hr
    have at0 : (s.heap.push (zSet w)).get? s.heap.objs.size = some (zSet w) := Heap.get?_push_size _ rfl
    have ty0 : Shared.TypeIs { s with heap := s.heap.push (zSet w) } (.ref s.heap.objs.size) "set" := ⟨_, at0, rfl⟩
    have n4 := F.called_set.init.lookup
    have n5 := F.called_set.init.bind (.ref s.heap.objs.size)
    repeat (any_goals (first | assumption | wp_step))
    refine codeAny_mono (codeAny_call_builtin (R := wants (fun r s₂ => r = .none ∧ ∃ h' tk c, s₂ = { s with heap := h', toks := tk } ∧ SetR w h' s.heap.objs.size (fun j => decide (j ∈ ns)) c ∧ c ≤ ns.length ∧ (∀ b o, s.heap.get? b = some o → h'.get? b = some o)) E)
      F.called_set.init.plain F.entry_set_init (check_set_init_1 ty0 ?_)) fun r₂ s₂ hr₂ => ?_
    · obtain ⟨⟨ocls, odict, odata, oslots⟩, atl, ocl, nl, odt⟩ := hl
      simp only at ocl odt
      subst ocl odt
      have atl2 : (s.heap.push (zSet w)).get? l = some { cls := .type "list", dict := odict, data := .seq us nl, slots := oslots } := Heap.get?_push_of_some _ atl
      have m1 := F.sub_list_set
      have m2 := F.sub_list_frozenset
      have m3 : (Value.type "list" == Value.type "dict") = false := by decide
      have l1 : (s.heap.push (zSet w)).IsList l us := ⟨_, atl2, rfl, nl, rfl⟩
      unfold Builtin.«set.__init__» noKeywords Builtin.Frozenset.updateFrom
      generalize hPI : pyIter = PI
      wp_walk
      subst hPI
      refine wpAny_pyIter_list l1 (wpAny_bind (wpAny_runValue ?_))
      have lt : l < s.heap.objs.size := Heap.lt_size atl
      have sz : (s.heap.push (zSet w)).objs.size = s.heap.objs.size + 1 := Heap.size_push ..
      have hd3 : A.in1.in1.in1.handled = none := by simp [hd]
      have ne1 : l ≠ (s.heap.push (zSet w)).objs.size := by
        rw [sz]
        exact Nat.ne_of_lt (Nat.lt_succ_of_lt lt)
      have ne2 : s.heap.objs.size ∉ [(s.heap.push (zSet w)).objs.size, l] := by
        rw [sz]
        simp only [List.mem_cons, List.not_mem_nil, or_false, not_or]
        exact ⟨Nat.ne_of_lt (Nat.lt_succ_self _), Nat.ne_of_gt lt⟩
      have vals : ∀ (i : Nat) (v : Value), us[i]? = some v → ∃ k t, ns[i]? = some k ∧ v = .int k t := fun i v hv => by
        have hi : i < ns.length := by
          rw [← ul]
          exact (Array.getElem?_eq_some_iff.mp hv).1
        obtain ⟨t, e⟩ := IntsAre.int_at hu i v (by rw [Array.getElem?_toList]; exact hv)
        rw [List.getD_eq_getElem?_getD, List.getElem?_eq_getElem hi] at e
        exact ⟨ns[i], t, List.getElem?_eq_getElem hi, e⟩
      refine set_update_ints ((Walks.list hd3 _ l ne1 us).toS) s.heap.objs.size ne2 ns ul small vals (us.size - 0) 0 _ (by omega) (Nat.zero_le _) ⟨⟨_, Heap.get?_push_size _ rfl, rfl, rfl⟩, l1.push _⟩ ⟨0, Nat.le_refl 0, setR_new_at (Heap.get?_push_of_some _ at0)⟩ ?_
      intro t' c' mv cl st
      obtain ⟨h', g2, d', tk', os'⟩ := t'
      obtain rfl : g2 = s.gens := mv.gens
      obtain rfl : d' = s.drawn := mv.drawn
      obtain rfl : os' = s.os := mv.os
      rw [ul] at cl
      refine wpAny_pure (wpAny_pure ⟨rfl, h', tk', c', rfl, st, cl, fun b o e => mv.heap b o ?_ (Heap.get?_push_of_some _ (Heap.get?_push_of_some _ e))⟩)
      have lb : b < s.heap.objs.size := Heap.lt_size e
      rw [sz]
      simp only [List.mem_cons, List.not_mem_nil, or_false, not_or]
      exact ⟨Nat.ne_of_lt lb, Nat.ne_of_lt (Nat.lt_succ_of_lt lb)⟩
    · cases r₂ with
      | error e => exact hr₂
      | ok fl₂ =>
      cases fl₂ with
      | ret r =>
        obtain ⟨rfl, h', tk, c', rfl, st, cl, kp⟩ := hr₂
        repeat (any_goals (first | assumption | wp_step))
        exact h _ _ _ st cl kp
      | _ => exact hr₂.elim
  | _ => exact hr.elim
end
def tSortSet (K : PySem.W.Frag) (ta : TE) : TE := fun σ H Q => ta σ H fun x H1 => ∃ (l : Addr) (ns : List Int), x = .ref l ∧ (SqT K H1 l (ns.map V.int) ∨ SqL K H1 l (ns.map V.int)) ∧ ns.length < 63 ∧
  ∀ (ys : List Int) (p : Addr), ys.Pairwise (· < ·) → (∀ k, k ∈ ys ↔ k ∈ ns) → H1 p = none → Q (.ref p) (upd H1 p (.lst (ys.map V.int)))
theorem pe_sortSet {X : Cx} {a : Expr} {ta : TE} {p p2 q pos : Pos} (hg : Gl X "sorted") (hm : X.mg "sorted" = none) (hg2 : Gl X "set") (hm2 : X.mg "set" = none) (ha : PE X a ta) (hc : X.calm = true)
    (na : starEach [a] X.env = (false, eval a X.env) :: starEach [] X.env) : PE X (.Call (.Name "sorted" p) [.Call (.Name "set" p2) [a] [] q] [] pos) (tSortSet X.K ta) := by
  refine ⟨fun pins s σ H Q I h => Call_ (ld_blt I hg hm boot_sorted (callWith_builtin1 (args_cons (Call_ (ld_blt I hg2 hm2 boot_set (callWith_type1 (args_cons (thn (ha.run pins s σ H _ I h) fun v s1 hv => args_nil ?_) na) na rfl))) rfl) rfl rfl))⟩
  obtain ⟨x, H1, I1, r1, l, ns, rfl, hq, l63, k⟩ := hv
  cases r1
  have fin : ∀ (h' : Heap) (tk c : Nat), SetR X.w h' s1.heap.objs.size (fun j => decide (j ∈ ns)) c → c ≤ ns.length → (∀ b o, s1.heap.get? b = some o → h'.get? b = some o) →
      wpAny (model X.prog X.w) X.A (call (.builtin "sorted") [.ref s1.heap.objs.size]) (EP X pins σ Q) X.xe { s1 with heap := h', toks := tk } := fun h' tk c R hcn kp => by
    have I2 : Inv X pins σ H1 { s1 with heap := h', toks := tk } := I1.kept kp
    refine sorted_set R (I2.ok.hd hc) (by omega) fun s' p out c' ys k' g o hp hg hi hs hm hl => ?_
    have len : (ys.map V.int).length ≤ sizeLine := by rw [List.length_map, hl, sizeLine_eq]; omega
    have fresh : H1 p = none := I2.hok.fresh hp
    have J : Inv X pins σ (upd H1 p (.lst (ys.map V.int))) { ({ s1 with heap := h', toks := tk } : Shared) with heap := s'.heap, gens := s'.gens, drawn := s'.drawn, toks := s'.toks } :=
      I2.call (ch := []) (Un.laid k' hp fresh) (I2.hok.laid k' hp ⟨len, out.toList, c', vals_of_ints hi, hg⟩) (by rw [g]; exact I2.bare) (fun _ z => nomatch z)
    have e : s' = { s1 with heap := s'.heap, gens := s'.gens, drawn := s'.drawn, toks := s'.toks } := by
      cases s' with
      | mk a b c d e => cases o; rfl
    rw [e]
    exact ⟨.ref p, _, J, rfl, k ys p hs (fun n => by rw [hm n, decide_eq_true_eq]) fresh⟩
  rcases hq with hq | hq
  · obtain ⟨us, rv, pt, _⟩ := I1.tuple hq
    refine call_set_tupI ns (I1.ok.hd hc) (show s1.heap.IsTuple l us.toArray from pt) (by simpa using Vals.ints rv) (by unfold scanBound; omega) fun h' tk c R hcn kp => ?_
    exact args_nil (fin h' tk c R hcn kp)
  · obtain ⟨us, rv, pt, _⟩ := I1.list hq
    refine call_set_lstI ns (I1.ok.hd hc) pt.isList (by simpa using Vals.ints rv) (by unfold scanBound; omega) fun h' tk c R hcn kp => ?_
    exact args_nil (fin h' tk c R hcn kp)
def aSortSet (F : DE) : DA := fun ρ Q => F ρ fun d => ∃ ns : List Int, (d = .tup (dIs ns) ∨ d = .lst (dIs ns)) ∧ ns.length < 63 ∧ ∀ ys : List Int, ys.Pairwise (· < ·) → (∀ k, k ∈ ys ↔ k ∈ ns) → Q (dIs ys)
theorem rl_sortSet {X : Cx} {W : Wc} {a : Expr} {ta : TE} {F : DE} {p p2 q pos : Pos} (hm : X.mg "sorted" = none) (hm2 : X.mg "set" = none) (ha : RE X W a ta F) (hc : X.calm = true := by rfl) (hg : Gl X "sorted" := by rfl) (hg2 : Gl X "set" := by rfl)
    (na : starEach [a] X.env = (false, eval a X.env) :: starEach [] X.env := by rfl) : RL X W (.Call (.Name "sorted" p) [.Call (.Name "set" p2) [a] [] q] [] pos) (tSortSet X.K ta) (aSortSet F) :=
  ⟨pe_sortSet hg hm hg2 hm2 ha.pe hc na, fun s Qd q Q k => ha.sim s q fun v d S' H' g r ⟨ns, e, h63, q'⟩ => by
    have fin : ∀ (ys : List Int) (p : Addr), ys.Pairwise (· < ·) → (∀ k, k ∈ ys ↔ k ∈ ns) → H' p = none → Q (.ref p) (upd H' p (.lst (ys.map V.int))) := fun ys p h1 h2 np =>
      k p _ _ S' _ (g.trans (Gr.newM g.ok g.sub np)) (g.back np) (g.sub.free np) upd_same (Reps.ints _) (q' ys h1 h2)
    rcases e with rfl | rfl
    · obtain ⟨a, xs, rfl, h, rs⟩ := r.of_tup
      cases rs.of_ints
      exact ⟨a, ns, rfl, .inl (SqT.of (g.sub _ _ h)), h63, fin⟩
    · obtain ⟨a, xs, rfl, h, rs⟩ := r.of_lst
      cases rs.of_ints
      exact ⟨a, ns, rfl, .inr (SqL.of (g.sub _ _ h)), h63, fin⟩⟩
end NR
/-! sorted(e): e a list of tuples of ints, or a dict whose keys are tuples of ints. -/
namespace NR
open PySem PySem.Spec PyProof.Rows L2
section
variable {prog : Program} {w : World} {A : Around} {E : Value → Shared → Prop} {s : Shared}
def RawD (h : Heap) (d : Addr) (es : Array DictEntry) (ep : Nat) : Prop := ∃ o, h.get? d = some o ∧ o.ExactDict ∧ o.data = .dict es ep
theorem RawD.ty {d : Addr} {es : Array DictEntry} {ep : Nat} (x : RawD s.heap d es ep) : s.TypeIs (.ref d) "dict" := let ⟨o, ho, hc, _⟩ := x; ⟨o, ho, hc.1⟩
theorem rawIter {d : Addr} {es : Array DictEntry} {ep : Nat} {Q : Value → Shared → Prop} (lo : (d == sysModules) = false) (hm : RawD s.heap d es ep)
    (hQ : Q (.ref s.heap.objs.size) { s with heap := s.heap.push { cls := .type "dict_keyiterator", data := .fields #[.ref d, .int 0 0, .int es.size 0, .int ep 0] } }) : wpAny (model prog w) A (pyIter (.ref d)) Q E s := by
  obtain ⟨o, ho, hc, hx⟩ := id hm
  refine wpAny_pyIter_slot hm.ty F.slot_dict_iter (wpAny_call_entry F.slot_dict_iter hm.ty F.entry_dict_iter ?_ (F.args_dict_iter_1 _))
  unfold Builtin.«dict.__iter__»
  refine wpAny_bind ?_
  unfold Builtin.Dict.dictSlotNone
  refine wpAny_bind (wpAny_notOrdered_dict hm.ty ?_)
  show wpAny _ _ (pure (Value.ref d)) _ _ s
  refine wpAny_pure ?_
  show wpAny _ _ (Builtin.Dict.showsAll d >>= _) _ _ s
  unfold Builtin.Dict.showsAll
  rw [if_neg (by rw [lo]; exact Bool.false_ne_true)]
  refine wpAny_bind (wpAny_pure (wpAny_bind (wpAny_dictEntries ho hx (wpAny_bind (wpAny_dictEpoch ho hx ?_)))))
  exact wpAny_bind (wpAny_newObj_type (wpAny_pure ⟨_, rfl, "dict_keyiterator", _, ⟨_, Heap.get?_push_size _ rfl, rfl⟩, F.slot_dict_keyiterator_next.lookup, hQ⟩))
theorem rawNext {it d : Addr} {i ep : Nat} {es : Array DictEntry} {e : DictEntry} {Q : Option Value → Shared → Prop} (hit : s.heap.IsKeyIter it d i es.size ep) (hm : RawD s.heap d es ep) (hx : es[i]? = some e)
    (hQ : ∀ h', h'.IsKeyIter it d (i + 1) es.size ep → Heap.SameBut it s.heap h' → Q (some e.key) { s with heap := h' }) : wpAny (model prog w) A (pyNext (.ref it)) Q E s := by
  obtain ⟨o, ho, hc, hd⟩ := id hit
  obtain ⟨od, hod, hcd, hdd⟩ := id hm
  obtain ⟨hlt, he⟩ := Array.getElem?_eq_some_iff.mp hx
  unfold pyNext
  refine wpAny_bind (wpAny_attempt (wpAny_callSpecial?_slot (name := Str.ofString "__next__") hit.typeIs F.slot_dict_keyiterator_next (wpAny_call_entry F.slot_dict_keyiterator_next hit.typeIs F.entry_dict_keyiterator_next ?_ (F.args_dict_keyiterator_next_1 _))))
  refine wpAny_bind (wpAny_pure (wpAny_bind (wpAny_bind ?_)))
  first | refine wpAny_bind (wpAny_typeNameOfWhole_keyiter hit.typeIs (wpAny_pure ?_)) | refine wpAny_bind (wpAny_typeNameOf_keyiter hit.typeIs (wpAny_pure ?_))
  refine wpAny_bind (wpAny_fieldsOf ho hd ?_)
  simp only [show Builtin.Dict_items.ownsTuple "dict_keyiterator" = false from by decide, Bool.false_eq_true, if_false]
  show wpAny _ _ (if (Value.ref d == Value.none) = true then _ else _) _ _ s
  rw [if_neg (show ¬ ((Value.ref d == Value.none) = true) from Bool.false_ne_true)]
  refine wpAny_bind (wpAny_pure (wpAny_bind (wpAny_dictEntries hod hdd ?_)))
  rw [if_neg (by simp)]
  refine wpAny_bind (wpAny_pure (wpAny_bind (wpAny_dictEpoch hod hdd ?_)))
  rw [if_neg (by simp)]
  refine wpAny_pure ?_
  simp only [show ¬ ((i : Int) < 0) from by omega, if_false, Int.toNat_natCast, Array.getElem?_eq_getElem hlt]
  refine wpAny_bind ?_
  first | refine wpAny_bind (wpAny_typeNameOfWhole_keyiter hit.typeIs (wpAny_pure ?_)) | refine wpAny_bind (wpAny_typeNameOf_keyiter hit.typeIs (wpAny_pure ?_))
  refine wpAny_bind (wpAny_isOneOf_keyiter hit.typeIs ?_)
  show wpAny _ _ (setField (.ref it) 1 (rawInt ((i : Int) + 1)) >>= _) _ _ s
  refine wpAny_bind (wpAny_setField ho hd (by simp) ?_)
  have nx : (s.heap.update it (Obj.mapFields (·.setIfInBounds 1 (rawInt ((i : Int) + 1))))).IsKeyIter it d (i + 1) es.size ep :=
    ⟨_, Heap.get?_update_self _ ho (Obj.isFreed_of_fields (Obj.data_mapFields hd _)), (Obj.cls_mapFields ..).trans hc, by rw [Obj.data_mapFields hd]; simp [rawInt]⟩
  refine wpAny_bind (wpAny_holding (wpAny_bind (wpAny_isOneOf_keyiter (s := { s with heap := s.heap.update it (Obj.mapFields (·.setIfInBounds 1 (rawInt ((i : Int) + 1)))) }) nx.typeIs ?_)))
  rw [← he] at hQ
  exact wpAny_pure (wpAny_pure ⟨_, rfl, wpAny_pure (hQ _ nx (Heap.SameBut.update ..))⟩)
theorem rawEnd {it d : Addr} {i ep : Nat} {es : Array DictEntry} {Q : Option Value → Shared → Prop} (hh : A.handled = none) (hit : s.heap.IsKeyIter it d i es.size ep) (hm : RawD s.heap d es ep) (hx : es.size ≤ i)
    (hQ : ∀ h', Heap.ExtBut it s.heap h' → Q none { s with heap := h' }) : wpAny (model prog w) A (pyNext (.ref it)) Q E s := by
  obtain ⟨o, ho, hc, hd⟩ := id hit
  obtain ⟨od, hod, hcd, hdd⟩ := id hm
  unfold pyNext
  refine wpAny_bind (wpAny_attempt (wpAny_callSpecial?_slot (name := Str.ofString "__next__") hit.typeIs F.slot_dict_keyiterator_next (wpAny_call_entry F.slot_dict_keyiterator_next hit.typeIs F.entry_dict_keyiterator_next ?_ (F.args_dict_keyiterator_next_1 _))))
  refine wpAny_bind (wpAny_pure (wpAny_bind (wpAny_bind ?_)))
  first | refine wpAny_bind (wpAny_typeNameOfWhole_keyiter hit.typeIs (wpAny_pure ?_)) | refine wpAny_bind (wpAny_typeNameOf_keyiter hit.typeIs (wpAny_pure ?_))
  refine wpAny_bind (wpAny_fieldsOf ho hd ?_)
  simp only [show Builtin.Dict_items.ownsTuple "dict_keyiterator" = false from by decide, Bool.false_eq_true, if_false]
  show wpAny _ _ (if (Value.ref d == Value.none) = true then _ else _) _ _ s
  rw [if_neg (show ¬ ((Value.ref d == Value.none) = true) from Bool.false_ne_true)]
  refine wpAny_bind (wpAny_pure (wpAny_bind (wpAny_dictEntries hod hdd ?_)))
  rw [if_neg (by simp)]
  refine wpAny_bind (wpAny_pure (wpAny_bind (wpAny_dictEpoch hod hdd ?_)))
  rw [if_neg (by simp)]
  refine wpAny_pure ?_
  simp only [show ¬ ((i : Int) < 0) from by omega, if_false, Int.toNat_natCast, Array.getElem?_eq_none hx]
  refine wpAny_bind ?_
  first | refine wpAny_bind (wpAny_typeNameOfWhole_keyiter hit.typeIs (wpAny_pure ?_)) | refine wpAny_bind (wpAny_typeNameOf_keyiter hit.typeIs (wpAny_pure ?_))
  show wpAny _ _ (setField (.ref it) 0 .none >>= _) _ _ s
  refine wpAny_bind (wpAny_setField ho hd (by simp) ?_)
  show wpAny _ _ (newExc (.type "StopIteration") [] >>= _) _ _ _
  refine wpAny_bind ?_
  simp only [newExc, newTuple]
  refine wpAny_bind (wpAny_newObj_type (wpAny_bind (m := firstArgMember _ _) (wpAny_of_eq (a := Value.none) (by first | rfl | (simp only [firstArgMember]; rfl)) ?_)) (by size_fits))
  refine wpAny_newObj_type ?_ (by size_fits)
  simp only [raiseNew]
  refine wpAny_bind (wpAny_handled ?_)
  rw [show A.in1.handled = none from hh]
  refine wpAny_bind (wpAny_pure (wpAny_throw ?_))
  refine wpAny_bind (wpAny_isInstance (T := "StopIteration") (b := true) ⟨_, Heap.get?_push_size _ rfl, rfl⟩ isSubtype_stop ?_)
  exact wpAny_pure (hQ _ (((Heap.SameBut.update ..).extBut.push _).push _))
theorem rawSrc {d : Addr} {es : Array DictEntry} {ep : Nat} (lo : (d == sysModules) = false) : PySem.W.KdlSrc prog w "dict" d d es.size (fun i v => ∃ e, es[i]? = some e ∧ v = e.key) (fun h => RawD h d es ep) where
  type := fun _ hm => hm.ty
  there := fun _ ⟨_, ho, _⟩ => ⟨Heap.lt_size ho, Heap.lt_size ho⟩
  keep := fun _ _ ⟨o, ho, r⟩ hk => ⟨o, hk d (.inl rfl) o ho, r⟩
  notList := by decide
  notTuple := by decide
  hint := fun _ _ _ _ hm hq => PySem.W.kdl_hint_dict hm.ty hq
  iter := fun A s hh hm => ⟨_, fun i h => h.IsKeyIter s.heap.objs.size d i es.size ep ∧ RawD h d es ep, fun _ _ hq => rawIter lo hm hq,
    { sub := fun b hb => by simp at hb; simp [hb]
      frame := fun _ _ _ st hk => by
        obtain ⟨x, o, ho, r⟩ := st
        exact ⟨x.at fun o e => hk _ (by simp) o e, o, hk d (by simp) o ho, r⟩
      item := fun i s' Q E hi st hQ => by
        have hne : d ≠ s.heap.objs.size := by
          obtain ⟨_, ho, _⟩ := hm
          exact Nat.ne_of_lt (Heap.lt_size ho)
        refine rawNext st.1 st.2 (Array.getElem?_eq_getElem hi) fun h' nx sb => hQ _ h' s'.toks ⟨_, Array.getElem?_eq_getElem hi, rfl⟩ ⟨nx, ?_⟩ fun b o hb e => sb.extBut b o (fun z => hb (by simp [z])) e
        obtain ⟨o, ho, r⟩ := st.2
        exact ⟨o, sb.extBut _ _ hne ho, r⟩
      done := fun s' Q E st hQ => rawEnd hh st.1 st.2 (Nat.le_refl _) fun h' eb => hQ h' s'.toks fun b o hb e => eb b o (fun z => hb (by simp [z])) e
      self := fun _ _ _ _ st hQ => wpAny_pyIter_keyiter st.1 hQ }, ⟨_, Heap.get?_push_size _ rfl, rfl, rfl⟩, let ⟨o, ho, r⟩ := hm; ⟨o, Heap.get?_push_of_some _ ho, r⟩⟩
end
/-! ### the order of tuples of ints -/
abbrev encI (b : V × List Int) : PyData := .tuple (b.2.map .int)
theorem le_encI : PySem.W.dataLe false encI = fun p q => decide (p.2 ≤ q.2) := by
  funext p q
  show (!PySem.W.dataLt (.tuple (q.2.map .int)) (.tuple (p.2.map .int))) = _
  rw [PySem.W.dataLt_tuple]
  show (!PySem.W.rowLt (q.2.map .int) (p.2.map .int)) = _
  rw [PySem.W.dataLt_ints]
  by_cases h : q.2 < p.2
  · rw [decide_eq_true h, decide_eq_false fun r => List.not_lt.mpr r h]
    rfl
  · rw [decide_eq_false h, decide_eq_true (List.not_lt.mp h)]
    rfl
theorem sorted_encI (bs : List (V × List Int)) : ((bs.mergeSort (PySem.W.dataLe false encI)).map Prod.snd).Pairwise (· ≤ ·) := by
  rw [List.pairwise_map, le_encI]
  have := List.pairwise_mergeSort (le := fun p q : V × List Int => decide (p.2 ≤ q.2)) (fun a b c h1 h2 => ?_) (fun a b => ?_) bs
  · exact this.imp fun h => of_decide_eq_true h
  · exact decide_eq_true (List.le_trans (of_decide_eq_true h1) (of_decide_eq_true h2))
  · rcases List.le_total a.2 b.2 with h | h
    · rw [decide_eq_true h]; rfl
    · rw [decide_eq_true h, Bool.or_true]
/-! ### what the items stand for -/
def TsOk (H : Hp) (bs : List (V × List Int)) : Prop := ∀ b ∈ bs, ∃ t, b.1 = .ref t ∧ H t = some (.tup (b.2.map V.int)) ∧ b.2 ≠ []
theorem each_vals : ∀ {bs : List (V × List Int)} {us : List Value}, Vals (bs.map Prod.fst) us → PySem.W.EachIs (fun v b => RelV b.1 v) us bs
  | [], _, .nil => .nil
  | b :: bs, _, .cons r q => .cons r (each_vals q)
theorem vals_each : ∀ {bs : List (V × List Int)} {us : List Value}, PySem.W.EachIs (fun v b => RelV b.1 v) us bs → Vals (bs.map Prod.fst) us
  | _, _, .nil => .nil
  | _, _, .cons r q => .cons r (vals_each q)
theorem reads_ints {h : Heap} : ∀ {ns : List Int} {us : List Value}, Vals (ns.map V.int) us → ReadsAll h us (ns.map .int) []
  | [], _, .nil => .nil
  | n :: ns, _, .cons r q => by
    obtain ⟨k, rfl⟩ := r
    exact .cons (as := []) (.int n k) (reads_ints q)
section
variable {X : Cx} {pins : List (Addr × Obj)} {σ : L2.St} {H : Hp} {s : Shared}
theorem reads_tupI (I : L2.Inv X pins σ H s) {t : Addr} {ns : List Int} (h : H t = some (.tup (ns.map V.int))) : Reads s.heap (.ref t) (.tuple (ns.map .int)) [] := by
  obtain ⟨us, rv, ⟨o, h1, h2, n, h3⟩, _⟩ := I.tuple (SqT.of (K := X.K) h)
  exact .tuple h1 h2 h3 (by simpa using reads_ints rv)
theorem each_reads (I : L2.Inv X pins σ H s) {h' : Heap} (k : ∀ b o, s.heap.get? b = some o → h'.get? b = some o) (a : Addr) : ∀ {bs : List (V × List Int)} {us : List Value}, TsOk H bs → Vals (bs.map Prod.fst) us → PySem.W.EachIs (fun v b => ∃ as, Reads h' v (encI b) as ∧ a ∉ as) us bs
  | [], _, _, .nil => .nil
  | b :: bs, _, ok, .cons r q => by
    refine .cons ?_ (each_reads I k a (fun c hc => ok c (List.mem_cons_of_mem _ hc)) q)
    obtain ⟨t, e, ht, _⟩ := ok b List.mem_cons_self
    rw [e] at r
    cases r
    exact ⟨[], PyProof.Rows.Reads.keeps k (reads_tupI I ht), List.not_mem_nil⟩
theorem alike_encI (bs : List (V × List Int)) : PySem.W.AllAlike (bs.map encI) := PySem.W.AllAlike.of fun a b => by
  have h := PySem.W.alike_ints a.2 b.2
  simpa [PySem.W.alike] using h
theorem sortable_encI {bs : List (V × List Int)} (ok : TsOk H bs) : PySem.W.Sortable (bs.map encI) := .inl fun d hd => by
  obtain ⟨b, hb, rfl⟩ := List.mem_map.mp hd
  obtain ⟨t, _, _, ne⟩ := ok b hb
  cases e : b.2 with
  | nil => exact absurd e ne
  | cons x r =>
    refine ⟨.int x, r.map .int, ?_⟩
    show PyData.tuple (b.2.map .int) = _
    rw [e]
    rfl
theorem depth_encI (b : V × List Int) : (encI b).depth ≤ 1 := by
  have h := PySem.W.depth_ints b.2
  show PyData.depth (.tuple (b.2.map .int)) ≤ 1
  simp only [PyData.depth]
  omega
end
abbrev srtT (bs : List (V × List Int)) : List (V × List Int) := bs.mergeSort (PySem.W.dataLe false encI)
section
variable {X : Cx}
def rSortTs (K : PySem.W.Frag) : List V → Hp → VK → Prop := fun vs H Q => ∃ (a : Addr) (bs : List (V × List Int)), vs = [.ref a] ∧ SqL K H a (bs.map Prod.fst) ∧ TsOk H bs ∧ bs.length ≤ 100000 ∧ ∀ p, H p = none → Q (.ref p) (upd H p (.lst ((srtT bs).map Prod.fst)))
theorem call_sortTs (hu : X.A.units + 64 < cLine) : CallR X (.builtin "sorted") (rSortTs X.K) := by
  intro pins s σ H vs us Q I r h
  obtain ⟨a, bs, rfl, hs, ok, hl, q⟩ := h
  obtain ⟨its, rv, pl, _⟩ := I.list hs
  rw [Vals.ref1 r]
  have sm : bs.length ≤ sizeLine := small _ hl
  refine PySem.W.sorted_data (R := fun v b => RelV b.1 v) (enc := encI) pl.isList (each_vals rv) ((each_reads I (fun _ _ e => e) a ok rv).mono fun _ _ ⟨as, z, _⟩ => ⟨as, z⟩) (alike_encI bs) (sortable_encI ok) sm (fun b _ => ?_) fun out ho eo => ?_
  · have := depth_encI b
    omega
  · obtain ⟨ep, he⟩ := PyProof.Rows.sortedAll_at s.heap its out.toArray
    have len : ((srtT bs).map Prod.fst).length ≤ sizeLine := by rw [List.length_map, List.length_mergeSort]; exact sm
    exact ⟨.ref _, upd H (s.heap.objs.size + 1) (.lst ((srtT bs).map Prod.fst)), I.laid (t' := s.toks) (fun _ _ => PyProof.Rows.sortedAll_old) (Nat.le_succ _) ⟨len, out, ep, vals_each eo, by simpa using he⟩, rfl, q _ (I.hok.fresh (Nat.le_succ _))⟩
def rSortDT : List V → Hp → VK → Prop := fun vs H Q => ∃ (a : Addr) (ks : List (List Int)), vs = [.ref a] ∧ Rd H a (.dT (dtv ks)) ∧ ks.length ≤ 100000 ∧ (∀ k ∈ ks, k ≠ []) ∧
  ∀ (bs : List (V × List Int)) (p : Addr), bs.map Prod.snd = ks → TsOk H bs → H p = none → Q (.ref p) (upd H p (.lst ((srtT bs).map Prod.fst)))
theorem keyV_ints (k : List Int) : (k.map Sum.inl).map kV = k.map V.int := by
  rw [List.map_map]
  rfl
theorem kt_bs {H : Hp} : ∀ {ks : List (List Int)} {xs : List (List Key × Addr × Value)}, KT H (dtv ks) xs → (∀ k ∈ ks, k ≠ []) → ∃ bs : List (V × List Int), bs.map Prod.snd = ks ∧ bs.map Prod.fst = xs.map (fun x => V.ref x.2.1) ∧ TsOk H bs
  | [], _, .nil, _ => ⟨[], rfl, rfl, fun _ h => nomatch h⟩
  | k :: ks, _, .cons (b := x) (l₂ := xs) ⟨h1, h2, h3⟩ t, ne => by
    obtain ⟨bs, e1, e2, ok⟩ := kt_bs (ks := ks) t fun k hk => ne k (List.mem_cons_of_mem _ hk)
    refine ⟨(.ref x.2.1, k) :: bs, by rw [List.map_cons, e1], by rw [List.map_cons, e2]; rfl, fun b hb => ?_⟩
    rcases List.mem_cons.mp hb with rfl | hb
    · exact ⟨_, rfl, by rw [← keyV_ints]; exact h2, ne k List.mem_cons_self⟩
    · exact ok b hb
theorem call_sortDT (hc : X.calm = true) (hu : X.A.units + 64 < cLine) : CallR X (.builtin "sorted") rSortDT := by
  intro pins s σ H vs us Q I r h
  obtain ⟨a, ks, rfl, hd, hl, ne, q⟩ := h
  rw [Vals.ref1 r]
  obtain ⟨z, lo, xs, kt, o, es, ep, ho, hx, hdat, hes, his, hn⟩ := dt_rd I.hok hd
  obtain ⟨bs, e1, e2, ok⟩ := kt_bs kt ne
  have lb : bs.length = ks.length := by rw [← e1, List.length_map]
  have lx : xs.length = bs.length := by
    have := congrArg List.length e2
    rw [List.length_map, List.length_map] at this
    exact this.symm
  have le : es.size = bs.length := by rw [← Array.length_toList, hes, List.length_map, lx]
  have sm : bs.length ≤ sizeLine := small _ (by omega)
  refine Calls.call_function_entry kind_sorted plain_sorted entry_sorted (args_sorted1 _) ?_
  unfold Builtin.«sorted»
  refine wpAny_bind (m := checkCount "sorted" 1 1 _) (wpAny_pure (wpAny_bind (PySem.W.kdu_collect (A := X.A.in1) (rawSrc (es := es) (ep := ep) lo) (I.ok.hd hc) ⟨o, ho, hx, hdat⟩ (by rw [le]; exact sm) fun h' tk acc kp items => ?_)))
  have accE : acc.toList = xs.map fun x => Value.ref x.2.1 := by
    apply List.ext_getElem?
    intro j
    have l1 : acc.toList.length = xs.length := by rw [Array.length_toList, items.1, le, lx]
    rw [List.getElem?_map]
    cases hj : acc.toList[j]? with
    | none =>
      have : xs[j]? = none := by
        rw [List.getElem?_eq_none_iff] at hj ⊢
        omega
      rw [this]; rfl
    | some v =>
      obtain ⟨e, he, ev⟩ := items.2 j v (by rw [← Array.getElem?_toList]; exact hj)
      rw [← Array.getElem?_toList, hes, List.getElem?_map] at he
      cases hxj : xs[j]? with
      | none => rw [hxj] at he; cases he
      | some x =>
        rw [hxj] at he
        have e3 : entryOfKey (tupleKind (mixKind X.prog X.w)) x = e := Option.some.inj he
        rw [ev, ← e3]
        rfl
  have rv : Vals (bs.map Prod.fst) acc.toList := by
    rw [accE, e2]
    exact vals_maps _ _ xs fun _ _ => rfl
  have I1 : Inv X pins σ H { s with heap := h', toks := tk } := I.kept kp
  refine wpAny_bind (wpAny_newList ?_ (by rw [← rv.length, List.length_map]; exact sm))
  have at0 : (h'.push (seqObj "list" acc.toList.toArray 0)).get? h'.objs.size = some (seqObj "list" acc.toList.toArray 0) := Heap.get?_push_size _ rfl
  show wpAny _ _ _ _ _ { s with heap := h'.push (seqObj "list" acc.toList.toArray 0), toks := tk }
  refine wpAny_bind (wpAny_holding (PySem.W.list_sort_data (s := { s with heap := h'.push (seqObj "list" acc.toList.toArray 0), toks := tk }) (R := fun v b => RelV b.1 v) (enc := encI) at0 (each_vals rv) (each_reads I1 (fun b u e => Heap.get?_push_of_some _ e) _ ok rv) (alike_encI bs) (sortable_encI ok) sm (fun b _ => ?_) fun out lo' eo => ?_))
  · have := depth_encI b
    show X.A.units + 1 + 1 + (encI b).depth < cLine
    omega
  · obtain ⟨ep', he⟩ := PyProof.Rows.sortedHeap_at (vs := acc.toList) (out := out.toArray) at0
    have len : ((srtT bs).map Prod.fst).length ≤ sizeLine := by rw [List.length_map, List.length_mergeSort]; exact sm
    refine wpAny_pure ⟨_, rfl, .ref h'.objs.size, upd H h'.objs.size (.lst ((srtT bs).map Prod.fst)), I1.laid (t' := tk) (fun b u e => ?_) (Nat.le_refl _) (show ObjOk X.prog X.w _ _ _ (.lst ((srtT bs).map Prod.fst)) from ⟨len, out, ep', vals_each eo, by simpa using he⟩), rfl, q bs _ e1 ok (I1.hok.fresh (Nat.le_refl _))⟩
    have hb : b < h'.objs.size := Heap.lt_size e
    rw [PyProof.Rows.sortedHeap_old (Nat.ne_of_lt hb) (by rw [size_push']; exact Nat.lt_succ_of_lt hb)]
    exact Heap.get?_push_of_some _ e
end
/-! ### readings -/
def tupI (k : List Int) : D := .tup (dIs k)
theorem reps_ts {S H : Hp} (sub : Ex S H) : ∀ {ks : List (List Int)} {xs : List V}, Reps S xs (ks.map tupI) → (∀ k ∈ ks, k ≠ []) → ∃ bs : List (V × List Int), bs.map Prod.snd = ks ∧ bs.map Prod.fst = xs ∧ TsOk S bs
  | [], _, .nil, _ => ⟨[], rfl, rfl, fun _ h => nomatch h⟩
  | k :: ks, _, .cons r t, ne => by
    obtain ⟨bs, e1, e2, ok⟩ := reps_ts sub (ks := ks) t fun k hk => ne k (List.mem_cons_of_mem _ hk)
    obtain ⟨a, ys, rfl, h, rs⟩ := Rep.of_tup r
    cases rs.of_ints
    refine ⟨(.ref a, k) :: bs, by rw [List.map_cons, e1], by rw [List.map_cons, e2], fun b hb => ?_⟩
    rcases List.mem_cons.mp hb with rfl | hb
    · exact ⟨_, rfl, h, ne k List.mem_cons_self⟩
    · exact ok b hb
theorem ts_reps {S : Hp} : ∀ {bs : List (V × List Int)}, TsOk S bs → Reps S (bs.map Prod.fst) (bs.map fun b => tupI b.2)
  | [], _ => .nil
  | b :: bs, ok => by
    obtain ⟨t, e, h, _⟩ := ok b List.mem_cons_self
    refine .cons ?_ (ts_reps fun c hc => ok c (List.mem_cons_of_mem _ hc))
    rw [e]
    exact .tup h (Reps.ints _)
theorem tsOk_perm {S : Hp} {bs cs : List (V × List Int)} (p : cs.Perm bs) (ok : TsOk S bs) : TsOk S cs := fun b hb => ok b (p.mem_iff.mp hb)
theorem tsOk_ex {S S' : Hp} {bs : List (V × List Int)} (e : Ex S S') (ok : TsOk S bs) : TsOk S' bs := fun b hb => let ⟨t, h1, h2, h3⟩ := ok b hb; ⟨t, h1, e _ _ h2, h3⟩
section
variable {X : Cx} {W : Wc}
def fSortTs : List D → (List D → Prop) → Prop := fun ds Q => ∃ ks : List (List Int), ds = [.lst (ks.map tupI)] ∧ (∀ k ∈ ks, k ≠ []) ∧ ks.length ≤ 100000 ∧ ∀ cs : List (List Int), cs.Perm ks → cs.Pairwise (· ≤ ·) → Q (cs.map tupI)
def fSortDT : List D → (List D → Prop) → Prop := fun ds Q => ∃ ks : List (List Int), ds = [.dt ks] ∧ (∀ k ∈ ks, k ≠ []) ∧ ks.length ≤ 100000 ∧ ∀ cs : List (List Int), cs.Perm ks → cs.Pairwise (· ≤ ·) → Q (cs.map tupI)
theorem srt_perm (bs : List (V × List Int)) : (srtT bs).Perm bs := List.mergeSort_perm bs _
theorem srt_fin {S H : Hp} {bs : List (V × List Int)} {ks : List (List Int)} (ok : W.ok H) (sub : Ex S H) (hb : TsOk S bs) (e1 : bs.map Prod.snd = ks) {Qd : List D → Prop} (q : ∀ cs : List (List Int), cs.Perm ks → cs.Pairwise (· ≤ ·) → Qd (cs.map tupI)) {Q : VK}
    (k : ∀ l xs ds S' H', Gr W S H S' H' → H l = none → S' l = none → H' l = some (.lst xs) → Reps S' xs ds → Qd ds → Q (.ref l) H') (p : Addr) (np : H p = none) : Q (.ref p) (upd H p (.lst ((srtT bs).map Prod.fst))) := by
  refine k p _ ((srtT bs).map fun b => tupI b.2) S _ (Gr.newM ok sub np) np (sub.free np) upd_same (ts_reps (tsOk_perm (srt_perm bs) hb)) ?_
  have := q ((srtT bs).map Prod.snd) (by rw [← e1]; exact (srt_perm bs).map _) (sorted_encI bs)
  rw [List.map_map] at this
  exact this
theorem c_sortTs {K : PySem.W.Frag} (hu : X.A.units + 64 < cLine) (hK : X.K = K := by rfl) : CBL X W (.builtin "sorted") (rSortTs K) fSortTs := hK ▸ ⟨call_sortTs hu, fun ok sub r Qd q Q k => by
  obtain ⟨ks, rfl, ne, hl, q⟩ := q
  obtain ⟨v, rfl, r1⟩ := r.one
  obtain ⟨a, ys, rfl, h, rs⟩ := r1.of_lst
  obtain ⟨bs, e1, e2, hb⟩ := reps_ts sub rs ne
  subst e2
  exact ⟨a, bs, rfl, SqL.of (sub _ _ h), tsOk_ex sub hb, by rw [← e1, List.length_map] at hl; exact hl, srt_fin ok sub hb e1 q k⟩⟩
theorem c_sortDT (hu : X.A.units + 64 < cLine) (hc : X.calm = true := by rfl) : CBL X W (.builtin "sorted") rSortDT fSortDT := ⟨call_sortDT hc hu, fun ok sub r Qd q Q k => by
  obtain ⟨ks, rfl, ne, hl, q⟩ := q
  obtain ⟨v, rfl, r1⟩ := r.one
  obtain ⟨a, rfl, h⟩ := r1.of_dt
  refine ⟨a, ks, rfl, .inl (sub _ _ h), hl, ne, fun bs p e1 hb np => ?_⟩
  have g := Gr.tups ok sub
  have hb2 : TsOk (tupsOf _ _) bs := fun b m => let ⟨t, z1, z2, z3⟩ := hb b m; ⟨t, z1, tupsOf_tup sub z2, z3⟩
  exact srt_fin g.ok g.sub hb2 e1 q (fun l xs ds S' H' g' n1 n2 e r q => k l xs ds S' H' (g.trans g') n1 n2 e r q) p np⟩
end
end NR
/-! t * k of a tuple, 1 ≤ k. -/
namespace NR
open PySem PySem.Spec PyProof.Rows L2
theorem mul_one_meets (l : Addr) (items : Array Value) (n : Nat) (dd : Option Addr) (sl : Array (Option Value)) (u : Tok) (ne : items.isEmpty = false) :
    Meets (Builtin.«tuple.__mul__» ⟨[.ref l, .int 1 u], []⟩) (fun _ R s => s.heap.get? l = some { cls := .type "tuple", dict := dd, data := .seq items n, slots := sl } ∧ R (.ok (.ret (Value.ref l))) s) :=
  .of_wp fun prog w A R s h => by
    obtain ⟨hp, g, d, tk, os⟩ := s
    obtain ⟨hl, h⟩ := h
    have f1 := AutoSeq1.idx_int
    have ty : Shared.TypeIs ⟨hp, g, d, tk, os⟩ (.ref l) "tuple" := ⟨_, hl, rfl⟩
    wp_walk using wpAny_loadPart' hl
    exact ⟨_, rfl, h⟩
def rRep1 (K : PySem.W.Frag) : R2 := fun x y H Q => ∃ l xs, x = .ref l ∧ y = .int 1 ∧ SqT K H l xs ∧ xs ≠ [] ∧ Q x H
def rRepA (K : PySem.W.Frag) : R2 := fun x y H Q => rRepT K x y H Q ∨ rRep1 K x y H Q
section
variable {X : Cx} {W : Wc}
theorem op_rep1 : OpR X (binaryOp .Mult) (rRep1 X.K) := by
  intro pins s σ H x y v u Q I rx ry h
  obtain ⟨l, xs, rfl, rfl, hT, ne, q⟩ := h
  cases rx
  obtain ⟨t, rfl⟩ := ry
  obtain ⟨us, r, ⟨⟨cls, dd, data, sl⟩, ho, hc, n, hd⟩, hs⟩ := I.tuple hT
  simp only at hc hd
  subst hc hd
  have he : us.toArray.isEmpty = false := by
    cases us with
    | nil =>
      cases r
      exact absurd rfl ne
    | cons a b => rfl
  exact wpAny_binaryOp_repeat_ref (T := "tuple") (U := "int") (by decide) ⟨_, ho, rfl⟩ (fun s' => typeIs_int s' 1 t) noFill_tuple_mul F.fills_int_mul F.slot_int_rmul repeat_tuple F.slot_int_index.lookup
    (call_meets F.slot_int_rmul (typeIs_int s 1 t) F.entry_int_rmul (F.args_int_rmul_2 _ _) (int_rmul_tuple 1 t l us.toArray n dd sl)
      ⟨ho, rfl, ⟨_, ho, rfl⟩, call_meets F.slot_tuple_mul ⟨_, ho, rfl⟩ F.entry_tuple_mul (F.args_tuple_mul_2 _ _) (mul_one_meets l us.toArray n dd sl t he) ⟨ho, ⟨.ref l, H, I.tok _, rfl, q⟩⟩⟩)
theorem op_repA : OpR X (binaryOp .Mult) (rRepA X.K) := fun pins s σ H x y v u Q I rx ry h => h.elim (fun h => op_repT pins s σ H x y v u Q I rx ry h) fun h => op_rep1 pins s σ H x y v u Q I rx ry h
def repD (k : Int) (ds : List D) : List D := (List.replicate k.toNat ds).flatten
theorem reps_rep {S : Hp} {xs : List V} {ds : List D} (r : Reps S xs ds) : ∀ n : Nat, Reps S (List.replicate n xs).flatten (List.replicate n ds).flatten
  | 0 => .nil
  | n + 1 => by
    rw [List.replicate_succ, List.replicate_succ, List.flatten_cons, List.flatten_cons]
    exact r.append (reps_rep r n)
def fRepT : D → D → (D → Prop) → Prop := fun x y Q => ∃ ds, ∃ k : Int, x = .tup ds ∧ y = .int k ∧ ds ≠ [] ∧ ds.length ≤ 1000 ∧ 1 ≤ k ∧ k ≤ 1000 ∧ Q (.tup (repD k ds))
theorem o_repT {K : PySem.W.Frag} (hK : X.K = K := by rfl) : Op2 X W (binaryOp .Mult) (rRepA K) fRepT := hK ▸ ⟨op_repA, fun {S H x y dx dy} ok sub rx ry Qd q Q k => by
  obtain ⟨ds, n, rfl, rfl, ne, hl, h1, h2, q⟩ := q
  obtain ⟨a, xs, rfl, h, r1⟩ := rx.of_tup
  cases ry.of_int
  have nx : xs ≠ [] := fun e => by
    subst e
    cases r1
    exact ne rfl
  by_cases e : n = 1
  · subst e
    refine .inr ⟨a, xs, rfl, rfl, SqT.of (sub _ _ h), nx, k _ _ _ _ (Gr.refl ok sub) rx ?_⟩
    have e1 : repD 1 ds = ds := by
      show (List.replicate 1 ds).flatten = ds
      simp
    rwa [e1] at q
  · exact .inl ⟨a, n, xs, rfl, rfl, SqT.of (sub _ _ h), nx, by omega, h2, by rw [r1.length]; exact hl, fun p np => k _ _ _ _ (Gr.new ok sub np) (.tup upd_same ((reps_rep r1 n.toNat).mono (ex_upd (sub.free np)))) q⟩⟩
def D.isNon : D → Bool
  | .non => true
  | _ => false
def fIsN : D → D → (D → Prop) → Prop := fun x y Q => y = .non ∧ Q (.bl x.isNon)
theorem o_isN : Op2 X W (compareOp .Is) (fun x y H Q => y = .non ∧ Q (.bl (decide (x = .non))) H) fIsN := ⟨op_isN, fun {S H x y dx dy} ok sub rx ry Qd q Q k => by
  obtain ⟨rfl, q⟩ := q
  cases ry
  refine ⟨rfl, ?_⟩
  have e : decide (x = V.non) = dx.isNon := by
    cases rx <;> rfl
  rw [e]
  exact k _ _ _ _ (Gr.refl ok sub) (.bl _) q⟩
end
end NR
/-! Readings of data: how they are met. -/
namespace NR
open PySem PySem.Spec PyProof.Rows L2
/-- a comprehension whose elements are known -/
theorem comp_fm {I : DA} {g : DG} {C : DT} {F : DE} {vs : List Nat} {ρ : List Sl} {Q : List D → Prop} (ds : List D) (f : D → Option D) (hl : ds.length ≤ 100000) (hI : ∀ R : List D → Prop, R ds → I ρ R)
    (step : ∀ d ∈ ds, ∀ R : Option D → Prop, R (f d) → g d (wipeD ρ vs) fun ρ' => C ρ' fun b => if b = true then F ρ' fun y => R (some y) else R none) (h : Q (ds.filterMap f)) : dComp I g C F vs ρ Q := by
  refine hI _ ⟨hl, fun i acc => acc = (ds.take i).filterMap f, by simp, fun i d acc hd e => ?_, fun acc e => ?_⟩
  · have q := step d (List.mem_of_getElem? hd) (fun o => (match o with | some y => acc ++ [y] | none => acc) = (ds.take (i + 1)).filterMap f) (by
      rw [List.take_add_one, hd, List.filterMap_append, ← e]
      cases hf : f d with
      | none => simp [hf]
      | some y => simp [hf])
    exact q
  · rw [e, List.take_of_length_le (Nat.le_refl _)]
    exact h
theorem comp_map {I : DA} {g : DG} {F : DE} {vs : List Nat} {ρ : List Sl} {Q : List D → Prop} (ds : List D) (f : D → D) (hl : ds.length ≤ 100000) (hI : ∀ R : List D → Prop, R ds → I ρ R)
    (step : ∀ d ∈ ds, ∀ R : D → Prop, R (f d) → g d (wipeD ρ vs) fun ρ' => F ρ' R) (h : Q (ds.map f)) : dComp I g tYesD F vs ρ Q := by
  refine comp_fm ds (fun d => some (f d)) hl hI (fun d hd R r => ?_) (by rw [List.filterMap_eq_map']; exact h)
  have := step d hd (fun y => R (some y)) r
  have : g d (wipeD ρ vs) fun ρ' => tYesD ρ' fun b => if b = true then F ρ' fun y => R (some y) else R none := by
    show g d (wipeD ρ vs) fun ρ' => if true = true then F ρ' fun y => R (some y) else R none
    simpa using this
  exact this
/-! the same behind the iterator -/
theorem comp_fmC {g : DG} {C : DT} {F : DE} {vs : List Nat} {ρ : List Sl} {Q : List D → Prop} {ds : List D} (f : D → Option D) (hl : ds.length ≤ 100000)
    (step : ∀ d ∈ ds, ∀ R : Option D → Prop, R (f d) → g d (wipeD ρ vs) fun ρ' => C ρ' fun b => if b = true then F ρ' fun y => R (some y) else R none) (h : Q (ds.filterMap f)) :
    ds.length ≤ 100000 ∧ ∃ P : Nat → List D → Prop, P 0 [] ∧ (∀ i d acc, ds[i]? = some d → P i acc → g d (wipeD ρ vs) fun ρ' => C ρ' fun b => if b = true then F ρ' fun y => P (i + 1) (acc ++ [y]) else P (i + 1) acc) ∧ ∀ acc, P ds.length acc → Q acc :=
  comp_fm (I := fun _ R => R ds) ds f hl (fun _ r => r) step h
theorem comp_mapC {g : DG} {F : DE} {vs : List Nat} {ρ : List Sl} {Q : List D → Prop} {ds : List D} (f : D → D) (hl : ds.length ≤ 100000)
    (step : ∀ d ∈ ds, ∀ R : D → Prop, R (f d) → g d (wipeD ρ vs) fun ρ' => F ρ' R) (h : Q (ds.map f)) :
    ds.length ≤ 100000 ∧ ∃ P : Nat → List D → Prop, P 0 [] ∧ (∀ i d acc, ds[i]? = some d → P i acc → g d (wipeD ρ vs) fun ρ' => tYesD ρ' fun b => if b = true then F ρ' fun y => P (i + 1) (acc ++ [y]) else P (i + 1) acc) ∧ ∀ acc, P ds.length acc → Q acc :=
  comp_map (I := fun _ R => R ds) ds f hl (fun _ r => r) step h
end NR
/-! Lists of who lies near, made by appending to lists within a list. -/
namespace NR
open PySem PySem.Spec PyProof.Rows L2
def pairD (p : Int × Int) : D := .tup [.int p.1, .int p.2]
def netD (n : Int) (ps : List (Int × Int)) : D := .tup [.int n, .tup (ps.map pairD)]
def appR (rows : List (List Int)) (i : Nat) (v : Int) : List (List Int) := rows.set i (rows.getD i [] ++ [v])
def linkR (rows : List (List Int)) (p : Int × Int) : List (List Int) := appR (appR rows p.1.toNat p.2) p.2.toNat p.1
def adjL (n : Nat) (ps : List (Int × Int)) : List (List Int) := ps.foldl linkR (List.replicate n [])
theorem appR_len (rows : List (List Int)) (i : Nat) (v : Int) : (appR rows i v).length = rows.length := by unfold appR; rw [List.length_set]
theorem linkR_len (rows : List (List Int)) (p : Int × Int) : (linkR rows p).length = rows.length := by unfold linkR; rw [appR_len, appR_len]
/-- l holds lists of its own -/
def NF (W : Wc) (B S H : Hp) (l : Addr) (rows : List (List Int)) : Prop := ∃ ls : List Addr, H l = some (.lst (ls.map V.ref)) ∧ ls.length = rows.length ∧ ls.Nodup ∧ l ∉ ls ∧ (∀ a, a = l ∨ a ∈ ls → B a = none ∧ ¬ W.at_ a ∧ S a = none) ∧
  ∀ (i : Nat) (a : Addr) (r : List Int), ls[i]? = some a → rows[i]? = some r → H a = some (.lst (r.map V.int))
section
variable {W : Wc} {B S0 S S' H H' : Hp} {ρ : List Sl} {σ : L2.St} {l : Addr} {rows : List (List Int)}
theorem row_at {ls : List Addr} (hl : ls.length = rows.length) {i : Nat} {a : Addr} (h : ls[i]? = some a) : ∃ r, rows[i]? = some r :=
  ⟨_, List.getElem?_eq_getElem (by rw [← hl]; exact (List.getElem?_eq_some_iff.mp h).1)⟩
theorem NF.gr (g : Gr W S H S' H') (h : NF W B S H l rows) : NF W B S' H' l rows := by
  obtain ⟨ls, h1, h2, h3, h4, h5, h6⟩ := h
  refine ⟨ls, g.ex _ _ (h5 l (.inl rfl)).2.1 h1, h2, h3, h4, fun a ha => ⟨(h5 a ha).1, (h5 a ha).2.1, ?_⟩, fun i a r e1 e2 => g.ex _ _ (h5 a (.inr (List.mem_of_getElem? e1))).2.1 (h6 i a r e1 e2)⟩
  have old : Old W H a := by
    rcases ha with rfl | ha
    · exact ⟨_, h1, .inr fun _ z => nomatch z⟩
    · obtain ⟨i, hi⟩ := List.mem_iff_getElem?.mp ha
      obtain ⟨r, hr⟩ := row_at h2 hi
      exact ⟨_, h6 i a r hi hr, .inr fun _ z => nomatch z⟩
  rw [g.st a old]
  exact (h5 a ha).2.2
/-- a thing of no slot changes -/
theorem SR.updF {a : Addr} {o : HO} (s : SR W B S0 ρ σ S H) (nm : ∀ x ∈ ρ, x.mut = false) (b : B a = none) (w : ¬ W.at_ a) (sa : S a = none) : SR W B S0 ρ σ S (L2.upd H a o) := by
  have hB : ∀ c u, B c = some u → c ≠ a := fun c u h z => by rw [z, b] at h; cases h
  refine ⟨W.loc H _ (fun c hc => upd_ne fun z => w (z ▸ hc)) s.ok, fun c u hc h => ?_, fun c u h => ?_, s.st, s.ss, fun c u h => ?_, s.wat, fun j y ej => ?_, s.ne, s.len⟩
  · rw [upd_ne (hB c u h)]; exact s.base c u hc h
  · rw [upd_ne (hB c u h)]; exact s.dom c u h
  · rw [upd_ne fun z => by rw [z, sa] at h; cases h]; exact s.sub c u h
  · have q := s.sl j y ej
    have n := nm y (List.mem_of_getElem? ej)
    cases y <;> first | exact q | cases n
theorem NF.app (s : SR W B S0 ρ σ S H) (nm : ∀ x ∈ ρ, x.mut = false) (h : NF W B S H l rows) {i : Nat} (hi : i < rows.length) (v : Int) :
    ∃ xs a, H l = some (.lst xs) ∧ atI xs (i : Int) = some (.ref a) ∧ H a = some (.lst ((rows.getD i []).map V.int)) ∧ SR W B S0 ρ σ S (L2.upd H a (.lst ((rows.getD i []).map V.int ++ [.int v]))) ∧ NF W B S (L2.upd H a (.lst ((rows.getD i []).map V.int ++ [.int v]))) l (appR rows i v) := by
  obtain ⟨ls, h1, h2, h3, h4, h5, h6⟩ := h
  have il : i < ls.length := by omega
  have ha : ls[i]? = some ls[i] := List.getElem?_eq_getElem il
  have hr : rows[i]? = some (rows.getD i []) := by rw [List.getD_eq_getElem?_getD, List.getElem?_eq_getElem hi]; rfl
  have hm : ls[i] ∈ ls := List.getElem_mem il
  have h0 := h6 i _ _ ha hr
  obtain ⟨b, w, sa⟩ := h5 _ (.inr hm)
  refine ⟨_, ls[i], h1, atI_nat (by rw [List.getElem?_map, ha]; rfl), h0, s.updF nm b w sa, ls, ?_, by rw [appR_len]; exact h2, h3, h4, h5, fun j a r e1 e2 => ?_⟩
  · rw [upd_ne fun z => h4 (by rw [z]; exact hm)]; exact h1
  · unfold appR at e2
    by_cases hj : i = j
    · subst hj
      rw [ha] at e1
      cases e1
      rw [List.getElem?_set_self hi] at e2
      cases e2
      rw [upd_same, List.map_append]
      rfl
    · rw [List.getElem?_set_ne hj] at e2
      have ne : a ≠ ls[i] := fun z => by
        have jl := (List.getElem?_eq_some_iff.mp e1).1
        have := (List.getElem?_inj jl h3).mp (show ls[j]? = ls[i]? by rw [e1, ha, z])
        exact hj this.symm
      rw [upd_ne ne]
      exact h6 j a r e1 e2
/-- it stands still from here on -/
theorem NF.freeze {k : Nat} (s : SR W B S0 ρ σ S H) (nm : ∀ x ∈ ρ, x.mut = false) (h : NF W B S H l rows) (hk : k < ρ.length) (hσ : σ[k]? = some (some (.ref l))) :
    ∃ S1, Ex S S1 ∧ SR W B S0 (ρ.set k (.im (.lst (rows.map fun r => .lst (dIs r))))) σ S1 H := by
  obtain ⟨ls, h1, h2, h3, h4, h5, h6⟩ := h
  have hx : Ex S (fun a => if a = l ∨ a ∈ ls then H a else S a) := fun a o e => by
    by_cases c : a = l ∨ a ∈ ls
    · rw [(h5 a c).2.2] at e; cases e
    · show (if a = l ∨ a ∈ ls then H a else S a) = some o
      rw [if_neg c]; exact e
  refine ⟨fun a => if a = l ∨ a ∈ ls then H a else S a, hx, s.ok, s.base, s.dom, fun a ha => ?_, s.ss.trans hx, fun a o e => ?_, fun a ha => ?_, fun j y ej => ?_, fun i j si sj l' ei ej mi mj hij e => ?_, by rw [List.length_set]; exact s.len⟩
  · have c : ¬ (a = l ∨ a ∈ ls) := fun c => by
      obtain ⟨o, ho, _⟩ := ha
      rw [(h5 a c).1] at ho; cases ho
    show (if a = l ∨ a ∈ ls then H a else S a) = _
    rw [if_neg c]; exact s.st a ha
  · by_cases c : a = l ∨ a ∈ ls
    · rw [if_pos c] at e; exact e
    · rw [if_neg c] at e; exact s.sub a o e
  · have c : ¬ (a = l ∨ a ∈ ls) := fun c => (h5 a c).2.1 ha
    show (if a = l ∨ a ∈ ls then H a else S a) = _
    rw [if_neg c]; exact s.wat a ha
  · by_cases hj : k = j
    · subst hj
      rw [List.getElem?_set_self hk] at ej
      cases ej
      refine ⟨.ref l, hσ, .lst (xs := ls.map V.ref) ?_ ?_⟩
      · show (if l = l ∨ l ∈ ls then H l else S l) = _
        rw [if_pos (.inl rfl)]; exact h1
      · have step : ∀ (ls' : List Addr) (rows' : List (List Int)), ls'.length = rows'.length → (∀ (i : Nat) (a : Addr) (r : List Int), ls'[i]? = some a → rows'[i]? = some r → a ∈ ls ∧ H a = some (.lst (r.map V.int))) →
            Reps (fun a => if a = l ∨ a ∈ ls then H a else S a) (ls'.map V.ref) (rows'.map fun r => .lst (dIs r)) := by
          intro ls'
          induction ls' with
          | nil =>
            intro rows' e _
            cases rows' with
            | nil => exact .nil
            | cons r t => cases e
          | cons a t ih =>
            intro rows' e q
            cases rows' with
            | nil => cases e
            | cons r t' =>
              obtain ⟨m, hh⟩ := q 0 a r rfl rfl
              refine .cons (.lst (xs := r.map V.int) ?_ (Reps.ints r)) (ih t' (by simpa using e) fun i a r e1 e2 => q (i + 1) a r e1 e2)
              show (if a = l ∨ a ∈ ls then H a else S a) = _
              rw [if_pos (.inr m)]; exact hh
        exact step ls rows h2 fun i a r e1 e2 => ⟨List.mem_of_getElem? e1, h6 i a r e1 e2⟩
    · rw [List.getElem?_set_ne hj] at ej
      have q := s.sl j y ej
      have n := nm y (List.mem_of_getElem? ej)
      cases y with
      | no => exact True.intro
      | im d =>
        obtain ⟨x, e, r⟩ := q
        exact ⟨x, e, r.mono hx⟩
      | _ => cases n
  · by_cases hi : k = i
    · subst hi
      rw [List.getElem?_set_self hk] at ei
      cases ei
      cases mi
    · rw [List.getElem?_set_ne hi] at ei
      have n := nm si (List.mem_of_getElem? ei)
      rw [n] at mi; cases mi
end
end NR
/-! The body that makes the lists of who lies near: what it hands back. -/
namespace NR
open PySem PySem.Spec PyProof.Rows L2
def AP (K : PySem.W.Frag) (i j k : Nat) : TS := tDrop (tBM K "list" rAppend (tOp (rIxD K) (tVar i) (tVar j)) (tCons (tVar k) tNil))
abbrev In1 : DA := iR1 (aCons (dOp2 fIx (dVar 0) (dC (.int 0))) aNil)
abbrev In2 : DA := iSeq (dOp2 fIx (dVar 0) (dC (.int 1))) true
abbrev Rt3 : DS := dRet (dL (dComp (iSeq (dVar 1) false) (gdN 5) tYesD (dL (dCBL fSort (aCons (dVar 5) aNil))) [5]))
def nearD (rows : List (List Int)) : D := .lst (rows.map fun r => .lst (dIs r))
def OkNet (n : Nat) (ps : List (Int × Int)) : Prop := n ≤ 1000 ∧ ps.length ≤ 1000 ∧ ∀ p ∈ ps, 0 ≤ p.1 ∧ p.1 < n ∧ 0 ≤ p.2 ∧ p.2 < n
def T_near : DS := fun E ρ => ∃ (n : Nat) (ps : List (Int × Int)), ρ = [.im (netD n ps), .no, .no, .no, .no, .no] ∧ OkNet n ps ∧ E.rt (nearD ((adjL n ps).map sortI))
theorem rt3 {E : DEnds} {x : D} {a b : Sl} {rows : List (List Int)} (hl : rows.length ≤ 1000) (h : E.rt (nearD (rows.map sortI))) : Rt3 E [.im x, .im (nearD rows), a, b, .no, .no] := by
  refine comp_map (rows.map fun r => D.lst (dIs r)) (fun d => match d with | .lst xs => .lst (dIs (sortI (xs.filterMap fun z => match z with | .int i => some i | _ => none))) | _ => .non) (by rw [List.length_map]; omega) (fun R r => ⟨_, rfl, _, rfl, r⟩) (fun d hd R r => ?_) ?_
  · obtain ⟨row, _, rfl⟩ := List.mem_map.mp hd
    have e : (dIs row).filterMap (fun z => match z with | D.int i => some i | _ => none) = row := by
      unfold dIs
      rw [List.filterMap_map]
      exact List.filterMap_some
    simp only [e] at r
    exact ⟨_, rfl, _, rfl, r⟩
  · rw [List.map_map]
    unfold nearD at h
    rw [List.map_map] at h
    have e : (List.map ((fun r => D.lst (dIs r)) ∘ sortI) rows) = List.map ((fun d => match d with | .lst xs => .lst (dIs (sortI (xs.filterMap fun z => match z with | .int i => some i | _ => none))) | _ => .non) ∘ fun r => D.lst (dIs r)) rows := by
      refine List.map_congr_left fun row _ => ?_
      have e : (dIs row).filterMap (fun z => match z with | D.int i => some i | _ => none) = row := by
        unfold dIs
        rw [List.filterMap_map]
        exact List.filterMap_some
      show D.lst (dIs (sortI row)) = D.lst (dIs (sortI ((dIs row).filterMap _)))
      rw [e]
    rw [e] at h
    exact h
def short (rows : List (List Int)) (k : Nat) : Prop := ∀ i : Nat, (rows.getD i []).length ≤ k
theorem short_app {rows : List (List Int)} {k i : Nat} {v : Int} (h : short rows k) : short (appR rows i v) (k + 1) := fun j => by
  unfold appR
  by_cases e : i = j
  · subst e
    by_cases hi : i < rows.length
    · rw [List.getD_eq_getElem?_getD, List.getElem?_set_self hi]
      show (rows.getD i [] ++ [v]).length ≤ k + 1
      rw [List.length_append]
      have := h i
      simp only [List.length_singleton]
      omega
    · rw [List.getD_eq_getElem?_getD, List.getElem?_eq_none (by rw [List.length_set]; omega)]
      exact Nat.zero_le _
  · rw [List.getD_eq_getElem?_getD, List.getElem?_set_ne e, ← List.getD_eq_getElem?_getD]
    exact Nat.le_succ_of_le (h j)
section
variable {W : Wc} {B S0 S S' H H' : Hp} {ρ : List Sl} {σ : L2.St} {l : Addr} {rows : List (List Int)}
theorem SR.at_im (s : SR W B S0 ρ σ S H) {i : Nat} {d : D} (h : ρ[i]? = some (.im d)) : ∃ x, σ[i]? = some (some x) ∧ Rep S x d := s.sl i _ h
theorem ap_step {K : PySem.W.Frag} {i j k : Nat} {x y : Int} {D' : Ends} (s : SR W B S0 ρ σ S H) (nm : ∀ x ∈ ρ, x.mut = false) (h : NF W B S H l rows) (hσ : σ[i]? = some (some (.ref l))) (hj : ρ[j]? = some (.im (.int x))) (hk : ρ[k]? = some (.im (.int y)))
    (h0 : 0 ≤ x) (hx : x.toNat < rows.length) {m : Nat} (sh : short rows m) (hm : m ≤ 10000) (q : ∀ H', SR W B S0 ρ σ S H' → NF W B S H' l (appR rows x.toNat y) → D'.nx σ H') : AP K i j k D' σ H := by
  obtain ⟨vx, ex, rx⟩ := s.at_im hj
  obtain ⟨vy, ey, ry⟩ := s.at_im hk
  cases rx.of_int
  cases ry.of_int
  obtain ⟨xs, a, e1, e2, e3, s2, n2⟩ := NF.app s nm h hx y
  rw [Int.toNat_of_nonneg h0] at e2
  refine ⟨_, hσ, _, ex, .inl ⟨l, xs, x, .ref a, rfl, rfl, SqL.of e1, e2, .inl ⟨rfl, _, SqL.of e3⟩, _, ey, a, _, _, rfl, rfl, e3, ?_, q _ s2 n2⟩⟩
  rw [List.length_map]
  exact smallLt _ (by have := sh x.toNat; omega)
theorem fold_take {ps : List (Int × Int)} {p : Int × Int} {i : Nat} (h : ps[i]? = some p) (r : List (List Int)) : (ps.take (i + 1)).foldl linkR r = linkR ((ps.take i).foldl linkR r) p := by
  rw [List.take_add_one, h, List.foldl_append]
  rfl
theorem foldl_link_len (ps : List (Int × Int)) : ∀ r : List (List Int), (ps.foldl linkR r).length = r.length := by
  induction ps with
  | nil => exact fun _ => rfl
  | cons p ps ih => exact fun r => by rw [List.foldl_cons, ih, linkR_len]
theorem sim_near {K : PySem.W.Frag} {w1 w2 : TI} {t3 : TS} (h1 : SimI W w1 In1) (h2 : SimI W w2 In2) (h3 : SimS W t3 Rt3) :
    SimS W (tSeq (tAsg (tLc w1 (gName 4) tYes (tLst tNil) [4]) (gName 1)) (tSeq (tFor w2 (gTup K 2 (gCons (gName 2) (gCons (gName 3) gNil))) (tSeq (AP K 1 2 3) (AP K 1 3 2))) t3)) T_near := by
  intro B S0 ρ σ S H s E D' ⟨n, ps, er, ⟨hn, hp, hps⟩, q⟩ lk
  subst er
  -- the lists
  refine h1 s (Qd := fun ds => ds = rng 0 n) ⟨_, rfl, _, _, _, .inl rfl, rfl, rfl, _, rfl, by omega, by omega, rfl⟩ fun J ds S1 H1 g1 hJ e => ?_
  subst e
  have len : (rng 0 n).length = n := by rw [rng_len]; simp
  intro Dl hD
  have nW : ¬ W.at_ Dl := fun w => by
    obtain ⟨o', h'⟩ := W.dom H1 Dl g1.ok w
    rw [hD] at h'; cases h'
  refine ⟨fun i m H' => m = n - i ∧ i ≤ n ∧ ∃ (S' : Hp) (ls : List Addr), Gr W S1 H1 S' H' ∧ H' Dl = some (.lst (ls.map V.ref)) ∧ S' Dl = none ∧ ls.length = i ∧ ls.Nodup ∧ ∀ a ∈ ls, H1 a = none ∧ S' a = none ∧ a ≠ Dl ∧ H' a = some (.lst []),
    ⟨n, rfl, Nat.zero_le _, S1, [], Gr.newM g1.ok g1.sub hD, upd_same, g1.sub.free hD, rfl, List.nodup_nil, fun _ h => nomatch h⟩, ?_⟩
  rintro i m H2 ⟨rfl, hi, S2, ls, g2, l2, n2, ll, nd, hls⟩
  obtain ⟨j1, j2, j3⟩ := hJ i S2 H2 g2.ok g2.sub (g2.exS g1.sub)
  rw [len] at j1 j2 j3
  by_cases hlt : i < n
  · refine .inr ⟨j1 hlt, fun H' => ∃ (S' : Hp) (ls : List Addr), Gr W S1 H1 S' H' ∧ H' Dl = some (.lst (ls.map V.ref)) ∧ S' Dl = none ∧ ls.length = i + 1 ∧ ls.Nodup ∧ ∀ a ∈ ls, H1 a = none ∧ S' a = none ∧ a ≠ Dl ∧ H' a = some (.lst []), fun H' z => ⟨n - (i + 1), by omega, rfl, hlt, z⟩, fun x H3 y => ?_⟩
    obtain ⟨d, S3, hd, g3, r3⟩ := j3 x H3 hlt y
    have nWa : ∀ a ∈ ls, ¬ W.at_ a := fun a ha w => by
      obtain ⟨o', h'⟩ := W.dom H1 a g1.ok w
      rw [(hls a ha).1] at h'; cases h'
    refine gin_name (i := 4) (vs := [4]) (by decide) x σ H3 _ ?_
    refine ⟨Nat.zero_le _, fun p np => ?_⟩
    have l3 : H3 Dl = some (.lst (ls.map V.ref)) := g3.ex _ _ nW l2
    have pD : p ≠ Dl := fun z => by rw [z, l3] at np; cases np
    have g4 := g3.trans (Gr.newM g3.ok g3.sub np (o := .lst []))
    have l4 : L2.upd H3 p (.lst []) Dl = some (.lst (ls.map V.ref)) := by rw [upd_ne pD.symm]; exact l3
    have n4 : S3 Dl = none := (g3.st _ ⟨_, l2, .inr fun _ z => nomatch z⟩).trans n2
    refine ⟨_, l4, smallLt _ (by rw [List.length_map]; omega), S3, ls ++ [p], (g2.trans g4).updM hD n4 g1.ok, ?_, n4, by rw [List.length_append, ll]; rfl, ?_, fun a ha => ?_⟩
    · rw [upd_same, List.map_append]; rfl
    · rw [List.nodup_append]
      refine ⟨nd, List.pairwise_singleton _ _, fun a ha b hb e => ?_⟩
      rw [List.mem_singleton.mp hb] at e
      have := g3.ex _ _ (nWa a ha) (hls a ha).2.2.2
      rw [e, np] at this; cases this
    · rcases List.mem_append.mp ha with ha | ha
      · obtain ⟨z1, z2, z3, z4⟩ := hls a ha
        have z5 := g3.ex _ _ (nWa a ha) z4
        refine ⟨z1, (g3.st _ ⟨_, z4, .inr fun _ z => nomatch z⟩).trans z2, z3, ?_⟩
        rw [upd_ne z3, upd_ne (ne_of_none z5 np)]
        exact z5
      · cases List.mem_singleton.mp ha
        refine ⟨g2.back (g3.back np), g3.sub.free np, pD, ?_⟩
        rw [upd_ne pD, upd_same]
  · have e : i = n := by omega
    subst e
    refine .inl ⟨j2 (Nat.le_refl _), ?_⟩
    -- the name, then the loop
    have g := g1.trans g2
    have s1 : SR W B S0 [.im (netD ls.length ps), .no, .no, .no, .no, .no] (σ.set 1 (some (.ref Dl))) S2 H2 := by
      have := (s.gr g).setNo (i := 1) (o := some (.ref Dl))
      rw [← ll] at this
      exact this
    have hB : ∀ a, H1 a = none → B a = none := fun a h => by
      cases e : B a with
      | none => rfl
      | some o =>
        obtain ⟨o', h'⟩ := s.dom a o e
        rw [g1.back h] at h'; cases h'
    have nWa : ∀ a, H1 a = none → ¬ W.at_ a := fun a h w => by
      obtain ⟨o', h'⟩ := W.dom H1 a g1.ok w
      rw [h] at h'; cases h'
    have nf : NF W B S2 H2 Dl (List.replicate ls.length []) := by
      refine ⟨ls, l2, by rw [List.length_replicate], nd, fun z => (hls _ z).2.2.1 rfl, fun a ha => ?_, fun i a r e1 e2 => ?_⟩
      · rcases ha with rfl | ha
        · exact ⟨hB _ hD, nW, n2⟩
        · exact ⟨hB _ (hls a ha).1, nWa _ (hls a ha).1, (hls a ha).2.1⟩
      · rw [List.getElem?_replicate] at e2
        split at e2
        · cases e2
          exact (hls a (List.mem_of_getElem? e1)).2.2.2
        · cases e2
    have σ1 : (σ.set 1 (some (.ref Dl)))[1]? = some (some (.ref Dl)) := List.getElem?_set_self (by rw [s.len]; simp)
    refine h2 s1 (Qd := fun ds => ds = ps.map pairD) ⟨_, rfl, _, _, _, .inl rfl, rfl, rfl, _, rfl, rfl⟩ fun J2 ds2 S3 H3 g3 hJ2 e => ?_
    subst e
    have e3 := g3.exS s1.sub
    let INV : Nat → L2.St → Hp → Prop := fun i σ' H' => ∃ (S' : Hp) (a b : Sl), a.mut = false ∧ b.mut = false ∧ SR W B S0 [.im (netD ls.length ps), .no, a, b, .no, .no] σ' S' H' ∧ Ex S3 S' ∧ σ'[1]? = some (some (.ref Dl)) ∧ NF W B S' H' Dl ((ps.take i).foldl linkR (List.replicate ls.length [])) ∧ short ((ps.take i).foldl linkR (List.replicate ls.length [])) (2 * i)
    refine ⟨fun i m σ' H' => m = ps.length - i ∧ i ≤ ps.length ∧ INV i σ' H', ⟨ps.length, rfl, Nat.zero_le _, S3, .no, .no, rfl, rfl, s1.gr g3, Ex.refl _, σ1, nf.gr g3, fun i => ?_⟩, ?_⟩
    · rw [List.take_zero, List.foldl_nil, List.getD_eq_getElem?_getD, List.getElem?_replicate]
      split <;> exact Nat.le_refl _
    rintro i m σ4 H4 ⟨rfl, hi, S4, a, b, ma, mb, s4, e4, σ14, nf4, sh4⟩
    have nm4 : ∀ x ∈ [Sl.im (netD ls.length ps), .no, a, b, .no, .no], x.mut = false := fun x hx => by
      simp only [List.mem_cons, List.not_mem_nil, or_false] at hx
      rcases hx with rfl | rfl | rfl | rfl | rfl | rfl <;> first | rfl | assumption
    obtain ⟨k1, k2, k3⟩ := hJ2 i S4 H4 s4.ok s4.sub e4
    rw [List.length_map] at k1 k2 k3
    by_cases hlt : i < ps.length
    · refine .inr ⟨k1 hlt, INV (i + 1), fun σ' H' z => ⟨ps.length - (i + 1), by omega, rfl, hlt, z⟩, fun x H5 y => ?_⟩
      obtain ⟨d, S5, hd, g5, r5⟩ := k3 x H5 hlt y
      rw [List.getElem?_map] at hd
      cases hpi : ps[i]? with
      | none => rw [hpi] at hd; cases hd
      | some p =>
        rw [hpi] at hd
        cases hd
        obtain ⟨b1, b2, b3, b4⟩ := hps p (List.mem_of_getElem? hpi)
        obtain ⟨t, xs, rfl, ht, rs⟩ := Rep.of_tup r5
        obtain ⟨v1, v2, rfl, r1, r2⟩ := rs.two
        have s5 := s4.gr g5
        have s6 : SR W B S0 [.im (netD ls.length ps), .no, .im (.int p.1), .im (.int p.2), .no, .no] _ S5 H5 := (s5.setIm (i := 2) r1).setIm (i := 3) r2
        refine ⟨t, _, rfl, SqT.of (g5.sub _ _ ht), rfl, v1, [v2], rfl, v2, [], rfl, rfl, ?_⟩
        have nm6 : ∀ x ∈ [Sl.im (netD ls.length ps), .no, .im (.int p.1), .im (.int p.2), .no, .no], x.mut = false := fun x hx => by
          simp only [List.mem_cons, List.not_mem_nil, or_false] at hx
          rcases hx with rfl | rfl | rfl | rfl | rfl | rfl <;> rfl
        have σ6 : ((σ4.set 2 (some v1)).set 3 (some v2))[1]? = some (some (.ref Dl)) := by
          rw [List.getElem?_set_ne (by decide), List.getElem?_set_ne (by decide)]; exact σ14
        have ll4 : ((ps.take i).foldl linkR (List.replicate ls.length [])).length = ls.length := by rw [foldl_link_len, List.length_replicate]
        refine ap_step s6 nm6 (nf4.gr g5) σ6 rfl rfl b1 (by rw [ll4]; omega) sh4 (by omega) fun H7 s7 nf7 => ?_
        refine ap_step s7 nm6 nf7 σ6 rfl rfl b3 (by rw [appR_len, ll4]; omega) (short_app sh4) (by omega) fun H8 s8 nf8 => ?_
        refine ⟨S5, .im (.int p.1), .im (.int p.2), rfl, rfl, s8, e4.trans (g5.exS s4.sub), σ6, ?_, ?_⟩
        · rw [fold_take hpi]; exact nf8
        · rw [fold_take hpi]
          exact short_app (short_app sh4)
    · have e : i = ps.length := by omega
      subst e
      refine .inl ⟨k2 (Nat.le_refl _), ?_⟩
      rw [List.take_of_length_le (Nat.le_refl _)] at nf4
      obtain ⟨S6, e6, s6⟩ := NF.freeze (k := 1) s4 nm4 nf4 (by simp) σ14
      have ex : Ex S S6 := (((g.exS s.sub).trans e3).trans e4).trans e6
      exact h3 s6 (rt3 (by rw [foldl_link_len, List.length_replicate]; omega) (by rw [ll]; exact q)) (lk.mono ex)
theorem rss_near {X : Cx} {y : Str} {py sp1 cp lp sp2 : Pos} {tg iter tg2 iter2 : Expr} {scope : Scope} {own : List (Str × Nat)} {b1 b2 st3 : Stmt} {w1 w2 : TI} {t3 : TS} (hp : PassesOwn (model X.prog X.w) X.A X.env X.xe) (hN : X.N.Nodup) (r1 : RI X W tg iter w1 In1) (ok : BlkOk X.N X.env.scope scope own) (ho : own.map (·.2) = [4])
    (hg : ∀ (s : Shared) (H : Hp) (C' : Addr) (cl : List (Str × Addr)) (fp : List Addr), RG (X.blk s H scope (compEnvC scope cl C' X.env) fp) W tg (gName 4) (gdN 4)) (r2 : RI X W tg2 iter2 w2 In2) (hg2 : RG X W tg2 (gTup X.K 2 (gCons (gName 2) (gCons (gName 3) gNil))) (gdT2 2 3))
    (p1 : PS X b1 (AP X.K 1 2 3)) (p2 : PS X b2 (AP X.K 1 3 2)) (r3 : RS X W st3 t3 Rt3) (hc : X.calm = true := by rfl) (hy : X.N[1]? = some y := by rfl) (hyl : X.env.scope.names.lookup y = some .local := by rfl)
    (hsw : swapsWith (.ListComp (.List [] lp) [⟨tg, iter, [], 0⟩] scope cp) (some (.Name y py)) sp1.line X.env = pure true := by exact sw_true rfl rfl rfl (by decide +kernel)) (hs : ∀ x, foldedSetIterable iter X.env x = pure x := by intro _; rfl) (hs2 : ∀ x, foldedSetIterable iter2 X.env x = pure x := by intro _; rfl) :
    RSs X W [.Assign [.Name y py] (.ListComp (.List [] lp) [⟨tg, iter, [], 0⟩] scope cp) sp1, .For tg2 iter2 [b1, b2] [] sp2, st3] (tSeq (tAsg (tLc w1 (gName 4) tYes (tLst tNil) [4]) (gName 1)) (tSeq (tFor w2 (gTup X.K 2 (gCons (gName 2) (gCons (gName 3) gNil))) (tSeq (AP X.K 1 2 3) (AP X.K 1 3 2))) t3)) T_near :=
  ⟨pss_cons (ho ▸ ps_setLc (i := 1) hc hN hy hyl hsw r1.pe ok (fun s H C cl fp => (hg s H C cl fp).pe) (fun _ _ _ _ _ => pts_nil) (fun _ _ _ _ _ => pe_lst pa_nil) hs) (pss_cons (ps_for hp hc r2.pe hg2.pe (pss_cons p1 (pss_one p2)) hs2) (pss_one r3.pe)), sim_near r1.sim r2.sim r3.sim⟩
end
end NR
/-! Each def's reading of data, printed by gen.py. -/
namespace NR
open PySem PySem.Spec PyProof.Rows L2
/-! ### whole -/
def T_whole (W : Wc) : DS := (dRet (dAndV (dCB fIsi (aCons (dVar 0) (aCons (dC (.ty "int")) aNil))) (dNotV (dCB fIsi (aCons (dVar 0) (aCons (dC (.ty "bool")) aNil))))))
abbrev N_whole : List Str := ["value"]

/-! ### within -/
def T_within (F_whole : FT) (W : Wc) : DS := (dRet (dAndV (dCall 1 F_whole W (aCons (dVar 0) aNil)) (dChain fLe fLe (dVar 1) (dVar 0) (dVar 2))))
abbrev N_within : List Str := ["value", "low", "high"]

/-! ### need_number -/
def T_need_number (F_within : FT) (W : Wc) : DS := (dIfS (dNot (dTest (dCall 3 F_within W (aCons (dVar 0) (aCons (dVar 1) (aCons (dVar 2) aNil)))))) dNever dNext)
abbrev N_need_number : List Str := ["value", "low", "high"]

/-! ### tuple_of -/
def T_tuple_of (W : Wc) : DS := (dRet (dAndV (dCB fIsi (aCons (dVar 0) (aCons (dC (.ty "tuple")) aNil))) (dChain fLe fLe (dVar 1) (dCB fLen (aCons (dVar 0) aNil)) (dVar 2))))
abbrev N_tuple_of : List Str := ["value", "low", "high"]

/-! ### need_net -/
def T_need_net (F_tuple_of F_within : FT) (W : Wc) : DS := (dSeq (dIfS (dOr (dNot (dTest (dCall 3 F_tuple_of W (aCons (dVar 0) (aCons (dC (.int 2)) (aCons (dC (.int 2)) aNil)))))) (dOr (dNot (dTest (dCall 3 F_within W (aCons (dOp2 fIx (dVar 0) (dC (.int 0))) (aCons (dC (.int 1)) (aCons (dC (.int 12)) aNil)))))) (dNot (dTest (dCall 3 F_tuple_of W (aCons (dOp2 fIx (dVar 0) (dC (.int 1))) (aCons (dC (.int 0)) (aCons (dC (.int 66)) aNil)))))))) dNever dNext)
  (dFor (iEnumT (aCons (dOp2 fIx (dVar 0) (dC (.int 1))) aNil)) (gdT2 1 2) (dSeq (dIfS (dOr (dNot (dTest (dCall 3 F_tuple_of W (aCons (dVar 2) (aCons (dC (.int 2)) (aCons (dC (.int 2)) aNil)))))) (dNot (dTest (dCB fAll (aCons (dL (dComp (iSeq (dVar 2) true) (gdN 3) tYesD (dCall 3 F_within W (aCons (dVar 3) (aCons (dC (.int 0)) (aCons (dOp2 fSub (dOp2 fIx (dVar 0) (dC (.int 0))) (dC (.int 1))) aNil)))) [3])) aNil))))) dNever dNext)
  (dIfS (dOr (dTest (dOp2 fGe (dOp2 fIx (dVar 2) (dC (.int 0))) (dOp2 fIx (dVar 2) (dC (.int 1))))) (dAnd (dTest (dOp2 fGt (dVar 1) (dC (.int 0)))) (dTest (dOp2 fLeT (dVar 2) (dOp2 fIx (dOp2 fIx (dVar 0) (dC (.int 1))) (dOp2 fSub (dVar 1) (dC (.int 1)))))))) dNever dNext))))
abbrev N_need_net : List Str := ["net", "index", "pair", "point"]

/-! ### need_row -/
def T_need_row (F_tuple_of F_within : FT) (W : Wc) : DS := (dSeq (dIfS (dNot (dTest (dCall 3 F_tuple_of W (aCons (dVar 1) (aCons (dOp2 fIx (dVar 0) (dC (.int 0))) (aCons (dOp2 fIx (dVar 0) (dC (.int 0))) aNil)))))) dNever dNext)
  (dFor (iEnumT (aCons (dVar 1) aNil)) (gdT2 2 3) (dIfS (dNot (dTest (dCall 3 F_within W (aCons (dVar 3) (aCons (dOp1 fNeg (dC (.int 99))) (aCons (dC (.int 99)) aNil)))))) dNever dNext)))
abbrev N_need_row : List Str := ["net", "row", "index", "height"]

/-! ### need_both -/
def T_need_both (F_need_net F_need_row : FT) (W : Wc) : DS := (dSeq (dDrop (dCall 1 F_need_net W (aCons (dVar 0) aNil)))
  (dDrop (dCall 2 F_need_row W (aCons (dVar 0) (aCons (dVar 1) aNil)))))
abbrev N_need_both : List Str := ["net", "row"]

/-! ### need_size -/
def T_need_size (F_need_number : FT) (W : Wc) : DS := (dDrop (dCall 3 F_need_number W (aCons (dVar 1) (aCons (dC (.int 0)) (aCons (dOp2 fIx (dVar 0) (dC (.int 0))) aNil)))))
abbrev N_need_size : List Str := ["net", "size"]

/-! ### rim_of -/
def T_rim_of (W : Wc) : DS := (dSeq (dAsg 2 xK)
  (dSeq (dFor (iSeq (dVar 1) true) (gdN 3) (dFor (iSeq (dOp2 fIx (dVar 0) (dVar 3)) false) (gdN 4) (dIfS (dTest (dOp2 (fIn true) (dVar 4) (dVar 1))) (dPutK 2 (dVar 4) (dC (.bl true))) dNext)))
  (dFreeze 2 (dRet (dL (dCBL fSortK (aCons (dVar 2) aNil)))))))
abbrev N_rim_of : List Str := ["near", "points", "found", "here", "point"]

/-! ### flats_of -/
def T_flats_of (F_flat_with : FT) (W : Wc) : DS := (dSeq (dPar 3 4 (xL (aLst aNil)) xK)
  (dSeq (dFor (iR1 (aCons (dCB fLen (aCons (dVar 1) aNil)) aNil)) (gdN 2) (dIfS (dInM 4 true (dVar 2)) (dSeq (dAsg 5 (xE (dCall 3 F_flat_with W (aCons (dVar 0) (aCons (dVar 1) (aCons (dVar 2) aNil))))))
  (dSeq (dApp 3 (dCB fTuple (aCons (dL (dCBL fSortK (aCons (dVar 5) aNil))) aNil)))
  (dUpdate 4 (dVar 5)))) dNext))
  (dFreeze 3 (dRet (dVar 3)))))
abbrev N_flats_of : List Str := ["near", "row", "point", "found", "done", "told"]

/-! ### flat_with -/
def T_flat_with (W : Wc) : DS := (dSeq (dPar 3 4 (xK1 (dVar 2)) (xL (aLst (aCons (dVar 2) aNil))))
  (dSeq (dWhile (dEmptyM 4 true) (dSeq (dPop 5 4)
  (dFor (iSeq (dOp2 fIx (dVar 0) (dVar 5)) false) (gdN 6) (dIfS (dAnd (dTest (dOp2 (fEqS false) (dOp2 fIx (dVar 1) (dVar 6)) (dOp2 fIx (dVar 1) (dVar 5)))) (dInM 3 true (dVar 6))) (dSeq (dPutK 3 (dVar 6) (dC (.bl true)))
  (dApp 4 (dVar 6))) dNext))))
  (dFreeze 3 (dRet (dVar 3)))))
abbrev N_flat_with : List Str := ["near", "row", "point", "found", "rim", "here", "other"]

/-! ### is_bump -/
def T_is_bump (F_rim_of : FT) (W : Wc) : DS := (dSeq (dAsg 3 (xE (dCall 2 F_rim_of W (aCons (dVar 0) (aCons (dVar 2) aNil)))))
  (dRet (dAndV (dOp2 (fEqN true) (dVar 3) (dL (aLst aNil))) (dOp2 fLt (dCB fMaxL (aCons (dL (dComp (iSeq (dVar 3) false) (gdN 4) tYesD (dOp2 fIx (dVar 1) (dVar 4)) [4])) aNil)) (dOp2 fIx (dVar 1) (dOp2 fIx (dVar 2) (dC (.int 0))))))))
abbrev N_is_bump : List Str := ["near", "row", "flat", "around", "point"]

/-! ### bumps_of -/
def T_bumps_of (F_flats_of F_is_bump : FT) (W : Wc) : DS := (dRet (dL (dComp (iSeq (dCall 2 F_flats_of W (aCons (dVar 0) (aCons (dVar 1) aNil))) false) (gdN 3) (dAnd (dTest (dOp2 fLe (dCB fLen (aCons (dVar 3) aNil)) (dVar 2))) (dTest (dCall 3 F_is_bump W (aCons (dVar 0) (aCons (dVar 1) (aCons (dVar 3) aNil)))))) (dVar 3) [3])))
abbrev N_bumps_of : List Str := ["near", "row", "size", "flat"]

/-! ### cut_of -/
def T_cut_of (F_bumps_of F_rim_of : FT) (W : Wc) : DS := (dWhile (dTest (dC (.bl true))) (dSeq (dAsg 3 (xE (dCall 3 F_bumps_of W (aCons (dVar 0) (aCons (dVar 1) (aCons (dVar 2) aNil))))))
  (dSeq (dIfS (dTest (dOp2 (fEqN false) (dVar 3) (dL (aLst aNil)))) (dRet (dVar 1)) dNext)
  (dSeq (dAsg 4 (xL (dCBL fList (aCons (dVar 1) aNil))))
  (dSeq (dFor (iSeq (dVar 3) false) (gdN 5) (dSeq (dAsg 6 (xE (dCB fMaxL (aCons (dL (dComp (iSeq (dCall 2 F_rim_of W (aCons (dVar 0) (aCons (dVar 5) aNil))) false) (gdN 7) tYesD (dOp2 fIx (dVar 1) (dVar 7)) [7])) aNil))))
  (dFor (iSeq (dVar 5) true) (gdN 7) (dSetL 4 (dVar 7) (dVar 6)))))
  (dFreeze 4 (dAsg 1 (xE (dCB fTuple (aCons (dVar 4) aNil))))))))))
abbrev N_cut_of : List Str := ["near", "row", "size", "some", "later", "flat", "height", "point"]

/-! ### turned -/
def T_turned (W : Wc) : DS := (dRet (dCB fTuple (aCons (dL (dComp (iSeq (dVar 0) true) (gdN 1) tYesD (dOp1 fNeg (dVar 1)) [1])) aNil)))
abbrev N_turned : List Str := ["row", "height"]

/-! ### fill_of -/
def T_fill_of (F_turned F_cut_of : FT) (W : Wc) : DS := (dRet (dCall 1 F_turned W (aCons (dCall 3 F_cut_of W (aCons (dVar 0) (aCons (dCall 1 F_turned W (aCons (dVar 1) aNil)) (aCons (dVar 2) aNil)))) aNil)))
abbrev N_fill_of : List Str := ["near", "row", "size"]

/-! ### worst_of -/
def T_worst_of (F_cut_of : FT) (W : Wc) : DS := (dSeq (dAsg 3 (xE (dCall 3 F_cut_of W (aCons (dVar 0) (aCons (dVar 1) (aCons (dVar 2) aNil))))))
  (dSeq (dAsg 4 (xE (dL (dComp (iZipD (aCons (dVar 1) (aCons (dVar 3) aNil))) (gdT2 5 6) tYesD (dOp2 fSub (dVar 5) (dVar 6)) [5, 6]))))
  (dRet (dTup (aCons (dCB fMaxL (aCons (dVar 4) aNil)) (aCons (dIndex (dVar 4) (aCons (dCB fMaxL (aCons (dVar 4) aNil)) aNil)) aNil))))))
abbrev N_worst_of : List Str := ["near", "row", "size", "told", "gaps", "one", "other"]

/-! ### worst_point -/
def T_worst_point (F_need_both F_need_size F_worst_of F_near_of : FT) (W : Wc) : DS := (dSeq (dDrop (dCall 2 F_need_both W (aCons (dVar 0) (aCons (dVar 1) aNil))))
  (dSeq (dDrop (dCall 2 F_need_size W (aCons (dVar 0) (aCons (dVar 2) aNil))))
  (dRet (dCall 3 F_worst_of W (aCons (dCall 1 F_near_of W (aCons (dVar 0) aNil)) (aCons (dVar 1) (aCons (dVar 2) aNil)))))))
abbrev N_worst_point : List Str := ["net", "row", "size"]

/-! ### least_change -/
def T_least_change (F_need_both F_need_size F_worst_of F_near_of : FT) (W : Wc) : DS := (dSeq (dDrop (dCall 2 F_need_both W (aCons (dVar 0) (aCons (dVar 1) aNil))))
  (dSeq (dDrop (dCall 2 F_need_size W (aCons (dVar 0) (aCons (dVar 2) aNil))))
  (dRet (dOp2 fDiv (dOp2 fAdd (dOp2 fIx (dCall 3 F_worst_of W (aCons (dCall 1 F_near_of W (aCons (dVar 0) aNil)) (aCons (dVar 1) (aCons (dVar 2) aNil)))) (dC (.int 0))) (dC (.int 1))) (dC (.int 2))))))
abbrev N_least_change : List Str := ["net", "row", "size"]

/-! ### near_row -/
def T_near_row (F_need_both F_need_size F_near_of F_worst_of F_cut_of : FT) (W : Wc) : DS := (dSeq (dDrop (dCall 2 F_need_both W (aCons (dVar 0) (aCons (dVar 1) aNil))))
  (dSeq (dDrop (dCall 2 F_need_size W (aCons (dVar 0) (aCons (dVar 2) aNil))))
  (dSeq (dAsg 3 (xE (dCall 1 F_near_of W (aCons (dVar 0) aNil))))
  (dSeq (dAsg 4 (xE (dOp2 fDiv (dOp2 fIx (dCall 3 F_worst_of W (aCons (dVar 3) (aCons (dVar 1) (aCons (dVar 2) aNil)))) (dC (.int 0))) (dC (.int 2)))))
  (dRet (dCB fTuple (aCons (dL (dComp (iSeq (dCall 3 F_cut_of W (aCons (dVar 3) (aCons (dVar 1) (aCons (dVar 2) aNil)))) true) (gdN 5) tYesD (dCB fMin2 (aCons (dC (.int 99)) (aCons (dOp2 fAdd (dVar 5) (dVar 4)) aNil))) [5])) aNil)))))))
abbrev N_near_row : List Str := ["net", "row", "size", "near", "step", "height"]

/-! ### shows_near -/
def T_shows_near (F_need_both F_need_size F_near_of F_tuple_of F_within F_worst_of F_bumps_of : FT) (W : Wc) : DS := (dSeq (dDrop (dCall 2 F_need_both W (aCons (dVar 0) (aCons (dVar 1) aNil))))
  (dSeq (dDrop (dCall 2 F_need_size W (aCons (dVar 0) (aCons (dVar 2) aNil))))
  (dSeq (dPar 5 6 (xE (dCall 1 F_near_of W (aCons (dVar 0) aNil))) (xE (dOp2 fIx (dVar 0) (dC (.int 0)))))
  (dSeq (dIfS (dOr (dNot (dTest (dCall 3 F_tuple_of W (aCons (dVar 3) (aCons (dVar 6) (aCons (dVar 6) aNil)))))) (dNot (dTest (dCB fAll (aCons (dL (dComp (iSeq (dVar 3) true) (gdN 7) tYesD (dCall 3 F_within W (aCons (dVar 7) (aCons (dOp1 fNeg (dC (.int 99))) (aCons (dC (.int 99)) aNil)))) [7])) aNil))))) (dRet (dC (.bl false))) dNext)
  (dSeq (dAsg 4 (xE (dOp2 fDiv (dOp2 fAdd (dOp2 fIx (dCall 3 F_worst_of W (aCons (dVar 5) (aCons (dVar 1) (aCons (dVar 2) aNil)))) (dC (.int 0))) (dC (.int 1))) (dC (.int 2)))))
  (dRet (dAndV (dOp2 (fEqN false) (dCall 3 F_bumps_of W (aCons (dVar 5) (aCons (dVar 3) (aCons (dVar 2) aNil)))) (dL (aLst aNil))) (dCB fAll (aCons (dL (dComp (iZipD (aCons (dVar 1) (aCons (dVar 3) aNil))) (gdT2 8 9) tYesD (dOp2 fLe (dCB fAbs (aCons (dOp2 fSub (dVar 8) (dVar 9)) aNil)) (dVar 4)) [8, 9])) aNil)))))))))
abbrev N_shows_near : List Str := ["net", "row", "size", "value", "most", "near", "many", "told", "one", "other"]

/-! ### higher -/
def T_higher (F_need_both F_need_row : FT) (W : Wc) : DS := (dSeq (dDrop (dCall 2 F_need_both W (aCons (dVar 0) (aCons (dVar 1) aNil))))
  (dSeq (dDrop (dCall 2 F_need_row W (aCons (dVar 0) (aCons (dVar 2) aNil))))
  (dRet (dCB fTuple (aCons (dL (dComp (iZipD (aCons (dVar 1) (aCons (dVar 2) aNil))) (gdN 3) tYesD (dCB fMaxP (aCons (dVar 3) aNil)) [3])) aNil)))))
abbrev N_higher : List Str := ["net", "one", "other", "pair"]

/-! ### lower -/
def T_lower (F_need_both F_need_row : FT) (W : Wc) : DS := (dSeq (dDrop (dCall 2 F_need_both W (aCons (dVar 0) (aCons (dVar 1) aNil))))
  (dSeq (dDrop (dCall 2 F_need_row W (aCons (dVar 0) (aCons (dVar 2) aNil))))
  (dRet (dCB fTuple (aCons (dL (dComp (iZipD (aCons (dVar 1) (aCons (dVar 2) aNil))) (gdN 3) tYesD (dCB fMinP (aCons (dVar 3) aNil)) [3])) aNil)))))
abbrev N_lower : List Str := ["net", "one", "other", "pair"]

/-! ### apart -/
def T_apart (F_need_both F_need_row : FT) (W : Wc) : DS := (dSeq (dDrop (dCall 2 F_need_both W (aCons (dVar 0) (aCons (dVar 1) aNil))))
  (dSeq (dDrop (dCall 2 F_need_row W (aCons (dVar 0) (aCons (dVar 2) aNil))))
  (dRet (dCB fMaxL (aCons (dL (dComp (iZipD (aCons (dVar 1) (aCons (dVar 2) aNil))) (gdT2 3 4) tYesD (dCB fAbs (aCons (dOp2 fSub (dVar 3) (dVar 4)) aNil)) [3, 4])) aNil)))))
abbrev N_apart : List Str := ["net", "one", "other", "first", "second"]

/-! ### between_cuts -/
def T_between_cuts (F_need_both F_need_size F_near_of F_cut_of F_fill_of : FT) (W : Wc) : DS := (dSeq (dDrop (dCall 2 F_need_both W (aCons (dVar 0) (aCons (dVar 1) aNil))))
  (dSeq (dDrop (dCall 2 F_need_size W (aCons (dVar 0) (aCons (dVar 2) aNil))))
  (dSeq (dAsg 3 (xE (dCall 1 F_near_of W (aCons (dVar 0) aNil))))
  (dRet (dTup (aCons (dCall 3 F_cut_of W (aCons (dVar 3) (aCons (dVar 1) (aCons (dVar 2) aNil)))) (aCons (dCall 3 F_fill_of W (aCons (dVar 3) (aCons (dVar 1) (aCons (dVar 2) aNil)))) aNil)))))))
abbrev N_between_cuts : List Str := ["net", "row", "size", "near"]

/-! ### _law_net -/
def T__law_net (F__law_taken : FT) (W : Wc) : DS := (dSeq (dPar 4 5 (xE (dOp2 fAdd (dC (.int 1)) (dCall 2 F__law_taken W (aCons (dVar 0) (aCons (dVar 1) aNil))))) xT)
  (dSeq (dFor (iR2 (aCons (dC (.int 1)) (aCons (dVar 4) aNil))) (gdN 2) (dIfS (dTest (dOp2 fGt (dCall 2 F__law_taken W (aCons (dVar 0) (aCons (dC (.int 8)) aNil))) (dC (.int 0)))) (dSeq (dAsg 6 (xE (dIf (dTest (dOp2 (fEqS false) (dCall 2 F__law_taken W (aCons (dVar 0) (aCons (dC (.int 2)) aNil))) (dC (.int 0)))) (dOp2 fSub (dVar 2) (dC (.int 1))) (dCall 2 F__law_taken W (aCons (dVar 0) (aCons (dVar 2) aNil))))))
  (dPutT 5 (dTup (aCons (dVar 6) (aCons (dVar 2) aNil))) (dC (.bl true)))) dNext))
  (dSeq (dFor (iR1 (aCons (dIf (dTest (dOp2 fGt (dVar 4) (dC (.int 2)))) (dCall 2 F__law_taken W (aCons (dVar 0) (aCons (dVar 4) aNil))) (dC (.int 0))) aNil)) (gdN 3) (dSeq (dPar 7 6 (xE (dCall 2 F__law_taken W (aCons (dVar 0) (aCons (dVar 4) aNil)))) (xE (dCall 2 F__law_taken W (aCons (dVar 0) (aCons (dVar 4) aNil)))))
  (dIfS (dTest (dOp2 (fEqS true) (dVar 7) (dVar 6))) (dPutT 5 (dTup (aCons (dCB fMin2 (aCons (dVar 7) (aCons (dVar 6) aNil))) (aCons (dCB fMax2 (aCons (dVar 7) (aCons (dVar 6) aNil))) aNil))) (dC (.bl true))) dNext)))
  (dFreeze 5 (dRet (dTup (aCons (dVar 4) (aCons (dCB fTuple (aCons (dL (dCBL fSortDT (aCons (dVar 5) aNil))) aNil)) aNil))))))))
abbrev N__law_net : List Str := ["_law_row", "_law_most", "_law_point", "_law_turn", "_law_many", "_law_joins", "_law_other", "_law_one"]

/-! ### _law_rows -/
def T__law_rows (W : Wc) : DS := (dSeq (dAsg 2 (xE (dL (aLst (aCons (dTup aNil) aNil)))))
  (dSeq (dFor (iR1 (aCons (dVar 0) aNil)) (gdN 3) (dSeq (dAsg 4 (xE (dL (aLst aNil))))
  (dSeq (dFor (iSeq (dVar 2) false) (gdN 5) (dAsg 4 (xE (dL (aCat (dVar 4) (dL (dComp (iR1 (aCons (dOp2 fAdd (dVar 1) (dC (.int 1))) aNil)) (gdN 6) tYesD (dOp2 fCatT (dVar 5) (dTup (aCons (dVar 6) aNil))) [6])))))))
  (dAsg 2 (xE (dVar 4))))))
  (dRet (dVar 2))))
abbrev N__law_rows : List Str := ["_law_many", "_law_most", "_law_found", "_law_point", "_law_longer", "_law_told", "_law_height"]

/-! ### _law_part -/
def T__law_part (W : Wc) : DS := (dSeq (dPar 4 5 (xE (dL (aLst (aCons (dVar 2) aNil)))) (xL (aLst (aCons (dVar 2) aNil))))
  (dSeq (dFor (iR1 (aCons (dC (.int 999)) aNil)) (gdN 3) (dSeq (dIfS (dEmptyM 5 false) dBreak dNext)
  (dSeq (dPop 6 5)
  (dSeq (dAsg 7 (xE (dL (dComp (iSeq (dOp2 fIx (dVar 0) (dVar 6)) false) (gdN 8) (dAnd (dTest (dOp2 (fIn false) (dVar 8) (dVar 1))) (dTest (dOp2 (fIn true) (dVar 8) (dVar 4)))) (dVar 8) [8]))))
  (dPar 4 5 (xE (dL (aCat (dVar 4) (dVar 7)))) (xL (aCatM 5 (dVar 7))))))))
  (dRet (dCB fTuple (aCons (dL (dCBL fSort (aCons (dVar 4) aNil))) aNil)))))
abbrev N__law_part : List Str := ["_law_near_here", "_law_kept", "_law_start", "_law_turn", "_law_found", "_law_edge", "_law_here", "_law_fresh", "_law_point"]

/-! ### _law_parts -/
def T__law_parts (F__law_part : FT) (W : Wc) : DS := (dSeq (dPar 3 4 (xE (dL (aLst aNil))) (xE (dL (aLst aNil))))
  (dSeq (dFor (iSeq (dL (dCBL fSort (aCons (dVar 1) aNil))) false) (gdN 2) (dIfS (dTest (dOp2 (fIn true) (dVar 2) (dVar 4))) (dSeq (dAsg 5 (xE (dCall 3 F__law_part W (aCons (dVar 0) (aCons (dVar 1) (aCons (dVar 2) aNil))))))
  (dPar 3 4 (xE (dL (aCat (dVar 3) (dL (aLst (aCons (dVar 5) aNil)))))) (xE (dL (aCat (dVar 4) (dL (dCBL fList (aCons (dVar 5) aNil)))))))) dNext))
  (dRet (dVar 3))))
abbrev N__law_parts : List Str := ["_law_near_here", "_law_kept", "_law_point", "_law_found", "_law_done", "_law_part_here"]

/-! ### _law_flats -/
def T__law_flats (F__law_near F__law_parts : FT) (W : Wc) : DS := (dSeq (dPar 3 4 (xE (dCall 1 F__law_near W (aCons (dVar 0) aNil))) (xE (dL (aLst aNil))))
  (dSeq (dFor (iSeq (dL (aSortSet (dVar 1))) false) (gdN 2) (dAsg 4 (xE (dL (aCat (dVar 4) (dCall 2 F__law_parts W (aCons (dVar 3) (aCons (dL (dComp (iR1 (aCons (dOp2 fIx (dVar 0) (dC (.int 0))) aNil)) (gdN 5) (dTest (dOp2 (fEqS false) (dOp2 fIx (dVar 1) (dVar 5)) (dVar 2))) (dVar 5) [5])) aNil))))))))
  (dRet (dL (dCBL fSortTs (aCons (dVar 4) aNil))))))
abbrev N__law_flats : List Str := ["_law_net_here", "_law_heights_here", "_law_height", "_law_near_here", "_law_found", "_law_point"]

/-! ### _law_rim -/
def T__law_rim (W : Wc) : DS := (dSeq (dAsg 2 (xE (dL (aLst aNil))))
  (dSeq (dFor (iSeq (dVar 1) true) (gdN 3) (dAsg 2 (xE (dL (aCat (dVar 2) (dL (dComp (iSeq (dOp2 fIx (dVar 0) (dVar 3)) false) (gdN 4) (dTest (dOp2 (fIn true) (dVar 4) (dVar 1))) (dVar 4) [4])))))))
  (dRet (dL (aSortSet (dVar 2))))))
abbrev N__law_rim : List Str := ["_law_near_here", "_law_points", "_law_found", "_law_here", "_law_point"]

/-! ### _law_bumps -/
def T__law_bumps (F__law_near F__law_flats F__law_rim : FT) (W : Wc) : DS := (dSeq (dPar 4 5 (xE (dCall 1 F__law_near W (aCons (dVar 0) aNil))) (xL (aLst aNil)))
  (dSeq (dFor (iSeq (dCall 2 F__law_flats W (aCons (dVar 0) (aCons (dVar 1) aNil))) false) (gdN 3) (dSeq (dAsg 6 (xE (dL (dComp (iSeq (dCall 2 F__law_rim W (aCons (dVar 4) (aCons (dVar 3) aNil))) false) (gdN 7) tYesD (dOp2 fIx (dVar 1) (dVar 7)) [7]))))
  (dIfS (dAnd (dTest (dOp2 fLe (dCB fLen (aCons (dVar 3) aNil)) (dVar 2))) (dAnd (dTest (dOp2 (fEqN true) (dVar 6) (dL (aLst aNil)))) (dTest (dOp2 fLt (dCB fMaxL (aCons (dVar 6) aNil)) (dOp2 fIx (dVar 1) (dOp2 fIx (dVar 3) (dC (.int 0)))))))) (dApp 5 (dVar 3)) dNext)))
  (dFreeze 5 (dRet (dVar 5)))))
abbrev N__law_bumps : List Str := ["_law_net_here", "_law_heights_here", "_law_size", "_law_flat", "_law_near_here", "_law_found", "_law_around", "_law_point"]

/-! ### _law_alike -/
def T__law_alike (F__law_alike : FT) (W : Wc) : DS := (dSeq (dIfS (dTest (dCB fIsi (aCons (dVar 1) (aCons (dTup (aCons (dC (.ty "tuple")) (aCons (dC (.ty "list")) aNil))) aNil)))) (dSeq (dIfS (dOr (dNot (dTest (dCB fIsi (aCons (dVar 0) (aCons (dTup (aCons (dC (.ty "tuple")) (aCons (dC (.ty "list")) aNil))) aNil))))) (dTest (dOp2 (fEqS true) (dCB fIsi (aCons (dVar 0) (aCons (dC (.ty "list")) aNil))) (dCB fIsi (aCons (dVar 1) (aCons (dC (.ty "list")) aNil)))))) (dRet (dC (.bl false))) dNext)
  (dSeq (dIfS (dTest (dOp2 (fEqS true) (dCB fLen (aCons (dVar 0) aNil)) (dCB fLen (aCons (dVar 1) aNil)))) (dRet (dC (.bl false))) dNext)
  (dRet (dOp2 (fEqN false) (dL (dComp (iR1 (aCons (dCB fLen (aCons (dVar 1) aNil)) aNil)) (gdN 2) (dNot (dTest (dCall 2 F__law_alike W (aCons (dOp2 fIx (dVar 0) (dVar 2)) (aCons (dOp2 fIx (dVar 1) (dVar 2)) aNil))))) (dVar 2) [2])) (dL (aLst aNil)))))) dNext)
  (dSeq (dIfS (dOr (dTest (dOp2 fIsN (dVar 1) (dC .non))) (dTest (dCB fIsi (aCons (dVar 1) (aCons (dC (.ty "str")) aNil))))) (dRet (dAndV (dOp2 (fEqS false) (dVar 0) (dVar 1)) (dOp2 (fEqS false) (dCB fIsi (aCons (dVar 0) (aCons (dC (.ty "str")) aNil))) (dCB fIsi (aCons (dVar 1) (aCons (dC (.ty "str")) aNil)))))) dNext)
  (dRet (dAndV (dCB fIsi (aCons (dVar 0) (aCons (dC (.ty "int")) aNil))) (dAndV (dOp2 (fEqS false) (dCB fIsi (aCons (dVar 0) (aCons (dC (.ty "bool")) aNil))) (dCB fIsi (aCons (dVar 1) (aCons (dC (.ty "bool")) aNil)))) (dOp2 (fEqS false) (dVar 0) (dVar 1)))))))
abbrev N__law_alike : List Str := ["_law_found", "_law_due", "_law_k"]

/-! ### _law_cut -/
def T__law_cut (F__law_near F__law_part : FT) (W : Wc) : DS := (dSeq (dPar 4 5 (xE (dCall 1 F__law_near W (aCons (dVar 0) aNil))) (xL (aLst aNil)))
  (dSeq (dFor (iR1 (aCons (dOp2 fIx (dVar 0) (dC (.int 0))) aNil)) (gdN 3) (dSeq (dAsg 6 (xE (dCall 3 F__law_part W (aCons (dVar 4) (aCons (dL (aListRg (dOp2 fIx (dVar 0) (dC (.int 0))))) (aCons (dVar 3) aNil))))))
  (dSeq (dAsg 7 (xE (dCB fMinL (aCons (dL (dComp (iSeq (dVar 6) true) (gdN 10) tYesD (dOp2 fIx (dVar 1) (dVar 10)) [10])) aNil))))
  (dSeq (dFor (iSeq (dL (aSortSet (dVar 1))) false) (gdN 8) (dSeq (dAsg 9 (xE (dL (dComp (iSeq (dVar 6) true) (gdN 10) (dTest (dOp2 fGe (dOp2 fIx (dVar 1) (dVar 10)) (dVar 8))) (dVar 10) [10]))))
  (dIfS (dAnd (dTest (dOp2 (fIn false) (dVar 3) (dVar 9))) (dTest (dOp2 fGt (dCB fLen (aCons (dCall 3 F__law_part W (aCons (dVar 4) (aCons (dVar 9) (aCons (dVar 3) aNil)))) aNil)) (dVar 2)))) (dAsg 7 (xE (dCB fMax2 (aCons (dVar 7) (aCons (dVar 8) aNil))))) dNext)))
  (dApp 5 (dVar 7))))))
  (dFreeze 5 (dRet (dCB fTuple (aCons (dVar 5) aNil))))))
abbrev N__law_cut : List Str := ["_law_net_here", "_law_heights_here", "_law_size", "_law_point", "_law_near_here", "_law_found", "_law_circle", "_law_best", "_law_level", "_law_kept", "_law_other"]

/-! ### _law_down -/
def T__law_down (W : Wc) : DS := (dRet (dCB fTuple (aCons (dL (dComp (iSeq (dVar 0) true) (gdN 1) tYesD (dOp2 fSub (dC (.int 0)) (dVar 1)) [1])) aNil)))
abbrev N__law_down : List Str := ["_law_heights_here", "_law_height"]

/-! ### _law_fill -/
def T__law_fill (F__law_down F__law_cut : FT) (W : Wc) : DS := (dRet (dCall 1 F__law_down W (aCons (dCall 3 F__law_cut W (aCons (dVar 0) (aCons (dCall 1 F__law_down W (aCons (dVar 1) aNil)) (aCons (dVar 2) aNil)))) aNil)))
abbrev N__law_fill : List Str := ["_law_net_here", "_law_heights_here", "_law_size"]

/-! ### _law_pick -/
def T__law_pick (F__law_taken : FT) (W : Wc) : DS := (dRet (dOp2 fIx (dVar 1) (dCall 2 F__law_taken W (aCons (dVar 0) (aCons (dCB fLen (aCons (dVar 1) aNil)) aNil)))))
abbrev N__law_pick : List Str := ["_law_row", "_law_things"]

/-! ### _law_heights -/
def T__law_heights (F__law_pick F__law_taken : FT) (W : Wc) : DS := (dSeq (dAsg 3 (xE (dCall 2 F__law_pick W (aCons (dVar 0) (aCons (dL (aLst (aCons (dC (.int 0)) (aCons (dC (.int 0)) (aCons (dOp2 fSub (dC (.int 0)) (dOp2 fDiv (dVar 2) (dC (.int 2)))) aNil))))) aNil)))))
  (dRet (dCB fTuple (aCons (dL (dComp (iR1 (aCons (dVar 1) aNil)) (gdN 4) tYesD (dOp2 fAdd (dCall 2 F__law_taken W (aCons (dVar 0) (aCons (dOp2 fAdd (dVar 2) (dC (.int 1))) aNil))) (dVar 3)) [4])) aNil))))
abbrev N__law_heights : List Str := ["_law_row", "_law_many", "_law_top", "_law_lift", "_law_point"]
end NR
/-! Each def's reading of data, printed by gen.py. -/
namespace NR
open PySem PySem.Spec PyProof.Rows L2
def T_law (F__law_net F__law_taken F__law_rows F__law_bumps F__law_alike F_least_change F__law_cut F__law_fill F_between_cuts F_worst_point F_near_row F__law_pick F_shows_near F__law_heights F_higher F_lower F_apart : FT) (W : Wc) : DS := (dSeq (dAsg 2 (xE (dCall 2 F__law_net W (aCons (dVar 1) (aCons (dC (.int 4)) aNil)))))
  (dSeq (dAsgG (dTup (aCons (dOp2 fIx (dVar 2) (dC (.int 0))) (aCons (dC (.int 4)) aNil))) (gdT2 11 12))
  (dSeq (dAsgG (dTup (aCons (dCB fTuple (aCons (dL (dComp (iR1 (aCons (dVar 11) aNil)) (gdN 23) tYesD (dCall 2 F__law_taken W (aCons (dVar 1) (aCons (dOp2 fAdd (dVar 12) (dC (.int 1))) aNil))) [23])) aNil)) (aCons (dCall 2 F__law_taken W (aCons (dVar 1) (aCons (dOp2 fAdd (dVar 11) (dC (.int 1))) aNil))) aNil))) (gdT2 13 14))
  (dSeq (dAsg 3 (xE (dL (dComp (iSeq (dCall 2 F__law_rows W (aCons (dVar 11) (aCons (dVar 12) aNil))) false) (gdN 22) (dTest (dOp2 (fEqN false) (dCall 3 F__law_bumps W (aCons (dVar 2) (aCons (dVar 22) (aCons (dVar 14) aNil)))) (dL (aLst aNil)))) (dVar 22) [22]))))
  (dSeq (dAsg 4 (xE (dL (dComp (iSeq (dVar 3) false) (gdN 22) tYesD (dCB fMaxL (aCons (dL (dComp (iR1 (aCons (dVar 11) aNil)) (gdN 18) tYesD (dCB fAbs (aCons (dOp2 fSub (dOp2 fIx (dVar 22) (dVar 18)) (dOp2 fIx (dVar 13) (dVar 18))) aNil)) [18])) aNil)) [22]))))
  (dSeq (dIfS (dNot (dTest (dCall 2 F__law_alike W (aCons (dCall 3 F_least_change W (aCons (dVar 2) (aCons (dVar 13) (aCons (dVar 14) aNil)))) (aCons (dCB fMinL (aCons (dVar 4) aNil)) aNil))))) (dRet (dC (.bl false))) dNext)
  (dSeq (dAsgG (dTup (aCons (dCall 3 F__law_cut W (aCons (dVar 2) (aCons (dVar 13) (aCons (dVar 14) aNil)))) (aCons (dCall 3 F__law_fill W (aCons (dVar 2) (aCons (dVar 13) (aCons (dVar 14) aNil)))) aNil))) (gdT2 15 16))
  (dSeq (dAsg 5 (xE (dL (dComp (iR1 (aCons (dVar 11) aNil)) (gdN 18) tYesD (dOp2 fSub (dOp2 fIx (dVar 13) (dVar 18)) (dOp2 fIx (dVar 15) (dVar 18))) [18]))))
  (dSeq (dIfS (dNot (dTest (dCall 2 F__law_alike W (aCons (dL (aLst (aCons (dCall 3 F_between_cuts W (aCons (dVar 2) (aCons (dVar 13) (aCons (dVar 14) aNil)))) (aCons (dCall 3 F_worst_point W (aCons (dVar 2) (aCons (dVar 13) (aCons (dVar 14) aNil)))) aNil)))) (aCons (dL (aLst (aCons (dTup (aCons (dVar 15) (aCons (dVar 16) aNil))) (aCons (dTup (aCons (dCB fMaxL (aCons (dVar 5) aNil)) (aCons (dIndex (dVar 5) (aCons (dCB fMaxL (aCons (dVar 5) aNil)) aNil)) aNil))) aNil)))) aNil))))) (dRet (dC (.bl false))) dNext)
  (dSeq (dAsgG (dTup (aCons (dCall 3 F_near_row W (aCons (dVar 2) (aCons (dVar 13) (aCons (dVar 14) aNil)))) (aCons (dCall 2 F__law_taken W (aCons (dVar 1) (aCons (dVar 11) aNil))) aNil))) (gdT2 17 18))
  (dSeq (dIfS (dTest (dOp2 fGt (dCB fMaxL (aCons (dL (dComp (iR1 (aCons (dVar 11) aNil)) (gdN 24) tYesD (dCB fAbs (aCons (dOp2 fSub (dOp2 fIx (dVar 17) (dVar 24)) (dOp2 fIx (dVar 13) (dVar 24))) aNil)) [24])) aNil)) (dCB fMinL (aCons (dVar 4) aNil)))) (dRet (dC (.bl false))) dNext)
  (dSeq (dIfS (dTest (dOp2 (fEqN true) (dCall 3 F__law_bumps W (aCons (dVar 2) (aCons (dVar 17) (aCons (dVar 14) aNil)))) (dL (aLst aNil)))) (dRet (dC (.bl false))) dNext)
  (dSeq (dAsg 6 (xE (dCall 2 F__law_pick W (aCons (dVar 1) (aCons (dVar 3) aNil)))))
  (dSeq (dAsg 7 (xE (dL (aLst (aCons (dVar 17) (aCons (dVar 15) (aCons (dVar 16) (aCons (dVar 13) (aCons (dVar 6) (aCons (dCB fTuple (aCons (dL (dComp (iSeq (dVar 15) true) (gdN 22) tYesD (dOp2 fAdd (dVar 22) (dCB fMinL (aCons (dVar 4) aNil))) [22])) aNil)) (aCons (dOp2 fCatT (dOp2 fCatT (dSlT (dVar 17) oNone (oSome (dVar 18))) (dTup (aCons (dOp2 fAdd (dOp2 fIx (dVar 17) (dVar 18)) (dC (.int 1))) aNil))) (dSlT (dVar 17) (oSome (dOp2 fAdd (dVar 18) (dC (.int 1)))) oNone)) aNil)))))))))))
  (dSeq (dAsg 8 (xE (dL (aLst (aCons (dC .non) (aCons (dL (dCBL fList (aCons (dVar 17) aNil))) (aCons dNewK (aCons (dC (.int 0)) (aCons (dSlT (dVar 17) (oSome (dC (.int 1))) oNone) (aCons (dOp2 fCatT (dVar 17) (dTup (aCons (dC (.int 0)) aNil))) (aCons (dOp2 fRepT (dTup (aCons (dC .non) aNil)) (dVar 11)) (aCons (dOp2 fRepT (dTup (aCons (dC (.str "1")) aNil)) (dVar 11)) (aCons (dOp2 fRepT (dTup (aCons (dC (.bl true)) aNil)) (dVar 11)) (aCons (dOp2 fRepT (dTup (aCons (dC (.int 100)) aNil)) (dVar 11)) (aCons (dOp2 fRepT (dTup (aCons (dOp2 fSub (dC (.int 0)) (dC (.int 100))) aNil)) (dVar 11)) aNil)))))))))))))))
  (dSeq (dFor (iSeq (dL (aLst (aCons (dVar 17) (aCons (dCall 2 F__law_pick W (aCons (dVar 1) (aCons (dVar 7) aNil))) (aCons (dCall 2 F__law_pick W (aCons (dVar 1) (aCons (dVar 7) aNil))) (aCons (dCall 2 F__law_pick W (aCons (dVar 1) (aCons (dVar 8) aNil))) aNil)))))) false) (gdN 9) (dSeq (dAsg 19 (xE (dAndV (dCB fIsi (aCons (dVar 9) (aCons (dC (.ty "tuple")) aNil))) (dOp2 (fEqS false) (dCB fLen (aCons (dVar 9) aNil)) (dVar 11)))))
  (dSeq (dAsg 19 (xE (dAndV (dVar 19) (dOp2 (fEqN false) (dL (dComp (iSeq (dVar 9) true) (gdN 22) (dOr (dTest (dCB fIsi (aCons (dVar 22) (aCons (dC (.ty "bool")) aNil)))) (dOr (dNot (dTest (dCB fIsi (aCons (dVar 22) (aCons (dC (.ty "int")) aNil))))) (dTest (dOp2 fGt (dCB fAbs (aCons (dVar 22) aNil)) (dC (.int 99)))))) (dVar 22) [22])) (dL (aLst aNil))))))
  (dSeq (dIfS (dTest (dVar 19)) (dSeq (dAsg 19 (xE (dOp2 fLe (dCB fMaxL (aCons (dL (dComp (iR1 (aCons (dVar 11) aNil)) (gdN 24) tYesD (dCB fAbs (aCons (dOp2 fSub (dOp2 fIx (dVar 9) (dVar 24)) (dOp2 fIx (dVar 13) (dVar 24))) aNil)) [24])) aNil)) (dCB fMinL (aCons (dVar 4) aNil)))))
  (dAsg 19 (xE (dAndV (dVar 19) (dOp2 (fEqN false) (dCall 3 F__law_bumps W (aCons (dVar 2) (aCons (dVar 9) (aCons (dVar 14) aNil)))) (dL (aLst aNil))))))) dNext)
  (dIfS (dNot (dTest (dCall 2 F__law_alike W (aCons (dCall 4 F_shows_near W (aCons (dVar 2) (aCons (dVar 13) (aCons (dVar 14) (aCons (dVar 9) aNil))))) (aCons (dVar 19) aNil))))) (dRet (dC (.bl false))) dNext)))))
  (dSeq (dAsg 10 (xE (dCall 3 F__law_heights W (aCons (dVar 1) (aCons (dVar 11) (aCons (dC (.int 99)) aNil))))))
  (dSeq (dPar 20 21 (xE (dCB fTuple (aCons (dL (dComp (iZipD (aCons (dVar 13) (aCons (dVar 10) aNil))) (gdN 25) tYesD (dCB fMaxP (aCons (dVar 25) aNil)) [25])) aNil))) (xE (dCB fTuple (aCons (dL (dComp (iZipD (aCons (dVar 13) (aCons (dVar 10) aNil))) (gdN 25) tYesD (dCB fMinP (aCons (dVar 25) aNil)) [25])) aNil))))
  (dSeq (dIfS (dNot (dTest (dCall 2 F__law_alike W (aCons (dL (aLst (aCons (dCall 3 F_higher W (aCons (dVar 2) (aCons (dVar 13) (aCons (dVar 10) aNil)))) (aCons (dCall 3 F_lower W (aCons (dVar 2) (aCons (dVar 13) (aCons (dVar 10) aNil)))) aNil)))) (aCons (dL (aLst (aCons (dVar 20) (aCons (dVar 21) aNil)))) aNil))))) (dRet (dC (.bl false))) dNext)
  (dRet (dCall 2 F__law_alike W (aCons (dCall 3 F_apart W (aCons (dVar 2) (aCons (dVar 13) (aCons (dVar 10) aNil)))) (aCons (dCB fMaxL (aCons (dL (dComp (iR1 (aCons (dVar 11) aNil)) (gdN 24) tYesD (dCB fAbs (aCons (dOp2 fSub (dOp2 fIx (dVar 13) (dVar 24)) (dOp2 fIx (dVar 10) (dVar 24))) aNil)) [24])) aNil)) aNil)))))))))))))))))))))))
abbrev N_law : List Str := ["_law_script", "_law_row", "_law_net_here", "_law_some", "_law_gaps", "_law_drops", "_law_other", "_law_values", "_law_odd", "_law_value", "_law_big", "_law_many", "_law_most", "_law_heights_here", "_law_size", "_law_low", "_law_high", "_law_found", "_law_at", "_law_good", "_law_tops", "_law_lows", "_law_told", "_law_point", "_law_spot", "_law_pair"]
end NR
/-! Each def's reading of data, printed by gen.py. -/
namespace NR
open PySem PySem.Spec PyProof.Rows L2
def T_lawB (F__law_net F__law_taken F__law_rows F__law_bumps F__law_alike F_least_change F__law_cut F__law_fill F_between_cuts F_worst_point F_near_row F__law_pick F_shows_near F__law_heights F_higher F_lower F_apart : FT) (W : Wc) : DS := (dSeq (dAsg 7 (xE (dL (aLst (aCons (dVar 17) (aCons (dVar 15) (aCons (dVar 16) (aCons (dVar 13) (aCons (dVar 6) (aCons (dCB fTuple (aCons (dL (dComp (iSeq (dVar 15) true) (gdN 22) tYesD (dOp2 fAdd (dVar 22) (dCB fMinL (aCons (dVar 4) aNil))) [22])) aNil)) (aCons (dOp2 fCatT (dOp2 fCatT (dSlT (dVar 17) oNone (oSome (dVar 18))) (dTup (aCons (dOp2 fAdd (dOp2 fIx (dVar 17) (dVar 18)) (dC (.int 1))) aNil))) (dSlT (dVar 17) (oSome (dOp2 fAdd (dVar 18) (dC (.int 1)))) oNone)) aNil)))))))))))
  (dSeq (dAsg 8 (xE (dL (aLst (aCons (dC .non) (aCons (dL (dCBL fList (aCons (dVar 17) aNil))) (aCons dNewK (aCons (dC (.int 0)) (aCons (dSlT (dVar 17) (oSome (dC (.int 1))) oNone) (aCons (dOp2 fCatT (dVar 17) (dTup (aCons (dC (.int 0)) aNil))) (aCons (dOp2 fRepT (dTup (aCons (dC .non) aNil)) (dVar 11)) (aCons (dOp2 fRepT (dTup (aCons (dC (.str "1")) aNil)) (dVar 11)) (aCons (dOp2 fRepT (dTup (aCons (dC (.bl true)) aNil)) (dVar 11)) (aCons (dOp2 fRepT (dTup (aCons (dC (.int 100)) aNil)) (dVar 11)) (aCons (dOp2 fRepT (dTup (aCons (dOp2 fSub (dC (.int 0)) (dC (.int 100))) aNil)) (dVar 11)) aNil)))))))))))))))
  (dSeq (dFor (iSeq (dL (aLst (aCons (dVar 17) (aCons (dCall 2 F__law_pick W (aCons (dVar 1) (aCons (dVar 7) aNil))) (aCons (dCall 2 F__law_pick W (aCons (dVar 1) (aCons (dVar 7) aNil))) (aCons (dCall 2 F__law_pick W (aCons (dVar 1) (aCons (dVar 8) aNil))) aNil)))))) false) (gdN 9) (dSeq (dAsg 19 (xE (dAndV (dCB fIsi (aCons (dVar 9) (aCons (dC (.ty "tuple")) aNil))) (dOp2 (fEqS false) (dCB fLen (aCons (dVar 9) aNil)) (dVar 11)))))
  (dSeq (dAsg 19 (xE (dAndV (dVar 19) (dOp2 (fEqN false) (dL (dComp (iSeq (dVar 9) true) (gdN 22) (dOr (dTest (dCB fIsi (aCons (dVar 22) (aCons (dC (.ty "bool")) aNil)))) (dOr (dNot (dTest (dCB fIsi (aCons (dVar 22) (aCons (dC (.ty "int")) aNil))))) (dTest (dOp2 fGt (dCB fAbs (aCons (dVar 22) aNil)) (dC (.int 99)))))) (dVar 22) [22])) (dL (aLst aNil))))))
  (dSeq (dIfS (dTest (dVar 19)) (dSeq (dAsg 19 (xE (dOp2 fLe (dCB fMaxL (aCons (dL (dComp (iR1 (aCons (dVar 11) aNil)) (gdN 24) tYesD (dCB fAbs (aCons (dOp2 fSub (dOp2 fIx (dVar 9) (dVar 24)) (dOp2 fIx (dVar 13) (dVar 24))) aNil)) [24])) aNil)) (dCB fMinL (aCons (dVar 4) aNil)))))
  (dAsg 19 (xE (dAndV (dVar 19) (dOp2 (fEqN false) (dCall 3 F__law_bumps W (aCons (dVar 2) (aCons (dVar 9) (aCons (dVar 14) aNil)))) (dL (aLst aNil))))))) dNext)
  (dIfS (dNot (dTest (dCall 2 F__law_alike W (aCons (dCall 4 F_shows_near W (aCons (dVar 2) (aCons (dVar 13) (aCons (dVar 14) (aCons (dVar 9) aNil))))) (aCons (dVar 19) aNil))))) (dRet (dC (.bl false))) dNext)))))
  (dSeq (dAsg 10 (xE (dCall 3 F__law_heights W (aCons (dVar 1) (aCons (dVar 11) (aCons (dC (.int 99)) aNil))))))
  (dSeq (dPar 20 21 (xE (dCB fTuple (aCons (dL (dComp (iZipD (aCons (dVar 13) (aCons (dVar 10) aNil))) (gdN 25) tYesD (dCB fMaxP (aCons (dVar 25) aNil)) [25])) aNil))) (xE (dCB fTuple (aCons (dL (dComp (iZipD (aCons (dVar 13) (aCons (dVar 10) aNil))) (gdN 25) tYesD (dCB fMinP (aCons (dVar 25) aNil)) [25])) aNil))))
  (dSeq (dIfS (dNot (dTest (dCall 2 F__law_alike W (aCons (dL (aLst (aCons (dCall 3 F_higher W (aCons (dVar 2) (aCons (dVar 13) (aCons (dVar 10) aNil)))) (aCons (dCall 3 F_lower W (aCons (dVar 2) (aCons (dVar 13) (aCons (dVar 10) aNil)))) aNil)))) (aCons (dL (aLst (aCons (dVar 20) (aCons (dVar 21) aNil)))) aNil))))) (dRet (dC (.bl false))) dNext)
  (dRet (dCall 2 F__law_alike W (aCons (dCall 3 F_apart W (aCons (dVar 2) (aCons (dVar 13) (aCons (dVar 10) aNil)))) (aCons (dCB fMaxL (aCons (dL (dComp (iR1 (aCons (dVar 11) aNil)) (gdN 24) tYesD (dCB fAbs (aCons (dOp2 fSub (dOp2 fIx (dVar 13) (dVar 24)) (dOp2 fIx (dVar 10) (dVar 24))) aNil)) [24])) aNil)) aNil))))))))))
def T_lawC (F__law_net F__law_taken F__law_rows F__law_bumps F__law_alike F_least_change F__law_cut F__law_fill F_between_cuts F_worst_point F_near_row F__law_pick F_shows_near F__law_heights F_higher F_lower F_apart : FT) (W : Wc) : DS := (dSeq (dAsg 10 (xE (dCall 3 F__law_heights W (aCons (dVar 1) (aCons (dVar 11) (aCons (dC (.int 99)) aNil))))))
  (dSeq (dPar 20 21 (xE (dCB fTuple (aCons (dL (dComp (iZipD (aCons (dVar 13) (aCons (dVar 10) aNil))) (gdN 25) tYesD (dCB fMaxP (aCons (dVar 25) aNil)) [25])) aNil))) (xE (dCB fTuple (aCons (dL (dComp (iZipD (aCons (dVar 13) (aCons (dVar 10) aNil))) (gdN 25) tYesD (dCB fMinP (aCons (dVar 25) aNil)) [25])) aNil))))
  (dSeq (dIfS (dNot (dTest (dCall 2 F__law_alike W (aCons (dL (aLst (aCons (dCall 3 F_higher W (aCons (dVar 2) (aCons (dVar 13) (aCons (dVar 10) aNil)))) (aCons (dCall 3 F_lower W (aCons (dVar 2) (aCons (dVar 13) (aCons (dVar 10) aNil)))) aNil)))) (aCons (dL (aLst (aCons (dVar 20) (aCons (dVar 21) aNil)))) aNil))))) (dRet (dC (.bl false))) dNext)
  (dRet (dCall 2 F__law_alike W (aCons (dCall 3 F_apart W (aCons (dVar 2) (aCons (dVar 13) (aCons (dVar 10) aNil)))) (aCons (dCB fMaxL (aCons (dL (dComp (iR1 (aCons (dVar 11) aNil)) (gdN 24) tYesD (dCB fAbs (aCons (dOp2 fSub (dOp2 fIx (dVar 13) (dVar 24)) (dOp2 fIx (dVar 10) (dVar 24))) aNil)) [24])) aNil)) aNil)))))))
def T_lawL (F__law_net F__law_taken F__law_rows F__law_bumps F__law_alike F_least_change F__law_cut F__law_fill F_between_cuts F_worst_point F_near_row F__law_pick F_shows_near F__law_heights F_higher F_lower F_apart : FT) (W : Wc) : DS := (dSeq (dAsg 19 (xE (dAndV (dCB fIsi (aCons (dVar 9) (aCons (dC (.ty "tuple")) aNil))) (dOp2 (fEqS false) (dCB fLen (aCons (dVar 9) aNil)) (dVar 11)))))
  (dSeq (dAsg 19 (xE (dAndV (dVar 19) (dOp2 (fEqN false) (dL (dComp (iSeq (dVar 9) true) (gdN 22) (dOr (dTest (dCB fIsi (aCons (dVar 22) (aCons (dC (.ty "bool")) aNil)))) (dOr (dNot (dTest (dCB fIsi (aCons (dVar 22) (aCons (dC (.ty "int")) aNil))))) (dTest (dOp2 fGt (dCB fAbs (aCons (dVar 22) aNil)) (dC (.int 99)))))) (dVar 22) [22])) (dL (aLst aNil))))))
  (dSeq (dIfS (dTest (dVar 19)) (dSeq (dAsg 19 (xE (dOp2 fLe (dCB fMaxL (aCons (dL (dComp (iR1 (aCons (dVar 11) aNil)) (gdN 24) tYesD (dCB fAbs (aCons (dOp2 fSub (dOp2 fIx (dVar 9) (dVar 24)) (dOp2 fIx (dVar 13) (dVar 24))) aNil)) [24])) aNil)) (dCB fMinL (aCons (dVar 4) aNil)))))
  (dAsg 19 (xE (dAndV (dVar 19) (dOp2 (fEqN false) (dCall 3 F__law_bumps W (aCons (dVar 2) (aCons (dVar 9) (aCons (dVar 14) aNil)))) (dL (aLst aNil))))))) dNext)
  (dIfS (dNot (dTest (dCall 2 F__law_alike W (aCons (dCall 4 F_shows_near W (aCons (dVar 2) (aCons (dVar 13) (aCons (dVar 14) (aCons (dVar 9) aNil))))) (aCons (dVar 19) aNil))))) (dRet (dC (.bl false))) dNext))))
end NR
/-! The row that the law draws from, as a world. -/
namespace NR
open PySem PySem.Spec PyProof.Rows L2
def KList (K : PySem.W.Frag) (a : Addr) (xs : List V) : Prop := ∃ (o : Obj) (its : Array Value) (n : Nat), K.lookup a = some o ∧ o.cls = .type "list" ∧ o.dict = none ∧ o.data = .seq its n ∧ its.size ≤ sizeLine ∧ Vals xs its.toList
/-- the row's four cells -/
def rowV (scr : Addr) (i t u : Int) : List V := [.ref scr, .int i, .int t, .int u]
/-- row: the list; b: the script stands in the heap -/
def Wrow (K : PySem.W.Frag) (scr row : Addr) (ns : List Int) (b : Prop) : Wc where
  at_ := fun a => a = row ∨ (b ∧ a = scr)
  ok := fun H => (∃ i t u : Int, 0 ≤ i ∧ H row = some (.lst (rowV scr i t u))) ∧ (b → Rd H scr (.lst (ns.map V.int))) ∧ (¬ b → KList K scr (ns.map V.int))
  dom := fun H a ⟨⟨i, t, u, _, h⟩, h2, _⟩ w => by
    rcases w with rfl | ⟨hb, rfl⟩
    · exact ⟨_, h⟩
    · rcases h2 hb with h | ⟨o, h⟩
      · exact ⟨_, h⟩
      · exact ⟨_, h⟩
  loc := fun H H' k ⟨⟨i, t, u, h0, h⟩, h2, h3⟩ => by
    refine ⟨⟨i, t, u, h0, by rw [k _ (.inl rfl)]; exact h⟩, fun hb => ?_, h3⟩
    rcases h2 hb with h | ⟨o, h⟩
    · exact .inl (by rw [k _ (.inr ⟨hb, rfl⟩)]; exact h)
    · exact .inr ⟨o, by rw [k _ (.inr ⟨hb, rfl⟩)]; exact h⟩
  nt := fun H a xs ⟨⟨i, t, u, _, h⟩, h2, _⟩ w e => by
    rcases w with rfl | ⟨hb, rfl⟩
    · rw [h] at e; cases e
    · rcases h2 hb with h | ⟨o, h⟩
      · rw [h] at e; cases e
      · rw [h] at e; cases e
/-- a draw: what the row is asked for -/
def FpTaken (K : PySem.W.Frag) : FT := fun W ds Q => ∃ (scr row : Addr) (ns : List Int) (b : Prop), W = Wrow K scr row ns b ∧ (b → scr ≠ row) ∧ ns.length ≤ 1000 ∧ ∃ n : Int, ds = [.raw row, .int n] ∧ 0 < n ∧ n ≤ 100000 ∧ ∀ r : Int, 0 ≤ r → r < n → Q (.int r)
theorem Wrow.seq {K : PySem.W.Frag} {scr row : Addr} {ns : List Int} {b : Prop} {H : Hp} (h : (Wrow K scr row ns b).ok H) : SqL K H scr (ns.map V.int) := by
  obtain ⟨_, h2, h3⟩ := h
  by_cases hb : b
  · exact .inl (h2 hb)
  · exact .inr (h3 hb)
/-- the row changes -/
theorem Wrow.put {K : PySem.W.Frag} {scr row : Addr} {ns : List Int} {b : Prop} {S H : Hp} (hne : b → scr ≠ row) (h : (Wrow K scr row ns b).ok H) (sub : Ex S H) (n : S row = none) {i t u : Int} (h0 : 0 ≤ i) : Gr (Wrow K scr row ns b) S H S (upd H row (.lst (rowV scr i t u))) := by
  refine ⟨fun a o w e => ?_, ⟨⟨i, t, u, h0, upd_same⟩, fun hb => ?_, h.2.2⟩, fun a o e => ?_, fun _ _ => rfl, fun _ _ e => e⟩
  · rw [upd_ne fun z => w (.inl z)]; exact e
  · rcases h.2.1 hb with h | ⟨o, h⟩
    · exact .inl (by rw [upd_ne (hne hb)]; exact h)
    · exact .inr ⟨o, by rw [upd_ne (hne hb)]; exact h⟩
  · rw [upd_ne fun z => by rw [z, n] at e; cases e]
    exact sub a o e
theorem law_start {K : PySem.W.Frag} {a p : Addr} {ns : List Int} {H : Hp} {Q : VK} {t : TS} {T : Wc → DS} {k : Nat} {D' : Ends} (hS : SqL K H a (ns.map V.int)) (np : H p = none)
    (hD : D'.rt = Q) (q : ∀ H', Q (.bl true) H') (ht : ∀ W, SimS W t (T W))
    (hT : ∀ b : Prop, (b → a ≠ p) → T (Wrow K a p ns b) { nx := fun _ => False, rt := fun d => d = .bl true } ([Sl.im (.raw a), .im (.raw p)] ++ List.replicate k .no)) : t D' ([some (.ref a), some (.ref p)] ++ List.replicate k none) (upd H p (.lst (rowV a 0 7834 0))) := by
  have hb : ∃ b : Prop, (b → Rd H a (.lst (ns.map V.int))) ∧ (¬ b → KList K a (ns.map V.int)) := by
    rcases hS with h | h
    · exact ⟨True, fun _ => h, fun z => absurd trivial z⟩
    · exact ⟨False, fun z => z.elim, fun _ => h⟩
  obtain ⟨b, hb1, hb2⟩ := hb
  have hH : ∀ o, H a = some o → upd H p (.lst (rowV a 0 7834 0)) a = some o := fun o h => by rw [upd_ne (ne_of_none h np)]; exact h
  have ok : (Wrow K a p ns b).ok (upd H p (.lst (rowV a 0 7834 0))) := by
    refine ⟨⟨0, 7834, 0, by decide, upd_same⟩, fun z => ?_, hb2⟩
    rcases hb1 z with h | ⟨o, h⟩
    · exact .inl (hH _ h)
    · exact .inr ⟨o, hH _ h⟩
  have s : SR (Wrow K a p ns b) (upd H p (.lst (rowV a 0 7834 0))) (fun _ => none) ([Sl.im (.raw a), .im (.raw p)] ++ List.replicate k .no) ([some (.ref a), some (.ref p)] ++ List.replicate k none) (fun _ => none) (upd H p (.lst (rowV a 0 7834 0))) := by
    refine ⟨ok, fun _ _ _ h => h, fun _ o h => ⟨o, h⟩, fun _ _ => rfl, fun _ _ h => (nomatch h), fun _ _ h => (nomatch h), fun _ _ => rfl, fun i x e => ?_, fun i j si sj l ei ej mi _ _ _ => ?_, by simp⟩
    · match i, e with
      | 0, e => cases e; exact ⟨_, rfl, .raw _⟩
      | 1, e => cases e; exact ⟨_, rfl, .raw _⟩
      | i + 2, e =>
        have e' : (List.replicate k Sl.no)[i]? = some x := e
        rw [List.getElem?_replicate] at e'
        split at e'
        · cases e'; exact True.intro
        · cases e'
    · exfalso
      match i, ei with
      | 0, e => cases e; cases mi
      | 1, e => cases e; cases mi
      | i + 2, e =>
        have e' : (List.replicate k Sl.no)[i]? = some si := e
        rw [List.getElem?_replicate] at e'
        split at e'
        · cases e'; cases mi
        · cases e'
  refine ht _ s (hT b fun z => by
    rcases hb1 z with h | ⟨o, h⟩
    · exact ne_of_none h np
    · exact ne_of_none h np) ⟨fun _ _ _ _ _ _ z => z.elim, fun _ _ _ _ _ _ z => z.elim, fun _ _ _ _ _ _ z => z.elim, fun v d _ _ S' H' _ r z => ?_⟩
  subst z
  cases r
  rw [hD]
  exact q H'
end NR
/-! Walks, printed by gen.py. -/
namespace NR
open PySem PySem.Spec PyProof.Rows L2
def topS (i : Nat) : Stmt := PySem.Challenge.pw_shavenets_k34_whole_near_rows.main.body.getD i (.Pass ⟨0, 0, 0, 0⟩)
section
variable {P : Program} {w : World} {K : PySem.W.Frag} {mg : Str → Option Value} {base : Heap}
theorem sc_whole : FnScope ["value"] ["value"] (defScope (topS 8)) := ⟨rfl, rfl, rfl, by decide +kernel, rfl, by decide +kernel, by decide +kernel⟩
theorem ok_whole {f : Addr} {fd : FuncData} {k : Nat} {Fp  : FT} (F : Fun K "whole" "whole" (topS 8) f fd) (B : Bl mg) 
  (hT : ∀ (W : Wc) (ds : List D) (Q : D → Prop), ds.length = 1 → Fp W ds Q → T_whole  W { nx := fun _ => Q .non, rt := Q } (startD N_whole ds)) : FnOk P w K mg base CX0 (k + 1) f fd ["value"] (spD 1 Fp) :=
  fn_ok F sc_whole rfl (fun cdv A outer s H E hr W => ⟨_,
  (rss_one (rs_ret (re_and (re_isi (K := K) B.isinstance_ (ra_cons (rv 0) (ra_cons (re_bty B.int_ boot_int) ra_nil))) (re_one (re_not (re_isi (K := K) B.isinstance_ (ra_cons (rv 0) (ra_cons (re_bty B.bool_ boot_bool) ra_nil))))))))⟩) hT

theorem sc_within : FnScope ["value", "low", "high"] ["value", "low", "high"] (defScope (topS 9)) := ⟨rfl, rfl, rfl, by decide +kernel, rfl, by decide +kernel, by decide +kernel⟩
theorem ok_within {f : Addr} {fd : FuncData} {k : Nat} {Fp F_whole : FT} (F : Fun K "within" "within" (topS 9) f fd) (B : Bl mg) (c_whole : Cal P w K mg base k "whole" ["value"] 1 F_whole)
  (hT : ∀ (W : Wc) (ds : List D) (Q : D → Prop), ds.length = 3 → Fp W ds Q → T_within F_whole W { nx := fun _ => Q .non, rt := Q } (startD N_within ds)) : FnOk P w K mg base CX0 (k + 1) f fd ["value", "low", "high"] (spD 3 Fp) :=
  fn_ok F sc_within rfl (fun cdv A outer s H E hr W => ⟨_,
  (rss_one (rs_ret (re_and (re_callC c_whole hr (ra_cons (rv 0) ra_nil)) (re_one (re_chain o_le o_le (rv 1) (rv 0) (rv 2))))))⟩) hT

theorem sc_need_number : FnScope ["value", "low", "high"] ["value", "low", "high"] (defScope (topS 10)) := ⟨rfl, rfl, rfl, by decide +kernel, rfl, by decide +kernel, by decide +kernel⟩
theorem ok_need_number {f : Addr} {fd : FuncData} {k : Nat} {Fp F_within : FT} (F : Fun K "need_number" "need_number" (topS 10) f fd) (B : Bl mg) (c_within : Cal P w K mg base k "within" ["value", "low", "high"] 3 F_within)
  (hT : ∀ (W : Wc) (ds : List D) (Q : D → Prop), ds.length = 3 → Fp W ds Q → T_need_number F_within W { nx := fun _ => Q .non, rt := Q } (startD N_need_number ds)) : FnOk P w K mg base CX0 (k + 1) f fd ["value", "low", "high"] (spD 3 Fp) :=
  fn_ok F sc_need_number rfl (fun cdv A outer s H E hr W => ⟨_,
  (rss_one (rs_if (rt_not (rt_val (re_callC c_within hr (ra_cons (rv 0) (ra_cons (rv 1) (ra_cons (rv 2) ra_nil)))))) (rss_one rs_never) rss_nil))⟩) hT

theorem sc_tuple_of : FnScope ["value", "low", "high"] ["value", "low", "high"] (defScope (topS 11)) := ⟨rfl, rfl, rfl, by decide +kernel, rfl, by decide +kernel, by decide +kernel⟩
theorem ok_tuple_of {f : Addr} {fd : FuncData} {k : Nat} {Fp  : FT} (F : Fun K "tuple_of" "tuple_of" (topS 11) f fd) (B : Bl mg) 
  (hT : ∀ (W : Wc) (ds : List D) (Q : D → Prop), ds.length = 3 → Fp W ds Q → T_tuple_of  W { nx := fun _ => Q .non, rt := Q } (startD N_tuple_of ds)) : FnOk P w K mg base CX0 (k + 1) f fd ["value", "low", "high"] (spD 3 Fp) :=
  fn_ok F sc_tuple_of rfl (fun cdv A outer s H E hr W => ⟨_,
  (rss_one (rs_ret (re_and (re_isi (K := K) B.isinstance_ (ra_cons (rv 0) (ra_cons (re_bty B.tuple_ boot_tuple) ra_nil))) (re_one (re_chain o_le o_le (rv 1) (re_len (K := K) B.len_ (ra_cons (rv 0) ra_nil)) (rv 2))))))⟩) hT

theorem sc_need_net : FnScope ["net", "index", "pair", "point"] ["net"] (defScope (topS 12)) := ⟨rfl, rfl, rfl, by decide +kernel, rfl, by decide +kernel, by decide +kernel⟩
theorem ok_need_net {f : Addr} {fd : FuncData} {k : Nat} {Fp F_tuple_of F_within : FT} (F : Fun K "need_net" "need_net" (topS 12) f fd) (B : Bl mg) (c_tuple_of : Cal P w K mg base k "tuple_of" ["value", "low", "high"] 3 F_tuple_of) (c_within : Cal P w K mg base k "within" ["value", "low", "high"] 3 F_within)
  (hT : ∀ (W : Wc) (ds : List D) (Q : D → Prop), ds.length = 1 → Fp W ds Q → T_need_net F_tuple_of F_within W { nx := fun _ => Q .non, rt := Q } (startD N_need_net ds)) : FnOk P w K mg base CX0 (k + 1) f fd ["net"] (spD 1 Fp) :=
  fn_ok F sc_need_net rfl (fun cdv A outer s H E hr W => ⟨_,
  (rss_cons (rs_if (RW'.toT (rw_or (rt_not (rt_val (re_callC c_tuple_of hr (ra_cons (rv 0) (ra_cons re_int (ra_cons re_int ra_nil)))))) (rw_or (rt_not (rt_val (re_callC c_within hr (ra_cons (re_ix (K := K) (rv 0) re_int) (ra_cons re_int (ra_cons (re_globE rfl B.most_points) ra_nil)))))) (rw_or1 (rt_not (rt_val (re_callC c_tuple_of hr (ra_cons (re_ix (K := K) (rv 0) re_int) (ra_cons re_int (ra_cons re_int ra_nil)))))))))) (rss_one rs_never) rss_nil)
  (rss_one (rs_for PassesOwn.never (ri_enumT (K := K) B.enumerate_ (ra_cons (re_ix (K := K) (rv 0) re_int) ra_nil)) (rg_tup2 (K := K) (RG.pe (W := W) (rg_name (i := 1) sc_need_net.nd)) (RG.pe (W := W) (rg_name (i := 2) sc_need_net.nd))) (rss_cons (rs_if (RW'.toT (rw_or (rt_not (rt_val (re_callC c_tuple_of hr (ra_cons (rv 2) (ra_cons re_int (ra_cons re_int ra_nil)))))) (rw_or1 (rt_not (rt_val (re_cb (c_all (K := K)) B.all_ (by decide +kernel) (ra_cons (RL.toE (rl_lc (own := [("point", 3)]) sc_need_net.nd (ri_tup (K := K) (rv 2)) (blkOk_by (N := N_need_net) (sc := defScope (topS 12)) (by decide +kernel)) (gin_name (by decide)) (fun _ _ _ _ _ => (rg_name (i := 3) sc_need_net.nd)) (fun _ _ _ _ _ => rts_nil) (fun _ _ _ _ _ => (re_callC c_within hr (ra_cons (rv 3) (ra_cons re_int (ra_cons (re_op o_sub (re_ix (K := K) (rv 0) re_int) re_int) ra_nil))))))) ra_nil))))))) (rss_one rs_never) rss_nil)
  (rss_one (rs_if (RW'.toT (rw_or (rt_cmp o_ge (re_ix (K := K) (rv 2) re_int) (re_ix (K := K) (rv 2) re_int)) (rw_or1 (RW'.toT (rw_and (rt_cmp o_gt (rv 1) re_int) (rw_and1 (rt_cmp (o_leT (K := K) hr.units0) (rv 2) (re_ix (K := K) (re_ix (K := K) (rv 0) re_int) (re_op o_sub (rv 1) re_int))))))))) (rss_one rs_never) rss_nil))))))⟩) hT

theorem sc_need_row : FnScope ["net", "row", "index", "height"] ["net", "row"] (defScope (topS 13)) := ⟨rfl, rfl, rfl, by decide +kernel, rfl, by decide +kernel, by decide +kernel⟩
theorem ok_need_row {f : Addr} {fd : FuncData} {k : Nat} {Fp F_tuple_of F_within : FT} (F : Fun K "need_row" "need_row" (topS 13) f fd) (B : Bl mg) (c_tuple_of : Cal P w K mg base k "tuple_of" ["value", "low", "high"] 3 F_tuple_of) (c_within : Cal P w K mg base k "within" ["value", "low", "high"] 3 F_within)
  (hT : ∀ (W : Wc) (ds : List D) (Q : D → Prop), ds.length = 2 → Fp W ds Q → T_need_row F_tuple_of F_within W { nx := fun _ => Q .non, rt := Q } (startD N_need_row ds)) : FnOk P w K mg base CX0 (k + 1) f fd ["net", "row"] (spD 2 Fp) :=
  fn_ok F sc_need_row rfl (fun cdv A outer s H E hr W => ⟨_,
  (rss_cons (rs_if (rt_not (rt_val (re_callC c_tuple_of hr (ra_cons (rv 1) (ra_cons (re_ix (K := K) (rv 0) re_int) (ra_cons (re_ix (K := K) (rv 0) re_int) ra_nil)))))) (rss_one rs_never) rss_nil)
  (rss_one (rs_for PassesOwn.never (ri_enumT (K := K) B.enumerate_ (ra_cons (rv 1) ra_nil)) (rg_tup2 (K := K) (RG.pe (W := W) (rg_name (i := 2) sc_need_row.nd)) (RG.pe (W := W) (rg_name (i := 3) sc_need_row.nd))) (rss_one (rs_if (rt_not (rt_val (re_callC c_within hr (ra_cons (rv 3) (ra_cons (re_neg (re_globE rfl B.most_height)) (ra_cons (re_globE rfl B.most_height) ra_nil)))))) (rss_one rs_never) rss_nil)))))⟩) hT

theorem sc_need_both : FnScope ["net", "row"] ["net", "row"] (defScope (topS 14)) := ⟨rfl, rfl, rfl, by decide +kernel, rfl, by decide +kernel, by decide +kernel⟩
theorem ok_need_both {f : Addr} {fd : FuncData} {k : Nat} {Fp F_need_net F_need_row : FT} (F : Fun K "need_both" "need_both" (topS 14) f fd) (B : Bl mg) (c_need_net : Cal P w K mg base k "need_net" ["net"] 1 F_need_net) (c_need_row : Cal P w K mg base k "need_row" ["net", "row"] 2 F_need_row)
  (hT : ∀ (W : Wc) (ds : List D) (Q : D → Prop), ds.length = 2 → Fp W ds Q → T_need_both F_need_net F_need_row W { nx := fun _ => Q .non, rt := Q } (startD N_need_both ds)) : FnOk P w K mg base CX0 (k + 1) f fd ["net", "row"] (spD 2 Fp) :=
  fn_ok F sc_need_both rfl (fun cdv A outer s H E hr W => ⟨_,
  (rss_cons (rs_expr (re_callC c_need_net hr (ra_cons (rv 0) ra_nil)))
  (rss_one (rs_expr (re_callC c_need_row hr (ra_cons (rv 0) (ra_cons (rv 1) ra_nil))))))⟩) hT

theorem sc_need_size : FnScope ["net", "size"] ["net", "size"] (defScope (topS 15)) := ⟨rfl, rfl, rfl, by decide +kernel, rfl, by decide +kernel, by decide +kernel⟩
theorem ok_need_size {f : Addr} {fd : FuncData} {k : Nat} {Fp F_need_number : FT} (F : Fun K "need_size" "need_size" (topS 15) f fd) (B : Bl mg) (c_need_number : Cal P w K mg base k "need_number" ["value", "low", "high"] 3 F_need_number)
  (hT : ∀ (W : Wc) (ds : List D) (Q : D → Prop), ds.length = 2 → Fp W ds Q → T_need_size F_need_number W { nx := fun _ => Q .non, rt := Q } (startD N_need_size ds)) : FnOk P w K mg base CX0 (k + 1) f fd ["net", "size"] (spD 2 Fp) :=
  fn_ok F sc_need_size rfl (fun cdv A outer s H E hr W => ⟨_,
  (rss_one (rs_expr (re_callC c_need_number hr (ra_cons (rv 1) (ra_cons re_int (ra_cons (re_ix (K := K) (rv 0) re_int) ra_nil))))))⟩) hT

theorem sc_rim_of : FnScope ["near", "points", "found", "here", "point"] ["near", "points"] (defScope (topS 18)) := ⟨rfl, rfl, rfl, by decide +kernel, rfl, by decide +kernel, by decide +kernel⟩
theorem ok_rim_of {f : Addr} {fd : FuncData} {k : Nat} {Fp  : FT} (F : Fun K "rim_of" "rim_of" (topS 18) f fd) (B : Bl mg) 
  (hT : ∀ (W : Wc) (ds : List D) (Q : D → Prop), ds.length = 2 → Fp W ds Q → T_rim_of  W { nx := fun _ => Q .non, rt := Q } (startD N_rim_of ds)) : FnOk P w K mg base CX0 (k + 1) f fd ["near", "points"] (spD 2 Fp) :=
  fn_ok F sc_rim_of rfl (fun cdv A outer s H E hr W => ⟨_,
  (rss_cons (rs_set (i := 2) sc_rim_of.nd rx_newK)
  (rss_cons (rs_for PassesOwn.never (ri_tup (K := K) (rv 1)) (rg_name (i := 3) sc_rim_of.nd) (rss_one (rs_for PassesOwn.never (ri_lst (K := K) (re_ix (K := K) (rv 0) (rv 3))) (rg_name (i := 4) sc_rim_of.nd) (rss_one (rs_if (rt_cmp (o_notIn (K := K)) (rv 4) (rv 1)) (rss_one (rs_putK (i := 2) (hu_of hr) re_bl (rv 4))) rss_nil)))))
  (rss_freeze 2 (rss_one (rs_ret (RL.toE (rl_cb c_sortK B.sorted_ (by decide +kernel) (ra_cons (rv 2) ra_nil))))))))⟩) hT

theorem sc_flat_with : FnScope ["near", "row", "point", "found", "rim", "here", "other"] ["near", "row", "point"] (defScope (topS 21)) := ⟨rfl, rfl, rfl, by decide +kernel, rfl, by decide +kernel, by decide +kernel⟩
theorem ok_flat_with {f : Addr} {fd : FuncData} {k : Nat} {Fp  : FT} (F : Fun K "flat_with" "flat_with" (topS 21) f fd) (B : Bl mg) 
  (hT : ∀ (W : Wc) (ds : List D) (Q : D → Prop), ds.length = 3 → Fp W ds Q → T_flat_with  W { nx := fun _ => Q .non, rt := Q } (startD N_flat_with ds)) : FnOk P w K mg base CX0 (k + 1) f fd ["near", "row", "point"] (spD 3 Fp) :=
  fn_ok F sc_flat_with rfl (fun cdv A outer s H E hr W => ⟨_,
  (rss_cons (rs_par (i := 3) (j := 4) sc_flat_with.nd (rx_newK1 (ev := .Constant .none 0 ⟨0, 0, 0, 0⟩) (rv 2)) (RL.toX (rl_lst (ra_cons (rv 2) ra_nil))))
  (rss_cons (rs_while PassesOwn.never (rt_neM (i := 4) hr.units) (rss_cons (rs_pop (i := 4) (j := 5) sc_flat_with.nd)
  (rss_one (rs_for PassesOwn.never (ri_lst (K := K) (re_ix (K := K) (rv 0) (rv 5))) (rg_name (i := 6) sc_flat_with.nd) (rss_one (rs_if (RW'.toT (rw_and (rt_cmp o_eq (re_ix (K := K) (rv 1) (rv 6)) (re_ix (K := K) (rv 1) (rv 5))) (rw_and1 (rt_notInM (i := 3) (hu_of hr) (rv 6))))) (rss_cons (rs_putK (i := 3) (hu_of hr) re_bl (rv 6))
  (rss_one (rs_app (i := 4) (rv 6)))) rss_nil))))))
  (rss_freeze 3 (rss_one (rs_ret (rv 3))))))⟩) hT

theorem sc_flats_of : FnScope ["near", "row", "point", "found", "done", "told"] ["near", "row"] (defScope (topS 20)) := ⟨rfl, rfl, rfl, by decide +kernel, rfl, by decide +kernel, by decide +kernel⟩
theorem ok_flats_of {f : Addr} {fd : FuncData} {k : Nat} {Fp F_flat_with : FT} (F : Fun K "flats_of" "flats_of" (topS 20) f fd) (B : Bl mg) (c_flat_with : Cal P w K mg base k "flat_with" ["near", "row", "point"] 3 F_flat_with)
  (hT : ∀ (W : Wc) (ds : List D) (Q : D → Prop), ds.length = 2 → Fp W ds Q → T_flats_of F_flat_with W { nx := fun _ => Q .non, rt := Q } (startD N_flats_of ds)) : FnOk P w K mg base CX0 (k + 1) f fd ["near", "row"] (spD 2 Fp) :=
  fn_ok F sc_flats_of rfl (fun cdv A outer s H E hr W => ⟨_,
  (rss_cons (rs_par (i := 3) (j := 4) sc_flats_of.nd (RL.toX (rl_lst ra_nil)) rx_newK)
  (rss_cons (rs_for PassesOwn.never (ri_r1 B.range_ (ra_cons (re_len (K := K) B.len_ (ra_cons (rv 1) ra_nil)) ra_nil)) (rg_name (i := 2) sc_flats_of.nd) (rss_one (rs_if (rt_notInM (i := 4) (hu_of hr) (rv 2)) (rss_cons (rs_set (i := 5) sc_flats_of.nd (RE.toX (re_callC c_flat_with hr (ra_cons (rv 0) (ra_cons (rv 1) (ra_cons (rv 2) ra_nil))))))
  (rss_cons (rs_app (i := 3) (re_cty (c_tuple (K := K)) B.tuple_ boot_tuple (ra_cons (RL.toE (rl_cb c_sortK B.sorted_ (by decide +kernel) (ra_cons (rv 5) ra_nil))) ra_nil)))
  (rss_one (rs_update (i := 4) (rv 5))))) rss_nil)))
  (rss_freeze 3 (rss_one (rs_ret (rv 3))))))⟩) hT

theorem sc_is_bump : FnScope ["near", "row", "flat", "around", "point"] ["near", "row", "flat"] (defScope (topS 22)) := ⟨rfl, rfl, rfl, by decide +kernel, rfl, by decide +kernel, by decide +kernel⟩
theorem ok_is_bump {f : Addr} {fd : FuncData} {k : Nat} {Fp F_rim_of : FT} (F : Fun K "is_bump" "is_bump" (topS 22) f fd) (B : Bl mg) (c_rim_of : Cal P w K mg base k "rim_of" ["near", "points"] 2 F_rim_of)
  (hT : ∀ (W : Wc) (ds : List D) (Q : D → Prop), ds.length = 3 → Fp W ds Q → T_is_bump F_rim_of W { nx := fun _ => Q .non, rt := Q } (startD N_is_bump ds)) : FnOk P w K mg base CX0 (k + 1) f fd ["near", "row", "flat"] (spD 3 Fp) :=
  fn_ok F sc_is_bump rfl (fun cdv A outer s H E hr W => ⟨_,
  (rss_cons (rs_set (i := 3) sc_is_bump.nd (RE.toX (re_callC c_rim_of hr (ra_cons (rv 0) (ra_cons (rv 2) ra_nil)))))
  (rss_one (rs_ret (re_and (re_cmp (o_neN (K := K) hr.units) (rv 3) (RL.toE (rl_lst ra_nil))) (re_one (re_cmp o_lt (re_cb (c_maxL (K := K)) B.max_ (by decide +kernel) (ra_cons (RL.toE (rl_lc (own := [("point", 4)]) sc_is_bump.nd (ri_lst (K := K) (rv 3)) (blkOk_by (N := N_is_bump) (sc := defScope (topS 22)) (by decide +kernel)) (gin_name (by decide)) (fun _ _ _ _ _ => (rg_name (i := 4) sc_is_bump.nd)) (fun _ _ _ _ _ => rts_nil) (fun _ _ _ _ _ => (re_ix (K := K) (rv 1) (rv 4))))) ra_nil)) (re_ix (K := K) (rv 1) (re_ix (K := K) (rv 2) re_int))))))))⟩) hT

theorem sc_bumps_of : FnScope ["near", "row", "size", "flat"] ["near", "row", "size"] (defScope (topS 23)) := ⟨rfl, rfl, rfl, by decide +kernel, rfl, by decide +kernel, by decide +kernel⟩
theorem ok_bumps_of {f : Addr} {fd : FuncData} {k : Nat} {Fp F_flats_of F_is_bump : FT} (F : Fun K "bumps_of" "bumps_of" (topS 23) f fd) (B : Bl mg) (c_flats_of : Cal P w K mg base k "flats_of" ["near", "row"] 2 F_flats_of) (c_is_bump : Cal P w K mg base k "is_bump" ["near", "row", "flat"] 3 F_is_bump)
  (hT : ∀ (W : Wc) (ds : List D) (Q : D → Prop), ds.length = 3 → Fp W ds Q → T_bumps_of F_flats_of F_is_bump W { nx := fun _ => Q .non, rt := Q } (startD N_bumps_of ds)) : FnOk P w K mg base CX0 (k + 1) f fd ["near", "row", "size"] (spD 3 Fp) :=
  fn_ok F sc_bumps_of rfl (fun cdv A outer s H E hr W => ⟨_,
  (rss_one (rs_ret (RL.toE (rl_lc (own := [("flat", 3)]) sc_bumps_of.nd (ri_lst (K := K) (re_callC c_flats_of hr (ra_cons (rv 0) (ra_cons (rv 1) ra_nil)))) (blkOk_by (N := N_bumps_of) (sc := defScope (topS 23)) (by decide +kernel)) (gin_name (by decide)) (fun _ _ _ _ _ => (rg_name (i := 3) sc_bumps_of.nd)) (fun _ _ _ _ _ => (rts_one (RW'.toT (rw_and (rt_cmp o_le (re_len (K := K) B.len_ (ra_cons (rv 3) ra_nil)) (rv 2)) (rw_and1 (rt_val (re_callC c_is_bump hr (ra_cons (rv 0) (ra_cons (rv 1) (ra_cons (rv 3) ra_nil)))))))))) (fun _ _ _ _ _ => (rv 3))))))⟩) hT

theorem sc_cut_of : FnScope ["near", "row", "size", "some", "later", "flat", "height", "point"] ["near", "row", "size"] (defScope (topS 25)) := ⟨rfl, rfl, rfl, by decide +kernel, rfl, by decide +kernel, by decide +kernel⟩
theorem ok_cut_of {f : Addr} {fd : FuncData} {k : Nat} {Fp F_bumps_of F_rim_of : FT} (F : Fun K "cut_of" "cut_of" (topS 25) f fd) (B : Bl mg) (c_bumps_of : Cal P w K mg base k "bumps_of" ["near", "row", "size"] 3 F_bumps_of) (c_rim_of : Cal P w K mg base k "rim_of" ["near", "points"] 2 F_rim_of)
  (hT : ∀ (W : Wc) (ds : List D) (Q : D → Prop), ds.length = 3 → Fp W ds Q → T_cut_of F_bumps_of F_rim_of W { nx := fun _ => Q .non, rt := Q } (startD N_cut_of ds)) : FnOk P w K mg base CX0 (k + 1) f fd ["near", "row", "size"] (spD 3 Fp) :=
  fn_ok F sc_cut_of rfl (fun cdv A outer s H E hr W => ⟨_,
  (rss_one (rs_while PassesOwn.never (rt_val re_bl) (rss_cons (rs_set (i := 3) sc_cut_of.nd (RE.toX (re_callC c_bumps_of hr (ra_cons (rv 0) (ra_cons (rv 1) (ra_cons (rv 2) ra_nil))))))
  (rss_cons (rs_if (rt_cmp (o_eqN (K := K) hr.units) (rv 3) (RL.toE (rl_lst ra_nil))) (rss_one (rs_ret (rv 1))) rss_nil)
  (rss_cons (rs_set (i := 4) sc_cut_of.nd (RL.toX (rl_cty (c_list (K := K)) B.list_ boot_list (ra_cons (rv 1) ra_nil))))
  (rss_cons (rs_for PassesOwn.never (ri_lst (K := K) (rv 3)) (rg_name (i := 5) sc_cut_of.nd) (rss_cons (rs_set (i := 6) sc_cut_of.nd (RE.toX (re_cb (c_maxL (K := K)) B.max_ (by decide +kernel) (ra_cons (RL.toE (rl_lc (own := [("point", 7)]) sc_cut_of.nd (ri_lst (K := K) (re_callC c_rim_of hr (ra_cons (rv 0) (ra_cons (rv 5) ra_nil)))) (blkOk_by (N := N_cut_of) (sc := defScope (topS 25)) (by decide +kernel)) (gin_name (by decide)) (fun _ _ _ _ _ => (rg_name (i := 7) sc_cut_of.nd)) (fun _ _ _ _ _ => rts_nil) (fun _ _ _ _ _ => (re_ix (K := K) (rv 1) (rv 7))))) ra_nil))))
  (rss_one (rs_for PassesOwn.never (ri_tup (K := K) (rv 5)) (rg_name (i := 7) sc_cut_of.nd) (rss_one (rs_setL (i := 4) (rv 6) (rv 7)))))))
  (rss_freeze 4 (rss_one (rs_set (i := 1) sc_cut_of.nd (RE.toX (re_cty (c_tuple (K := K)) B.tuple_ boot_tuple (ra_cons (rv 4) ra_nil))))))))))))⟩) hT

theorem sc_turned : FnScope ["row", "height"] ["row"] (defScope (topS 26)) := ⟨rfl, rfl, rfl, by decide +kernel, rfl, by decide +kernel, by decide +kernel⟩
theorem ok_turned {f : Addr} {fd : FuncData} {k : Nat} {Fp  : FT} (F : Fun K "turned" "turned" (topS 26) f fd) (B : Bl mg) 
  (hT : ∀ (W : Wc) (ds : List D) (Q : D → Prop), ds.length = 1 → Fp W ds Q → T_turned  W { nx := fun _ => Q .non, rt := Q } (startD N_turned ds)) : FnOk P w K mg base CX0 (k + 1) f fd ["row"] (spD 1 Fp) :=
  fn_ok F sc_turned rfl (fun cdv A outer s H E hr W => ⟨_,
  (rss_one (rs_ret (re_cty (c_tuple (K := K)) B.tuple_ boot_tuple (ra_cons (RL.toE (rl_lc (own := [("height", 1)]) sc_turned.nd (ri_tup (K := K) (rv 0)) (blkOk_by (N := N_turned) (sc := defScope (topS 26)) (by decide +kernel)) (gin_name (by decide)) (fun _ _ _ _ _ => (rg_name (i := 1) sc_turned.nd)) (fun _ _ _ _ _ => rts_nil) (fun _ _ _ _ _ => (re_neg (rv 1))))) ra_nil))))⟩) hT

theorem sc_fill_of : FnScope ["near", "row", "size"] ["near", "row", "size"] (defScope (topS 27)) := ⟨rfl, rfl, rfl, by decide +kernel, rfl, by decide +kernel, by decide +kernel⟩
theorem ok_fill_of {f : Addr} {fd : FuncData} {k : Nat} {Fp F_turned F_cut_of : FT} (F : Fun K "fill_of" "fill_of" (topS 27) f fd) (B : Bl mg) (c_turned : Cal P w K mg base k "turned" ["row"] 1 F_turned) (c_cut_of : Cal P w K mg base k "cut_of" ["near", "row", "size"] 3 F_cut_of)
  (hT : ∀ (W : Wc) (ds : List D) (Q : D → Prop), ds.length = 3 → Fp W ds Q → T_fill_of F_turned F_cut_of W { nx := fun _ => Q .non, rt := Q } (startD N_fill_of ds)) : FnOk P w K mg base CX0 (k + 1) f fd ["near", "row", "size"] (spD 3 Fp) :=
  fn_ok F sc_fill_of rfl (fun cdv A outer s H E hr W => ⟨_,
  (rss_one (rs_ret (re_callC c_turned hr (ra_cons (re_callC c_cut_of hr (ra_cons (rv 0) (ra_cons (re_callC c_turned hr (ra_cons (rv 1) ra_nil)) (ra_cons (rv 2) ra_nil)))) ra_nil))))⟩) hT

theorem sc_worst_of : FnScope ["near", "row", "size", "told", "gaps", "one", "other"] ["near", "row", "size"] (defScope (topS 29)) := ⟨rfl, rfl, rfl, by decide +kernel, rfl, by decide +kernel, by decide +kernel⟩
theorem ok_worst_of {f : Addr} {fd : FuncData} {k : Nat} {Fp F_cut_of : FT} (F : Fun K "worst_of" "worst_of" (topS 29) f fd) (B : Bl mg) (c_cut_of : Cal P w K mg base k "cut_of" ["near", "row", "size"] 3 F_cut_of)
  (hT : ∀ (W : Wc) (ds : List D) (Q : D → Prop), ds.length = 3 → Fp W ds Q → T_worst_of F_cut_of W { nx := fun _ => Q .non, rt := Q } (startD N_worst_of ds)) : FnOk P w K mg base CX0 (k + 1) f fd ["near", "row", "size"] (spD 3 Fp) :=
  fn_ok F sc_worst_of rfl (fun cdv A outer s H E hr W => ⟨_,
  (rss_cons (rs_set (i := 3) sc_worst_of.nd (RE.toX (re_callC c_cut_of hr (ra_cons (rv 0) (ra_cons (rv 1) (ra_cons (rv 2) ra_nil))))))
  (rss_cons (rs_setLc (i := 4) (own := [("one", 5), ("other", 6)]) sc_worst_of.nd (ri_zipT (K := K) B.zip_ (ra_cons (rv 1) (ra_cons (rv 3) ra_nil))) (blkOk_by (N := N_worst_of) (sc := defScope (topS 29)) (by decide +kernel)) (gin_tup2 (by decide) (by decide)) (fun _ _ _ _ _ => (rg_tup2 (K := K) (RG.pe (W := W) (rg_name (i := 5) sc_worst_of.nd)) (RG.pe (W := W) (rg_name (i := 6) sc_worst_of.nd)))) (fun _ _ _ _ _ => rts_nil) (fun _ _ _ _ _ => (re_op o_sub (rv 5) (rv 6))))
  (rss_one (rs_ret (re_tup (ra_cons (re_cb (c_maxL (K := K)) B.max_ (by decide +kernel) (ra_cons (rv 4) ra_nil)) (ra_cons (re_index (K := K) (rv 4) (ra_cons (re_cb (c_maxL (K := K)) B.max_ (by decide +kernel) (ra_cons (rv 4) ra_nil)) ra_nil)) ra_nil)))))))⟩) hT

theorem sc_worst_point : FnScope ["net", "row", "size"] ["net", "row", "size"] (defScope (topS 30)) := ⟨rfl, rfl, rfl, by decide +kernel, rfl, by decide +kernel, by decide +kernel⟩
theorem ok_worst_point {f : Addr} {fd : FuncData} {k : Nat} {Fp F_need_both F_need_size F_worst_of F_near_of : FT} (F : Fun K "worst_point" "worst_point" (topS 30) f fd) (B : Bl mg) (c_need_both : Cal P w K mg base k "need_both" ["net", "row"] 2 F_need_both) (c_need_size : Cal P w K mg base k "need_size" ["net", "size"] 2 F_need_size) (c_worst_of : Cal P w K mg base k "worst_of" ["near", "row", "size"] 3 F_worst_of) (c_near_of : Cal P w K mg base k "near_of" ["net"] 1 F_near_of)
  (hT : ∀ (W : Wc) (ds : List D) (Q : D → Prop), ds.length = 3 → Fp W ds Q → T_worst_point F_need_both F_need_size F_worst_of F_near_of W { nx := fun _ => Q .non, rt := Q } (startD N_worst_point ds)) : FnOk P w K mg base CX0 (k + 1) f fd ["net", "row", "size"] (spD 3 Fp) :=
  fn_ok F sc_worst_point rfl (fun cdv A outer s H E hr W => ⟨_,
  (rss_cons (rs_expr (re_callC c_need_both hr (ra_cons (rv 0) (ra_cons (rv 1) ra_nil))))
  (rss_cons (rs_expr (re_callC c_need_size hr (ra_cons (rv 0) (ra_cons (rv 2) ra_nil))))
  (rss_one (rs_ret (re_callC c_worst_of hr (ra_cons (re_callC c_near_of hr (ra_cons (rv 0) ra_nil)) (ra_cons (rv 1) (ra_cons (rv 2) ra_nil))))))))⟩) hT

theorem sc_least_change : FnScope ["net", "row", "size"] ["net", "row", "size"] (defScope (topS 31)) := ⟨rfl, rfl, rfl, by decide +kernel, rfl, by decide +kernel, by decide +kernel⟩
theorem ok_least_change {f : Addr} {fd : FuncData} {k : Nat} {Fp F_need_both F_need_size F_worst_of F_near_of : FT} (F : Fun K "least_change" "least_change" (topS 31) f fd) (B : Bl mg) (c_need_both : Cal P w K mg base k "need_both" ["net", "row"] 2 F_need_both) (c_need_size : Cal P w K mg base k "need_size" ["net", "size"] 2 F_need_size) (c_worst_of : Cal P w K mg base k "worst_of" ["near", "row", "size"] 3 F_worst_of) (c_near_of : Cal P w K mg base k "near_of" ["net"] 1 F_near_of)
  (hT : ∀ (W : Wc) (ds : List D) (Q : D → Prop), ds.length = 3 → Fp W ds Q → T_least_change F_need_both F_need_size F_worst_of F_near_of W { nx := fun _ => Q .non, rt := Q } (startD N_least_change ds)) : FnOk P w K mg base CX0 (k + 1) f fd ["net", "row", "size"] (spD 3 Fp) :=
  fn_ok F sc_least_change rfl (fun cdv A outer s H E hr W => ⟨_,
  (rss_cons (rs_expr (re_callC c_need_both hr (ra_cons (rv 0) (ra_cons (rv 1) ra_nil))))
  (rss_cons (rs_expr (re_callC c_need_size hr (ra_cons (rv 0) (ra_cons (rv 2) ra_nil))))
  (rss_one (rs_ret (re_op o_div (re_op o_add (re_ix (K := K) (re_callC c_worst_of hr (ra_cons (re_callC c_near_of hr (ra_cons (rv 0) ra_nil)) (ra_cons (rv 1) (ra_cons (rv 2) ra_nil)))) re_int) re_int) re_int)))))⟩) hT

theorem sc_near_row : FnScope ["net", "row", "size", "near", "step", "height"] ["net", "row", "size"] (defScope (topS 32)) := ⟨rfl, rfl, rfl, by decide +kernel, rfl, by decide +kernel, by decide +kernel⟩
theorem ok_near_row {f : Addr} {fd : FuncData} {k : Nat} {Fp F_need_both F_need_size F_near_of F_worst_of F_cut_of : FT} (F : Fun K "near_row" "near_row" (topS 32) f fd) (B : Bl mg) (c_need_both : Cal P w K mg base k "need_both" ["net", "row"] 2 F_need_both) (c_need_size : Cal P w K mg base k "need_size" ["net", "size"] 2 F_need_size) (c_near_of : Cal P w K mg base k "near_of" ["net"] 1 F_near_of) (c_worst_of : Cal P w K mg base k "worst_of" ["near", "row", "size"] 3 F_worst_of) (c_cut_of : Cal P w K mg base k "cut_of" ["near", "row", "size"] 3 F_cut_of)
  (hT : ∀ (W : Wc) (ds : List D) (Q : D → Prop), ds.length = 3 → Fp W ds Q → T_near_row F_need_both F_need_size F_near_of F_worst_of F_cut_of W { nx := fun _ => Q .non, rt := Q } (startD N_near_row ds)) : FnOk P w K mg base CX0 (k + 1) f fd ["net", "row", "size"] (spD 3 Fp) :=
  fn_ok F sc_near_row rfl (fun cdv A outer s H E hr W => ⟨_,
  (rss_cons (rs_expr (re_callC c_need_both hr (ra_cons (rv 0) (ra_cons (rv 1) ra_nil))))
  (rss_cons (rs_expr (re_callC c_need_size hr (ra_cons (rv 0) (ra_cons (rv 2) ra_nil))))
  (rss_cons (rs_set (i := 3) sc_near_row.nd (RE.toX (re_callC c_near_of hr (ra_cons (rv 0) ra_nil))))
  (rss_cons (rs_set (i := 4) sc_near_row.nd (RE.toX (re_op o_div (re_ix (K := K) (re_callC c_worst_of hr (ra_cons (rv 3) (ra_cons (rv 1) (ra_cons (rv 2) ra_nil)))) re_int) re_int)))
  (rss_one (rs_ret (re_cty (c_tuple (K := K)) B.tuple_ boot_tuple (ra_cons (RL.toE (rl_lc (own := [("height", 5)]) sc_near_row.nd (ri_tup (K := K) (re_callC c_cut_of hr (ra_cons (rv 3) (ra_cons (rv 1) (ra_cons (rv 2) ra_nil))))) (blkOk_by (N := N_near_row) (sc := defScope (topS 32)) (by decide +kernel)) (gin_name (by decide)) (fun _ _ _ _ _ => (rg_name (i := 5) sc_near_row.nd)) (fun _ _ _ _ _ => rts_nil) (fun _ _ _ _ _ => (re_cb c_min2 B.min_ (by decide +kernel) (ra_cons (re_globE rfl B.most_height) (ra_cons (re_op o_add (rv 5) (rv 4)) ra_nil)))))) ra_nil))))))))⟩) hT

theorem sc_shows_near : FnScope ["net", "row", "size", "value", "most", "near", "many", "told", "one", "other"] ["net", "row", "size", "value"] (defScope (topS 33)) := ⟨rfl, rfl, rfl, by decide +kernel, rfl, by decide +kernel, by decide +kernel⟩
theorem ok_shows_near {f : Addr} {fd : FuncData} {k : Nat} {Fp F_need_both F_need_size F_near_of F_tuple_of F_within F_worst_of F_bumps_of : FT} (F : Fun K "shows_near" "shows_near" (topS 33) f fd) (B : Bl mg) (c_need_both : Cal P w K mg base k "need_both" ["net", "row"] 2 F_need_both) (c_need_size : Cal P w K mg base k "need_size" ["net", "size"] 2 F_need_size) (c_near_of : Cal P w K mg base k "near_of" ["net"] 1 F_near_of) (c_tuple_of : Cal P w K mg base k "tuple_of" ["value", "low", "high"] 3 F_tuple_of) (c_within : Cal P w K mg base k "within" ["value", "low", "high"] 3 F_within) (c_worst_of : Cal P w K mg base k "worst_of" ["near", "row", "size"] 3 F_worst_of) (c_bumps_of : Cal P w K mg base k "bumps_of" ["near", "row", "size"] 3 F_bumps_of)
  (hT : ∀ (W : Wc) (ds : List D) (Q : D → Prop), ds.length = 4 → Fp W ds Q → T_shows_near F_need_both F_need_size F_near_of F_tuple_of F_within F_worst_of F_bumps_of W { nx := fun _ => Q .non, rt := Q } (startD N_shows_near ds)) : FnOk P w K mg base CX0 (k + 1) f fd ["net", "row", "size", "value"] (spD 4 Fp) :=
  fn_ok F sc_shows_near rfl (fun cdv A outer s H E hr W => ⟨_,
  (rss_cons (rs_expr (re_callC c_need_both hr (ra_cons (rv 0) (ra_cons (rv 1) ra_nil))))
  (rss_cons (rs_expr (re_callC c_need_size hr (ra_cons (rv 0) (ra_cons (rv 2) ra_nil))))
  (rss_cons (rs_par (i := 5) (j := 6) sc_shows_near.nd (RE.toX (re_callC c_near_of hr (ra_cons (rv 0) ra_nil))) (RE.toX (re_ix (K := K) (rv 0) re_int)))
  (rss_cons (rs_if (RW'.toT (rw_or (rt_not (rt_val (re_callC c_tuple_of hr (ra_cons (rv 3) (ra_cons (rv 6) (ra_cons (rv 6) ra_nil)))))) (rw_or1 (rt_not (rt_val (re_cb (c_all (K := K)) B.all_ (by decide +kernel) (ra_cons (RL.toE (rl_lc (own := [("told", 7)]) sc_shows_near.nd (ri_tup (K := K) (rv 3)) (blkOk_by (N := N_shows_near) (sc := defScope (topS 33)) (by decide +kernel)) (gin_name (by decide)) (fun _ _ _ _ _ => (rg_name (i := 7) sc_shows_near.nd)) (fun _ _ _ _ _ => rts_nil) (fun _ _ _ _ _ => (re_callC c_within hr (ra_cons (rv 7) (ra_cons (re_neg (re_globE rfl B.most_height)) (ra_cons (re_globE rfl B.most_height) ra_nil))))))) ra_nil))))))) (rss_one (rs_ret re_bl)) rss_nil)
  (rss_cons (rs_set (i := 4) sc_shows_near.nd (RE.toX (re_op o_div (re_op o_add (re_ix (K := K) (re_callC c_worst_of hr (ra_cons (rv 5) (ra_cons (rv 1) (ra_cons (rv 2) ra_nil)))) re_int) re_int) re_int)))
  (rss_one (rs_ret (re_and (re_cmp (o_eqN (K := K) hr.units) (re_callC c_bumps_of hr (ra_cons (rv 5) (ra_cons (rv 3) (ra_cons (rv 2) ra_nil)))) (RL.toE (rl_lst ra_nil))) (re_one (re_cb (c_all (K := K)) B.all_ (by decide +kernel) (ra_cons (RL.toE (rl_lc (own := [("one", 8), ("other", 9)]) sc_shows_near.nd (ri_zipT (K := K) B.zip_ (ra_cons (rv 1) (ra_cons (rv 3) ra_nil))) (blkOk_by (N := N_shows_near) (sc := defScope (topS 33)) (by decide +kernel)) (gin_tup2 (by decide) (by decide)) (fun _ _ _ _ _ => (rg_tup2 (K := K) (RG.pe (W := W) (rg_name (i := 8) sc_shows_near.nd)) (RG.pe (W := W) (rg_name (i := 9) sc_shows_near.nd)))) (fun _ _ _ _ _ => rts_nil) (fun _ _ _ _ _ => (re_cmp o_le (re_cb c_abs B.abs_ (by decide +kernel) (ra_cons (re_op o_sub (rv 8) (rv 9)) ra_nil)) (rv 4))))) ra_nil)))))))))))⟩) hT

theorem sc_higher : FnScope ["net", "one", "other", "pair"] ["net", "one", "other"] (defScope (topS 34)) := ⟨rfl, rfl, rfl, by decide +kernel, rfl, by decide +kernel, by decide +kernel⟩
theorem ok_higher {f : Addr} {fd : FuncData} {k : Nat} {Fp F_need_both F_need_row : FT} (F : Fun K "higher" "higher" (topS 34) f fd) (B : Bl mg) (c_need_both : Cal P w K mg base k "need_both" ["net", "row"] 2 F_need_both) (c_need_row : Cal P w K mg base k "need_row" ["net", "row"] 2 F_need_row)
  (hT : ∀ (W : Wc) (ds : List D) (Q : D → Prop), ds.length = 3 → Fp W ds Q → T_higher F_need_both F_need_row W { nx := fun _ => Q .non, rt := Q } (startD N_higher ds)) : FnOk P w K mg base CX0 (k + 1) f fd ["net", "one", "other"] (spD 3 Fp) :=
  fn_ok F sc_higher rfl (fun cdv A outer s H E hr W => ⟨_,
  (rss_cons (rs_expr (re_callC c_need_both hr (ra_cons (rv 0) (ra_cons (rv 1) ra_nil))))
  (rss_cons (rs_expr (re_callC c_need_row hr (ra_cons (rv 0) (ra_cons (rv 2) ra_nil))))
  (rss_one (rs_ret (re_cty (c_tuple (K := K)) B.tuple_ boot_tuple (ra_cons (RL.toE (rl_lc (own := [("pair", 3)]) sc_higher.nd (ri_zipN (K := K) B.zip_ (ra_cons (rv 1) (ra_cons (rv 2) ra_nil))) (blkOk_by (N := N_higher) (sc := defScope (topS 34)) (by decide +kernel)) (gin_name (by decide)) (fun _ _ _ _ _ => (rg_name (i := 3) sc_higher.nd)) (fun _ _ _ _ _ => rts_nil) (fun _ _ _ _ _ => (re_cb (c_maxP (K := K) hr.units) B.max_ (by decide +kernel) (ra_cons (rv 3) ra_nil))))) ra_nil))))))⟩) hT

theorem sc_lower : FnScope ["net", "one", "other", "pair"] ["net", "one", "other"] (defScope (topS 35)) := ⟨rfl, rfl, rfl, by decide +kernel, rfl, by decide +kernel, by decide +kernel⟩
theorem ok_lower {f : Addr} {fd : FuncData} {k : Nat} {Fp F_need_both F_need_row : FT} (F : Fun K "lower" "lower" (topS 35) f fd) (B : Bl mg) (c_need_both : Cal P w K mg base k "need_both" ["net", "row"] 2 F_need_both) (c_need_row : Cal P w K mg base k "need_row" ["net", "row"] 2 F_need_row)
  (hT : ∀ (W : Wc) (ds : List D) (Q : D → Prop), ds.length = 3 → Fp W ds Q → T_lower F_need_both F_need_row W { nx := fun _ => Q .non, rt := Q } (startD N_lower ds)) : FnOk P w K mg base CX0 (k + 1) f fd ["net", "one", "other"] (spD 3 Fp) :=
  fn_ok F sc_lower rfl (fun cdv A outer s H E hr W => ⟨_,
  (rss_cons (rs_expr (re_callC c_need_both hr (ra_cons (rv 0) (ra_cons (rv 1) ra_nil))))
  (rss_cons (rs_expr (re_callC c_need_row hr (ra_cons (rv 0) (ra_cons (rv 2) ra_nil))))
  (rss_one (rs_ret (re_cty (c_tuple (K := K)) B.tuple_ boot_tuple (ra_cons (RL.toE (rl_lc (own := [("pair", 3)]) sc_lower.nd (ri_zipN (K := K) B.zip_ (ra_cons (rv 1) (ra_cons (rv 2) ra_nil))) (blkOk_by (N := N_lower) (sc := defScope (topS 35)) (by decide +kernel)) (gin_name (by decide)) (fun _ _ _ _ _ => (rg_name (i := 3) sc_lower.nd)) (fun _ _ _ _ _ => rts_nil) (fun _ _ _ _ _ => (re_cb (c_minP (K := K) hr.units) B.min_ (by decide +kernel) (ra_cons (rv 3) ra_nil))))) ra_nil))))))⟩) hT

theorem sc_apart : FnScope ["net", "one", "other", "first", "second"] ["net", "one", "other"] (defScope (topS 36)) := ⟨rfl, rfl, rfl, by decide +kernel, rfl, by decide +kernel, by decide +kernel⟩
theorem ok_apart {f : Addr} {fd : FuncData} {k : Nat} {Fp F_need_both F_need_row : FT} (F : Fun K "apart" "apart" (topS 36) f fd) (B : Bl mg) (c_need_both : Cal P w K mg base k "need_both" ["net", "row"] 2 F_need_both) (c_need_row : Cal P w K mg base k "need_row" ["net", "row"] 2 F_need_row)
  (hT : ∀ (W : Wc) (ds : List D) (Q : D → Prop), ds.length = 3 → Fp W ds Q → T_apart F_need_both F_need_row W { nx := fun _ => Q .non, rt := Q } (startD N_apart ds)) : FnOk P w K mg base CX0 (k + 1) f fd ["net", "one", "other"] (spD 3 Fp) :=
  fn_ok F sc_apart rfl (fun cdv A outer s H E hr W => ⟨_,
  (rss_cons (rs_expr (re_callC c_need_both hr (ra_cons (rv 0) (ra_cons (rv 1) ra_nil))))
  (rss_cons (rs_expr (re_callC c_need_row hr (ra_cons (rv 0) (ra_cons (rv 2) ra_nil))))
  (rss_one (rs_ret (re_cb (c_maxL (K := K)) B.max_ (by decide +kernel) (ra_cons (RL.toE (rl_lc (own := [("first", 3), ("second", 4)]) sc_apart.nd (ri_zipT (K := K) B.zip_ (ra_cons (rv 1) (ra_cons (rv 2) ra_nil))) (blkOk_by (N := N_apart) (sc := defScope (topS 36)) (by decide +kernel)) (gin_tup2 (by decide) (by decide)) (fun _ _ _ _ _ => (rg_tup2 (K := K) (RG.pe (W := W) (rg_name (i := 3) sc_apart.nd)) (RG.pe (W := W) (rg_name (i := 4) sc_apart.nd)))) (fun _ _ _ _ _ => rts_nil) (fun _ _ _ _ _ => (re_cb c_abs B.abs_ (by decide +kernel) (ra_cons (re_op o_sub (rv 3) (rv 4)) ra_nil))))) ra_nil))))))⟩) hT

theorem sc_between_cuts : FnScope ["net", "row", "size", "near"] ["net", "row", "size"] (defScope (topS 37)) := ⟨rfl, rfl, rfl, by decide +kernel, rfl, by decide +kernel, by decide +kernel⟩
theorem ok_between_cuts {f : Addr} {fd : FuncData} {k : Nat} {Fp F_need_both F_need_size F_near_of F_cut_of F_fill_of : FT} (F : Fun K "between_cuts" "between_cuts" (topS 37) f fd) (B : Bl mg) (c_need_both : Cal P w K mg base k "need_both" ["net", "row"] 2 F_need_both) (c_need_size : Cal P w K mg base k "need_size" ["net", "size"] 2 F_need_size) (c_near_of : Cal P w K mg base k "near_of" ["net"] 1 F_near_of) (c_cut_of : Cal P w K mg base k "cut_of" ["near", "row", "size"] 3 F_cut_of) (c_fill_of : Cal P w K mg base k "fill_of" ["near", "row", "size"] 3 F_fill_of)
  (hT : ∀ (W : Wc) (ds : List D) (Q : D → Prop), ds.length = 3 → Fp W ds Q → T_between_cuts F_need_both F_need_size F_near_of F_cut_of F_fill_of W { nx := fun _ => Q .non, rt := Q } (startD N_between_cuts ds)) : FnOk P w K mg base CX0 (k + 1) f fd ["net", "row", "size"] (spD 3 Fp) :=
  fn_ok F sc_between_cuts rfl (fun cdv A outer s H E hr W => ⟨_,
  (rss_cons (rs_expr (re_callC c_need_both hr (ra_cons (rv 0) (ra_cons (rv 1) ra_nil))))
  (rss_cons (rs_expr (re_callC c_need_size hr (ra_cons (rv 0) (ra_cons (rv 2) ra_nil))))
  (rss_cons (rs_set (i := 3) sc_between_cuts.nd (RE.toX (re_callC c_near_of hr (ra_cons (rv 0) ra_nil))))
  (rss_one (rs_ret (re_tup (ra_cons (re_callC c_cut_of hr (ra_cons (rv 3) (ra_cons (rv 1) (ra_cons (rv 2) ra_nil)))) (ra_cons (re_callC c_fill_of hr (ra_cons (rv 3) (ra_cons (rv 1) (ra_cons (rv 2) ra_nil)))) ra_nil))))))))⟩) hT

theorem sc__law_net : FnScope ["_law_row", "_law_most", "_law_point", "_law_turn", "_law_many", "_law_joins", "_law_other", "_law_one"] ["_law_row", "_law_most"] (defScope (topS 40)) := ⟨rfl, rfl, rfl, by decide +kernel, rfl, by decide +kernel, by decide +kernel⟩
theorem ok__law_net {f : Addr} {fd : FuncData} {k : Nat} {Fp F__law_taken : FT} (F : Fun K "_law_net" "_law_net" (topS 40) f fd) (B : Bl mg) (c__law_taken : Cal P w K mg base k "_law_taken" ["_law_row", "_law_many"] 2 F__law_taken)
  (hT : ∀ (W : Wc) (ds : List D) (Q : D → Prop), ds.length = 2 → Fp W ds Q → T__law_net F__law_taken W { nx := fun _ => Q .non, rt := Q } (startD N__law_net ds)) : FnOk P w K mg base CX0 (k + 1) f fd ["_law_row", "_law_most"] (spD 2 Fp) :=
  fn_ok F sc__law_net rfl (fun cdv A outer s H E hr W => ⟨_,
  (rss_cons (rs_par (i := 4) (j := 5) sc__law_net.nd (RE.toX (re_op o_add re_int (re_callC c__law_taken hr (ra_cons (rv 0) (ra_cons (rv 1) ra_nil))))) rx_newT)
  (rss_cons (rs_for PassesOwn.never (ri_r2 B.range_ (ra_cons re_int (ra_cons (rv 4) ra_nil))) (rg_name (i := 2) sc__law_net.nd) (rss_one (rs_if (rt_cmp o_gt (re_callC c__law_taken hr (ra_cons (rv 0) (ra_cons re_int ra_nil))) re_int) (rss_cons (rs_set (i := 6) sc__law_net.nd (RE.toX (re_ifExp (rt_cmp o_eq (re_callC c__law_taken hr (ra_cons (rv 0) (ra_cons re_int ra_nil))) re_int) (re_op o_sub (rv 2) re_int) (re_callC c__law_taken hr (ra_cons (rv 0) (ra_cons (rv 2) ra_nil))))))
  (rss_one (rs_putT (i := 5) (hu_of hr) re_bl (re_tup (ra_cons (rv 6) (ra_cons (rv 2) ra_nil)))))) rss_nil)))
  (rss_cons (rs_for PassesOwn.never (ri_r1 B.range_ (ra_cons (re_ifExp (rt_cmp o_gt (rv 4) re_int) (re_callC c__law_taken hr (ra_cons (rv 0) (ra_cons (rv 4) ra_nil))) re_int) ra_nil)) (rg_name (i := 3) sc__law_net.nd) (rss_cons (rs_par (i := 7) (j := 6) sc__law_net.nd (RE.toX (re_callC c__law_taken hr (ra_cons (rv 0) (ra_cons (rv 4) ra_nil)))) (RE.toX (re_callC c__law_taken hr (ra_cons (rv 0) (ra_cons (rv 4) ra_nil)))))
  (rss_one (rs_if (rt_cmp o_ne (rv 7) (rv 6)) (rss_one (rs_putT (i := 5) (hu_of hr) re_bl (re_tup (ra_cons (re_cb c_min2 B.min_ (by decide +kernel) (ra_cons (rv 7) (ra_cons (rv 6) ra_nil))) (ra_cons (re_cb c_max2 B.max_ (by decide +kernel) (ra_cons (rv 7) (ra_cons (rv 6) ra_nil))) ra_nil))))) rss_nil))))
  (rss_freeze 5 (rss_one (rs_ret (re_tup (ra_cons (rv 4) (ra_cons (re_cty (c_tuple (K := K)) B.tuple_ boot_tuple (ra_cons (RL.toE (rl_cb (c_sortDT hr.units) B.sorted_ (by decide +kernel) (ra_cons (rv 5) ra_nil))) ra_nil)) ra_nil)))))))))⟩) hT

theorem sc__law_rows : FnScope ["_law_many", "_law_most", "_law_found", "_law_point", "_law_longer", "_law_told", "_law_height"] ["_law_many", "_law_most"] (defScope (topS 41)) := ⟨rfl, rfl, rfl, by decide +kernel, rfl, by decide +kernel, by decide +kernel⟩
theorem ok__law_rows {f : Addr} {fd : FuncData} {k : Nat} {Fp  : FT} (F : Fun K "_law_rows" "_law_rows" (topS 41) f fd) (B : Bl mg) 
  (hT : ∀ (W : Wc) (ds : List D) (Q : D → Prop), ds.length = 2 → Fp W ds Q → T__law_rows  W { nx := fun _ => Q .non, rt := Q } (startD N__law_rows ds)) : FnOk P w K mg base CX0 (k + 1) f fd ["_law_many", "_law_most"] (spD 2 Fp) :=
  fn_ok F sc__law_rows rfl (fun cdv A outer s H E hr W => ⟨_,
  (rss_cons (rs_set (i := 2) sc__law_rows.nd (RE.toX (RL.toE (rl_lst (ra_cons (re_tup ra_nil) ra_nil)))))
  (rss_cons (rs_for PassesOwn.never (ri_r1 B.range_ (ra_cons (rv 0) ra_nil)) (rg_name (i := 3) sc__law_rows.nd) (rss_cons (rs_set (i := 4) sc__law_rows.nd (RE.toX (RL.toE (rl_lst ra_nil))))
  (rss_cons (rs_for PassesOwn.never (ri_lst (K := K) (rv 2)) (rg_name (i := 5) sc__law_rows.nd) (rss_one (rs_set (i := 4) sc__law_rows.nd (RE.toX (RL.toE (rl_cat (rv 4) (RL.toE (rl_lc (own := [("_law_height", 6)]) sc__law_rows.nd (ri_r1 B.range_ (ra_cons (re_op o_add (rv 1) re_int) ra_nil)) (blkOk_by (N := N__law_rows) (sc := defScope (topS 41)) (by decide +kernel)) (gin_name (by decide)) (fun _ _ _ _ _ => (rg_name (i := 6) sc__law_rows.nd)) (fun _ _ _ _ _ => rts_nil) (fun _ _ _ _ _ => (re_op (o_catT (K := K)) (rv 5) (re_tup (ra_cons (rv 6) ra_nil))))))))))))
  (rss_one (rs_set (i := 2) sc__law_rows.nd (RE.toX (rv 4)))))))
  (rss_one (rs_ret (rv 2)))))⟩) hT

theorem sc__law_part : FnScope ["_law_near_here", "_law_kept", "_law_start", "_law_turn", "_law_found", "_law_edge", "_law_here", "_law_fresh", "_law_point"] ["_law_near_here", "_law_kept", "_law_start"] (defScope (topS 43)) := ⟨rfl, rfl, rfl, by decide +kernel, rfl, by decide +kernel, by decide +kernel⟩
theorem ok__law_part {f : Addr} {fd : FuncData} {k : Nat} {Fp  : FT} (F : Fun K "_law_part" "_law_part" (topS 43) f fd) (B : Bl mg) 
  (hT : ∀ (W : Wc) (ds : List D) (Q : D → Prop), ds.length = 3 → Fp W ds Q → T__law_part  W { nx := fun _ => Q .non, rt := Q } (startD N__law_part ds)) : FnOk P w K mg base CX0 (k + 1) f fd ["_law_near_here", "_law_kept", "_law_start"] (spD 3 Fp) :=
  fn_ok F sc__law_part rfl (fun cdv A outer s H E hr W => ⟨_,
  (rss_cons (rs_parT (i := 4) (j := 5) sc__law_part.nd (RE.toX (RL.toE (rl_lst (ra_cons (rv 2) ra_nil)))) (RL.toX (rl_lst (ra_cons (rv 2) ra_nil))))
  (rss_cons (rs_for PassesOwn.never (ri_r1 B.range_ (ra_cons re_int ra_nil)) (rg_name (i := 3) sc__law_part.nd) (rss_cons (rs_if (rt_eqM (i := 5) hr.units) (rss_one rs_break) rss_nil)
  (rss_cons (rs_pop (i := 5) (j := 6) sc__law_part.nd)
  (rss_cons (rs_setLc (i := 7) (own := [("_law_point", 8)]) sc__law_part.nd (ri_lst (K := K) (re_ix (K := K) (rv 0) (rv 6))) (blkOk_by (N := N__law_part) (sc := defScope (topS 43)) (by decide +kernel)) (gin_name (by decide)) (fun _ _ _ _ _ => (rg_name (i := 8) sc__law_part.nd)) (fun _ _ _ _ _ => (rts_one (RW'.toT (rw_and (rt_cmp (o_in (K := K)) (rv 8) (rv 1)) (rw_and1 (rt_cmp (o_notIn (K := K)) (rv 8) (rv 4))))))) (fun _ _ _ _ _ => (rv 8)))
  (rss_one (rs_parT (i := 4) (j := 5) sc__law_part.nd (RE.toX (RL.toE (rl_cat (rv 4) (rv 7)))) (RL.toX (rl_catM (i := 5) (rv 7)))))))))
  (rss_one (rs_ret (re_cty (c_tuple (K := K)) B.tuple_ boot_tuple (ra_cons (RL.toE (rl_cb (c_sort (K := K)) B.sorted_ (by decide +kernel) (ra_cons (rv 4) ra_nil))) ra_nil))))))⟩) hT

theorem sc__law_parts : FnScope ["_law_near_here", "_law_kept", "_law_point", "_law_found", "_law_done", "_law_part_here"] ["_law_near_here", "_law_kept"] (defScope (topS 44)) := ⟨rfl, rfl, rfl, by decide +kernel, rfl, by decide +kernel, by decide +kernel⟩
theorem ok__law_parts {f : Addr} {fd : FuncData} {k : Nat} {Fp F__law_part : FT} (F : Fun K "_law_parts" "_law_parts" (topS 44) f fd) (B : Bl mg) (c__law_part : Cal P w K mg base k "_law_part" ["_law_near_here", "_law_kept", "_law_start"] 3 F__law_part)
  (hT : ∀ (W : Wc) (ds : List D) (Q : D → Prop), ds.length = 2 → Fp W ds Q → T__law_parts F__law_part W { nx := fun _ => Q .non, rt := Q } (startD N__law_parts ds)) : FnOk P w K mg base CX0 (k + 1) f fd ["_law_near_here", "_law_kept"] (spD 2 Fp) :=
  fn_ok F sc__law_parts rfl (fun cdv A outer s H E hr W => ⟨_,
  (rss_cons (rs_par (i := 3) (j := 4) sc__law_parts.nd (RE.toX (RL.toE (rl_lst ra_nil))) (RE.toX (RL.toE (rl_lst ra_nil))))
  (rss_cons (rs_for PassesOwn.never (ri_lst (K := K) (RL.toE (rl_cb (c_sort (K := K)) B.sorted_ (by decide +kernel) (ra_cons (rv 1) ra_nil)))) (rg_name (i := 2) sc__law_parts.nd) (rss_one (rs_if (rt_cmp (o_notIn (K := K)) (rv 2) (rv 4)) (rss_cons (rs_set (i := 5) sc__law_parts.nd (RE.toX (re_callC c__law_part hr (ra_cons (rv 0) (ra_cons (rv 1) (ra_cons (rv 2) ra_nil))))))
  (rss_one (rs_par (i := 3) (j := 4) sc__law_parts.nd (RE.toX (RL.toE (rl_cat (rv 3) (RL.toE (rl_lst (ra_cons (rv 5) ra_nil)))))) (RE.toX (RL.toE (rl_cat (rv 4) (RL.toE (rl_cty (c_list (K := K)) B.list_ boot_list (ra_cons (rv 5) ra_nil))))))))) rss_nil)))
  (rss_one (rs_ret (rv 3)))))⟩) hT

theorem sc__law_flats : FnScope ["_law_net_here", "_law_heights_here", "_law_height", "_law_near_here", "_law_found", "_law_point"] ["_law_net_here", "_law_heights_here"] (defScope (topS 45)) := ⟨rfl, rfl, rfl, by decide +kernel, rfl, by decide +kernel, by decide +kernel⟩
theorem ok__law_flats {f : Addr} {fd : FuncData} {k : Nat} {Fp F__law_near F__law_parts : FT} (F : Fun K "_law_flats" "_law_flats" (topS 45) f fd) (B : Bl mg) (c__law_near : Cal P w K mg base k "_law_near" ["_law_net_here"] 1 F__law_near) (c__law_parts : Cal P w K mg base k "_law_parts" ["_law_near_here", "_law_kept"] 2 F__law_parts)
  (hT : ∀ (W : Wc) (ds : List D) (Q : D → Prop), ds.length = 2 → Fp W ds Q → T__law_flats F__law_near F__law_parts W { nx := fun _ => Q .non, rt := Q } (startD N__law_flats ds)) : FnOk P w K mg base CX0 (k + 1) f fd ["_law_net_here", "_law_heights_here"] (spD 2 Fp) :=
  fn_ok F sc__law_flats rfl (fun cdv A outer s H E hr W => ⟨_,
  (rss_cons (rs_par (i := 3) (j := 4) sc__law_flats.nd (RE.toX (re_callC c__law_near hr (ra_cons (rv 0) ra_nil))) (RE.toX (RL.toE (rl_lst ra_nil))))
  (rss_cons (rs_for PassesOwn.never (ri_lst (K := K) (RL.toE (rl_sortSet B.sorted_ B.set_ (rv 1)))) (rg_name (i := 2) sc__law_flats.nd) (rss_one (rs_set (i := 4) sc__law_flats.nd (RE.toX (RL.toE (rl_cat (rv 4) (re_callC c__law_parts hr (ra_cons (rv 3) (ra_cons (RL.toE (rl_lc (own := [("_law_point", 5)]) sc__law_flats.nd (ri_r1 B.range_ (ra_cons (re_ix (K := K) (rv 0) re_int) ra_nil)) (blkOk_by (N := N__law_flats) (sc := defScope (topS 45)) (by decide +kernel)) (gin_name (by decide)) (fun _ _ _ _ _ => (rg_name (i := 5) sc__law_flats.nd)) (fun _ _ _ _ _ => (rts_one (rt_cmp o_eq (re_ix (K := K) (rv 1) (rv 5)) (rv 2)))) (fun _ _ _ _ _ => (rv 5)))) ra_nil)))))))))
  (rss_one (rs_ret (RL.toE (rl_cb (c_sortTs hr.units) B.sorted_ (by decide +kernel) (ra_cons (rv 4) ra_nil)))))))⟩) hT

theorem sc__law_rim : FnScope ["_law_near_here", "_law_points", "_law_found", "_law_here", "_law_point"] ["_law_near_here", "_law_points"] (defScope (topS 46)) := ⟨rfl, rfl, rfl, by decide +kernel, rfl, by decide +kernel, by decide +kernel⟩
theorem ok__law_rim {f : Addr} {fd : FuncData} {k : Nat} {Fp  : FT} (F : Fun K "_law_rim" "_law_rim" (topS 46) f fd) (B : Bl mg) 
  (hT : ∀ (W : Wc) (ds : List D) (Q : D → Prop), ds.length = 2 → Fp W ds Q → T__law_rim  W { nx := fun _ => Q .non, rt := Q } (startD N__law_rim ds)) : FnOk P w K mg base CX0 (k + 1) f fd ["_law_near_here", "_law_points"] (spD 2 Fp) :=
  fn_ok F sc__law_rim rfl (fun cdv A outer s H E hr W => ⟨_,
  (rss_cons (rs_set (i := 2) sc__law_rim.nd (RE.toX (RL.toE (rl_lst ra_nil))))
  (rss_cons (rs_for PassesOwn.never (ri_tup (K := K) (rv 1)) (rg_name (i := 3) sc__law_rim.nd) (rss_one (rs_set (i := 2) sc__law_rim.nd (RE.toX (RL.toE (rl_cat (rv 2) (RL.toE (rl_lc (own := [("_law_point", 4)]) sc__law_rim.nd (ri_lst (K := K) (re_ix (K := K) (rv 0) (rv 3))) (blkOk_by (N := N__law_rim) (sc := defScope (topS 46)) (by decide +kernel)) (gin_name (by decide)) (fun _ _ _ _ _ => (rg_name (i := 4) sc__law_rim.nd)) (fun _ _ _ _ _ => (rts_one (rt_cmp (o_notIn (K := K)) (rv 4) (rv 1)))) (fun _ _ _ _ _ => (rv 4))))))))))
  (rss_one (rs_ret (RL.toE (rl_sortSet B.sorted_ B.set_ (rv 2)))))))⟩) hT

theorem sc__law_bumps : FnScope ["_law_net_here", "_law_heights_here", "_law_size", "_law_flat", "_law_near_here", "_law_found", "_law_around", "_law_point"] ["_law_net_here", "_law_heights_here", "_law_size"] (defScope (topS 47)) := ⟨rfl, rfl, rfl, by decide +kernel, rfl, by decide +kernel, by decide +kernel⟩
theorem ok__law_bumps {f : Addr} {fd : FuncData} {k : Nat} {Fp F__law_near F__law_flats F__law_rim : FT} (F : Fun K "_law_bumps" "_law_bumps" (topS 47) f fd) (B : Bl mg) (c__law_near : Cal P w K mg base k "_law_near" ["_law_net_here"] 1 F__law_near) (c__law_flats : Cal P w K mg base k "_law_flats" ["_law_net_here", "_law_heights_here"] 2 F__law_flats) (c__law_rim : Cal P w K mg base k "_law_rim" ["_law_near_here", "_law_points"] 2 F__law_rim)
  (hT : ∀ (W : Wc) (ds : List D) (Q : D → Prop), ds.length = 3 → Fp W ds Q → T__law_bumps F__law_near F__law_flats F__law_rim W { nx := fun _ => Q .non, rt := Q } (startD N__law_bumps ds)) : FnOk P w K mg base CX0 (k + 1) f fd ["_law_net_here", "_law_heights_here", "_law_size"] (spD 3 Fp) :=
  fn_ok F sc__law_bumps rfl (fun cdv A outer s H E hr W => ⟨_,
  (rss_cons (rs_par (i := 4) (j := 5) sc__law_bumps.nd (RE.toX (re_callC c__law_near hr (ra_cons (rv 0) ra_nil))) (RL.toX (rl_lst ra_nil)))
  (rss_cons (rs_for PassesOwn.never (ri_lst (K := K) (re_callC c__law_flats hr (ra_cons (rv 0) (ra_cons (rv 1) ra_nil)))) (rg_name (i := 3) sc__law_bumps.nd) (rss_cons (rs_setLc (i := 6) (own := [("_law_point", 7)]) sc__law_bumps.nd (ri_lst (K := K) (re_callC c__law_rim hr (ra_cons (rv 4) (ra_cons (rv 3) ra_nil)))) (blkOk_by (N := N__law_bumps) (sc := defScope (topS 47)) (by decide +kernel)) (gin_name (by decide)) (fun _ _ _ _ _ => (rg_name (i := 7) sc__law_bumps.nd)) (fun _ _ _ _ _ => rts_nil) (fun _ _ _ _ _ => (re_ix (K := K) (rv 1) (rv 7))))
  (rss_one (rs_if (RW'.toT (rw_and (rt_cmp o_le (re_len (K := K) B.len_ (ra_cons (rv 3) ra_nil)) (rv 2)) (rw_and (rt_cmp (o_neN (K := K) hr.units) (rv 6) (RL.toE (rl_lst ra_nil))) (rw_and1 (rt_cmp o_lt (re_cb (c_maxL (K := K)) B.max_ (by decide +kernel) (ra_cons (rv 6) ra_nil)) (re_ix (K := K) (rv 1) (re_ix (K := K) (rv 3) re_int))))))) (rss_one (rs_app (i := 5) (rv 3))) rss_nil))))
  (rss_freeze 5 (rss_one (rs_ret (rv 5))))))⟩) hT

theorem sc__law_alike : FnScope ["_law_found", "_law_due", "_law_k"] ["_law_found", "_law_due"] (defScope (topS 48)) := ⟨rfl, rfl, rfl, by decide +kernel, rfl, by decide +kernel, by decide +kernel⟩
theorem ok__law_alike {f : Addr} {fd : FuncData} {k : Nat} {Fp F__law_alike : FT} (F : Fun K "_law_alike" "_law_alike" (topS 48) f fd) (B : Bl mg) (c__law_alike : Cal P w K mg base k "_law_alike" ["_law_found", "_law_due"] 2 F__law_alike)
  (hT : ∀ (W : Wc) (ds : List D) (Q : D → Prop), ds.length = 2 → Fp W ds Q → T__law_alike F__law_alike W { nx := fun _ => Q .non, rt := Q } (startD N__law_alike ds)) : FnOk P w K mg base CX0 (k + 1) f fd ["_law_found", "_law_due"] (spD 2 Fp) :=
  fn_ok F sc__law_alike rfl (fun cdv A outer s H E hr W => ⟨_,
  (rss_cons (rs_if (rt_val (re_isi (K := K) B.isinstance_ (ra_cons (rv 1) (ra_cons (re_tup (ra_cons (re_bty B.tuple_ boot_tuple) (ra_cons (re_bty B.list_ boot_list) ra_nil))) ra_nil)))) (rss_cons (rs_if (RW'.toT (rw_or (rt_not (rt_val (re_isi (K := K) B.isinstance_ (ra_cons (rv 0) (ra_cons (re_tup (ra_cons (re_bty B.tuple_ boot_tuple) (ra_cons (re_bty B.list_ boot_list) ra_nil))) ra_nil))))) (rw_or1 (rt_cmp o_ne (re_isi (K := K) B.isinstance_ (ra_cons (rv 0) (ra_cons (re_bty B.list_ boot_list) ra_nil))) (re_isi (K := K) B.isinstance_ (ra_cons (rv 1) (ra_cons (re_bty B.list_ boot_list) ra_nil))))))) (rss_one (rs_ret re_bl)) rss_nil)
  (rss_cons (rs_if (rt_cmp o_ne (re_len (K := K) B.len_ (ra_cons (rv 0) ra_nil)) (re_len (K := K) B.len_ (ra_cons (rv 1) ra_nil))) (rss_one (rs_ret re_bl)) rss_nil)
  (rss_one (rs_ret (re_cmp (o_eqN (K := K) hr.units) (RL.toE (rl_lc (own := [("_law_k", 2)]) sc__law_alike.nd (ri_r1 B.range_ (ra_cons (re_len (K := K) B.len_ (ra_cons (rv 1) ra_nil)) ra_nil)) (blkOk_by (N := N__law_alike) (sc := defScope (topS 48)) (by decide +kernel)) (gin_name (by decide)) (fun _ _ _ _ _ => (rg_name (i := 2) sc__law_alike.nd)) (fun _ _ _ _ _ => (rts_one (rt_not (rt_val (re_callC c__law_alike hr (ra_cons (re_ix (K := K) (rv 0) (rv 2)) (ra_cons (re_ix (K := K) (rv 1) (rv 2)) ra_nil))))))) (fun _ _ _ _ _ => (rv 2)))) (RL.toE (rl_lst ra_nil))))))) rss_nil)
  (rss_cons (rs_if (RW'.toT (rw_or (rt_cmp o_isN (rv 1) re_non) (rw_or1 (rt_val (re_isi (K := K) B.isinstance_ (ra_cons (rv 1) (ra_cons (re_bty B.str_ boot_str) ra_nil))))))) (rss_one (rs_ret (re_and (re_cmp o_eq (rv 0) (rv 1)) (re_one (re_cmp o_eq (re_isi (K := K) B.isinstance_ (ra_cons (rv 0) (ra_cons (re_bty B.str_ boot_str) ra_nil))) (re_isi (K := K) B.isinstance_ (ra_cons (rv 1) (ra_cons (re_bty B.str_ boot_str) ra_nil)))))))) rss_nil)
  (rss_one (rs_ret (re_and (re_isi (K := K) B.isinstance_ (ra_cons (rv 0) (ra_cons (re_bty B.int_ boot_int) ra_nil))) (re_and (re_cmp o_eq (re_isi (K := K) B.isinstance_ (ra_cons (rv 0) (ra_cons (re_bty B.bool_ boot_bool) ra_nil))) (re_isi (K := K) B.isinstance_ (ra_cons (rv 1) (ra_cons (re_bty B.bool_ boot_bool) ra_nil)))) (re_one (re_cmp o_eq (rv 0) (rv 1)))))))))⟩) hT

theorem sc__law_cut : FnScope ["_law_net_here", "_law_heights_here", "_law_size", "_law_point", "_law_near_here", "_law_found", "_law_circle", "_law_best", "_law_level", "_law_kept", "_law_other"] ["_law_net_here", "_law_heights_here", "_law_size"] (defScope (topS 49)) := ⟨rfl, rfl, rfl, by decide +kernel, rfl, by decide +kernel, by decide +kernel⟩
theorem ok__law_cut {f : Addr} {fd : FuncData} {k : Nat} {Fp F__law_near F__law_part : FT} (F : Fun K "_law_cut" "_law_cut" (topS 49) f fd) (B : Bl mg) (c__law_near : Cal P w K mg base k "_law_near" ["_law_net_here"] 1 F__law_near) (c__law_part : Cal P w K mg base k "_law_part" ["_law_near_here", "_law_kept", "_law_start"] 3 F__law_part)
  (hT : ∀ (W : Wc) (ds : List D) (Q : D → Prop), ds.length = 3 → Fp W ds Q → T__law_cut F__law_near F__law_part W { nx := fun _ => Q .non, rt := Q } (startD N__law_cut ds)) : FnOk P w K mg base CX0 (k + 1) f fd ["_law_net_here", "_law_heights_here", "_law_size"] (spD 3 Fp) :=
  fn_ok F sc__law_cut rfl (fun cdv A outer s H E hr W => ⟨_,
  (rss_cons (rs_par (i := 4) (j := 5) sc__law_cut.nd (RE.toX (re_callC c__law_near hr (ra_cons (rv 0) ra_nil))) (RL.toX (rl_lst ra_nil)))
  (rss_cons (rs_for PassesOwn.never (ri_r1 B.range_ (ra_cons (re_ix (K := K) (rv 0) re_int) ra_nil)) (rg_name (i := 3) sc__law_cut.nd) (rss_cons (rs_set (i := 6) sc__law_cut.nd (RE.toX (re_callC c__law_part hr (ra_cons (rv 4) (ra_cons (RL.toE (rl_listRg B.list_ B.range_ (re_ix (K := K) (rv 0) re_int))) (ra_cons (rv 3) ra_nil))))))
  (rss_cons (rs_set (i := 7) sc__law_cut.nd (RE.toX (re_cb (c_minL (K := K)) B.min_ (by decide +kernel) (ra_cons (RL.toE (rl_lc (own := [("_law_other", 10)]) sc__law_cut.nd (ri_tup (K := K) (rv 6)) (blkOk_by (N := N__law_cut) (sc := defScope (topS 49)) (by decide +kernel)) (gin_name (by decide)) (fun _ _ _ _ _ => (rg_name (i := 10) sc__law_cut.nd)) (fun _ _ _ _ _ => rts_nil) (fun _ _ _ _ _ => (re_ix (K := K) (rv 1) (rv 10))))) ra_nil))))
  (rss_cons (rs_for PassesOwn.never (ri_lst (K := K) (RL.toE (rl_sortSet B.sorted_ B.set_ (rv 1)))) (rg_name (i := 8) sc__law_cut.nd) (rss_cons (rs_setLc (i := 9) (own := [("_law_other", 10)]) sc__law_cut.nd (ri_tup (K := K) (rv 6)) (blkOk_by (N := N__law_cut) (sc := defScope (topS 49)) (by decide +kernel)) (gin_name (by decide)) (fun _ _ _ _ _ => (rg_name (i := 10) sc__law_cut.nd)) (fun _ _ _ _ _ => (rts_one (rt_cmp o_ge (re_ix (K := K) (rv 1) (rv 10)) (rv 8)))) (fun _ _ _ _ _ => (rv 10)))
  (rss_one (rs_if (RW'.toT (rw_and (rt_cmp (o_in (K := K)) (rv 3) (rv 9)) (rw_and1 (rt_cmp o_gt (re_len (K := K) B.len_ (ra_cons (re_callC c__law_part hr (ra_cons (rv 4) (ra_cons (rv 9) (ra_cons (rv 3) ra_nil)))) ra_nil)) (rv 2))))) (rss_one (rs_set (i := 7) sc__law_cut.nd (RE.toX (re_cb c_max2 B.max_ (by decide +kernel) (ra_cons (rv 7) (ra_cons (rv 8) ra_nil)))))) rss_nil))))
  (rss_one (rs_app (i := 5) (rv 7)))))))
  (rss_freeze 5 (rss_one (rs_ret (re_cty (c_tuple (K := K)) B.tuple_ boot_tuple (ra_cons (rv 5) ra_nil)))))))⟩) hT

theorem sc__law_down : FnScope ["_law_heights_here", "_law_height"] ["_law_heights_here"] (defScope (topS 50)) := ⟨rfl, rfl, rfl, by decide +kernel, rfl, by decide +kernel, by decide +kernel⟩
theorem ok__law_down {f : Addr} {fd : FuncData} {k : Nat} {Fp  : FT} (F : Fun K "_law_down" "_law_down" (topS 50) f fd) (B : Bl mg) 
  (hT : ∀ (W : Wc) (ds : List D) (Q : D → Prop), ds.length = 1 → Fp W ds Q → T__law_down  W { nx := fun _ => Q .non, rt := Q } (startD N__law_down ds)) : FnOk P w K mg base CX0 (k + 1) f fd ["_law_heights_here"] (spD 1 Fp) :=
  fn_ok F sc__law_down rfl (fun cdv A outer s H E hr W => ⟨_,
  (rss_one (rs_ret (re_cty (c_tuple (K := K)) B.tuple_ boot_tuple (ra_cons (RL.toE (rl_lc (own := [("_law_height", 1)]) sc__law_down.nd (ri_tup (K := K) (rv 0)) (blkOk_by (N := N__law_down) (sc := defScope (topS 50)) (by decide +kernel)) (gin_name (by decide)) (fun _ _ _ _ _ => (rg_name (i := 1) sc__law_down.nd)) (fun _ _ _ _ _ => rts_nil) (fun _ _ _ _ _ => (re_op o_sub re_int (rv 1))))) ra_nil))))⟩) hT

theorem sc__law_fill : FnScope ["_law_net_here", "_law_heights_here", "_law_size"] ["_law_net_here", "_law_heights_here", "_law_size"] (defScope (topS 51)) := ⟨rfl, rfl, rfl, by decide +kernel, rfl, by decide +kernel, by decide +kernel⟩
theorem ok__law_fill {f : Addr} {fd : FuncData} {k : Nat} {Fp F__law_down F__law_cut : FT} (F : Fun K "_law_fill" "_law_fill" (topS 51) f fd) (B : Bl mg) (c__law_down : Cal P w K mg base k "_law_down" ["_law_heights_here"] 1 F__law_down) (c__law_cut : Cal P w K mg base k "_law_cut" ["_law_net_here", "_law_heights_here", "_law_size"] 3 F__law_cut)
  (hT : ∀ (W : Wc) (ds : List D) (Q : D → Prop), ds.length = 3 → Fp W ds Q → T__law_fill F__law_down F__law_cut W { nx := fun _ => Q .non, rt := Q } (startD N__law_fill ds)) : FnOk P w K mg base CX0 (k + 1) f fd ["_law_net_here", "_law_heights_here", "_law_size"] (spD 3 Fp) :=
  fn_ok F sc__law_fill rfl (fun cdv A outer s H E hr W => ⟨_,
  (rss_one (rs_ret (re_callC c__law_down hr (ra_cons (re_callC c__law_cut hr (ra_cons (rv 0) (ra_cons (re_callC c__law_down hr (ra_cons (rv 1) ra_nil)) (ra_cons (rv 2) ra_nil)))) ra_nil))))⟩) hT

theorem sc__law_pick : FnScope ["_law_row", "_law_things"] ["_law_row", "_law_things"] (defScope (topS 52)) := ⟨rfl, rfl, rfl, by decide +kernel, rfl, by decide +kernel, by decide +kernel⟩
theorem ok__law_pick {f : Addr} {fd : FuncData} {k : Nat} {Fp F__law_taken : FT} (F : Fun K "_law_pick" "_law_pick" (topS 52) f fd) (B : Bl mg) (c__law_taken : Cal P w K mg base k "_law_taken" ["_law_row", "_law_many"] 2 F__law_taken)
  (hT : ∀ (W : Wc) (ds : List D) (Q : D → Prop), ds.length = 2 → Fp W ds Q → T__law_pick F__law_taken W { nx := fun _ => Q .non, rt := Q } (startD N__law_pick ds)) : FnOk P w K mg base CX0 (k + 1) f fd ["_law_row", "_law_things"] (spD 2 Fp) :=
  fn_ok F sc__law_pick rfl (fun cdv A outer s H E hr W => ⟨_,
  (rss_one (rs_ret (re_ix (K := K) (rv 1) (re_callC c__law_taken hr (ra_cons (rv 0) (ra_cons (re_len (K := K) B.len_ (ra_cons (rv 1) ra_nil)) ra_nil))))))⟩) hT

theorem sc__law_heights : FnScope ["_law_row", "_law_many", "_law_top", "_law_lift", "_law_point"] ["_law_row", "_law_many", "_law_top"] (defScope (topS 53)) := ⟨rfl, rfl, rfl, by decide +kernel, rfl, by decide +kernel, by decide +kernel⟩
theorem ok__law_heights {f : Addr} {fd : FuncData} {k : Nat} {Fp F__law_pick F__law_taken : FT} (F : Fun K "_law_heights" "_law_heights" (topS 53) f fd) (B : Bl mg) (c__law_pick : Cal P w K mg base k "_law_pick" ["_law_row", "_law_things"] 2 F__law_pick) (c__law_taken : Cal P w K mg base k "_law_taken" ["_law_row", "_law_many"] 2 F__law_taken)
  (hT : ∀ (W : Wc) (ds : List D) (Q : D → Prop), ds.length = 3 → Fp W ds Q → T__law_heights F__law_pick F__law_taken W { nx := fun _ => Q .non, rt := Q } (startD N__law_heights ds)) : FnOk P w K mg base CX0 (k + 1) f fd ["_law_row", "_law_many", "_law_top"] (spD 3 Fp) :=
  fn_ok F sc__law_heights rfl (fun cdv A outer s H E hr W => ⟨_,
  (rss_cons (rs_set (i := 3) sc__law_heights.nd (RE.toX (re_callC c__law_pick hr (ra_cons (rv 0) (ra_cons (RL.toE (rl_lst (ra_cons re_int (ra_cons re_int (ra_cons (re_op o_sub re_int (re_op o_div (rv 2) re_int)) ra_nil))))) ra_nil)))))
  (rss_one (rs_ret (re_cty (c_tuple (K := K)) B.tuple_ boot_tuple (ra_cons (RL.toE (rl_lc (own := [("_law_point", 4)]) sc__law_heights.nd (ri_r1 B.range_ (ra_cons (rv 1) ra_nil)) (blkOk_by (N := N__law_heights) (sc := defScope (topS 53)) (by decide +kernel)) (gin_name (by decide)) (fun _ _ _ _ _ => (rg_name (i := 4) sc__law_heights.nd)) (fun _ _ _ _ _ => rts_nil) (fun _ _ _ _ _ => (re_op o_add (re_callC c__law_taken hr (ra_cons (rv 0) (ra_cons (re_op o_add (rv 2) re_int) ra_nil))) (rv 3))))) ra_nil)))))⟩) hT
end
section
variable {P : Program} {w : World} {K : PySem.W.Frag} {mg : Str → Option Value} {base : Heap}
abbrev N_near_of : List Str := ["net", "found", "one", "other", "point", "points"]
theorem sc_near_of : FnScope ["net", "found", "one", "other", "point", "points"] ["net"] (defScope (topS 17)) := ⟨rfl, rfl, rfl, by decide +kernel, rfl, by decide +kernel, by decide +kernel⟩
theorem ok_near_of {f : Addr} {fd : FuncData} {k : Nat} {Fp : FT} (F : Fun K "near_of" "near_of" (topS 17) f fd) (B : Bl mg)
  (hT : ∀ (W : Wc) (ds : List D) (Q : D → Prop), ds.length = 1 → Fp W ds Q → T_near { nx := fun _ => Q .non, rt := Q } (startD N_near_of ds)) : FnOk P w K mg base CX0 (k + 1) f fd ["net"] (spD 1 Fp) :=
  fn_ok (T := fun _ => T_near) F sc_near_of rfl (fun cdv A outer s H E hr W => ⟨_, rss_near (own := [("point", 4)]) PassesOwn.never sc_near_of.nd (ri_r1 B.range_ (ra_cons (re_ix (K := K) (rv 0) re_int) ra_nil)) (blkOk_by (N := N_near_of) (sc := defScope (topS 17)) (by decide +kernel)) rfl (fun _ _ _ _ _ => (rg_name (i := 4) sc_near_of.nd)) (ri_tup (K := K) (re_ix (K := K) (rv 0) re_int)) (rg_tup2 (K := K) (RG.pe (W := W) (rg_name (i := 2) sc_near_of.nd)) (RG.pe (W := W) (rg_name (i := 3) sc_near_of.nd)))
    (ps_expr (pe_bm PySem.F.plainAttrs_list PySem.F.slot_list_append PySem.F.type_list_append mt_append (pe_ix (ix_list.or ix_tup) (RE.pe (W := W) (rv 1)) (RE.pe (W := W) (rv 2)) (by exact fun _ _ => rfl)) (pa_cons (RE.pe (W := W) (rv 3)) pa_nil))) (ps_expr (pe_bm PySem.F.plainAttrs_list PySem.F.slot_list_append PySem.F.type_list_append mt_append (pe_ix (ix_list.or ix_tup) (RE.pe (W := W) (rv 1)) (RE.pe (W := W) (rv 3)) (by exact fun _ _ => rfl)) (pa_cons (RE.pe (W := W) (rv 2)) pa_nil))) (rs_ret (RL.toE (rl_lc (own := [("points", 5)]) sc_near_of.nd (ri_lst (K := K) (rv 1)) (blkOk_by (N := N_near_of) (sc := defScope (topS 17)) (by decide +kernel)) (gin_name (by decide)) (fun _ _ _ _ _ => (rg_name (i := 5) sc_near_of.nd)) (fun _ _ _ _ _ => rts_nil) (fun _ _ _ _ _ => (RL.toE (rl_cb (c_sort (K := K)) B.sorted_ (by decide +kernel) (ra_cons (rv 5) ra_nil)))))))⟩) hT
abbrev N__law_near : List Str := ["_law_net_here", "_law_found", "_law_one", "_law_other", "_law_point", "_law_points"]
theorem sc__law_near : FnScope ["_law_net_here", "_law_found", "_law_one", "_law_other", "_law_point", "_law_points"] ["_law_net_here"] (defScope (topS 42)) := ⟨rfl, rfl, rfl, by decide +kernel, rfl, by decide +kernel, by decide +kernel⟩
theorem ok__law_near {f : Addr} {fd : FuncData} {k : Nat} {Fp : FT} (F : Fun K "_law_near" "_law_near" (topS 42) f fd) (B : Bl mg)
  (hT : ∀ (W : Wc) (ds : List D) (Q : D → Prop), ds.length = 1 → Fp W ds Q → T_near { nx := fun _ => Q .non, rt := Q } (startD N__law_near ds)) : FnOk P w K mg base CX0 (k + 1) f fd ["_law_net_here"] (spD 1 Fp) :=
  fn_ok (T := fun _ => T_near) F sc__law_near rfl (fun cdv A outer s H E hr W => ⟨_, rss_near (own := [("_law_point", 4)]) PassesOwn.never sc__law_near.nd (ri_r1 B.range_ (ra_cons (re_ix (K := K) (rv 0) re_int) ra_nil)) (blkOk_by (N := N__law_near) (sc := defScope (topS 42)) (by decide +kernel)) rfl (fun _ _ _ _ _ => (rg_name (i := 4) sc__law_near.nd)) (ri_tup (K := K) (re_ix (K := K) (rv 0) re_int)) (rg_tup2 (K := K) (RG.pe (W := W) (rg_name (i := 2) sc__law_near.nd)) (RG.pe (W := W) (rg_name (i := 3) sc__law_near.nd)))
    (ps_expr (pe_bm PySem.F.plainAttrs_list PySem.F.slot_list_append PySem.F.type_list_append mt_append (pe_ix (ix_list.or ix_tup) (RE.pe (W := W) (rv 1)) (RE.pe (W := W) (rv 2)) (by exact fun _ _ => rfl)) (pa_cons (RE.pe (W := W) (rv 3)) pa_nil))) (ps_expr (pe_bm PySem.F.plainAttrs_list PySem.F.slot_list_append PySem.F.type_list_append mt_append (pe_ix (ix_list.or ix_tup) (RE.pe (W := W) (rv 1)) (RE.pe (W := W) (rv 3)) (by exact fun _ _ => rfl)) (pa_cons (RE.pe (W := W) (rv 2)) pa_nil))) (rs_ret (RL.toE (rl_lc (own := [("_law_points", 5)]) sc__law_near.nd (ri_lst (K := K) (rv 1)) (blkOk_by (N := N__law_near) (sc := defScope (topS 42)) (by decide +kernel)) (gin_name (by decide)) (fun _ _ _ _ _ => (rg_name (i := 5) sc__law_near.nd)) (fun _ _ _ _ _ => rts_nil) (fun _ _ _ _ _ => (RL.toE (rl_cb (c_sort (K := K)) B.sorted_ (by decide +kernel) (ra_cons (rv 5) ra_nil)))))))⟩) hT
end
section
variable {P : Program} {w : World} {K : PySem.W.Frag} {mg : Str → Option Value} {base : Heap}
theorem sc__law_taken : FnScope ["_law_row", "_law_many", "_law_cell", "_law_found"] ["_law_row", "_law_many"] (defScope (topS 39)) := ⟨rfl, rfl, rfl, by decide +kernel, rfl, by decide +kernel, by decide +kernel⟩
theorem ok__law_taken {f : Addr} {fd : FuncData} {k : Nat} (F : Fun K "_law_taken" "_law_taken" (topS 39) f fd) (B : Bl mg) : FnOk P w K mg base CX0 (k + 1) f fd ["_law_row", "_law_many"] (spD 2 (FpTaken K)) := by
  refine F.ok sc__law_taken (fun vs H Q E h => ?_) (fun cdv A outer s H vs Q E hr h => ?_)
  · obtain ⟨W, S, ds, Qd, _, _, _, r, e, _⟩ := h
    rw [r.length, e]
    rfl
  · obtain ⟨W, S, ds, Qd, ok, sub, wat, r, e, ⟨scr, row, ns, b, rfl, hne, hns, n, rfl, n0, n1, q⟩, kk⟩ := h
    obtain ⟨v1, v2, rfl, r1, r2⟩ := r.two
    cases r1
    cases r2.of_int
    have fin : ∀ H' r, Gr (Wrow K scr row ns b) S H S H' → 0 ≤ r → r < n → Q (.int r) H' := fun H' r g h0 h1 => kk (.int r) (.int r) S H' g (.int r) (q r h0 h1)
    refine ⟨_, pss_cons (ps_if (pt_cmpR op_gt (pe_ix ix_list (pv 0) pe_int (fun _ _ => rfl)) pe_int (nomark _)) (pss_cons (ps_set (i := 3) sc__law_taken.nd rfl (.inl rfl) (pe_op op_mod (pe_callTy call_int1 (by rfl) B.int_ boot_int (pa_cons (pe_ix ix_list (pv 0) pe_int (fun _ _ => rfl)) pa_nil)) (pv 1))) (pss_cons (ps_asg (pe_op op_fdiv (pe_ix ix_list (pv 0) pe_int (fun _ _ => rfl)) (pv 1)) (pg_sub (pv 0) pe_int set_list (by intro _; rfl))) (pss_one (ps_ret (pv 3))))) pss_nil)
      (pss_cons (ps_asg (pe_op op_add (pe_ix ix_list (pv 0) pe_int (fun _ _ => rfl)) pe_int) (pg_sub (pv 0) pe_int set_list (by intro _; rfl)))
      (pss_cons (ps_if (pt_cmpR op_gt (pe_ix ix_list (pv 0) pe_int (fun _ _ => rfl)) (pe_callB call_len_seq (by rfl) B.len_ boot_len (pa_cons (pe_ix ix_list (pv 0) pe_int (fun _ _ => rfl)) pa_nil)) (nomark _)) (pss_cons (ps_asg (pe_op op_mod (pe_callTy call_int1 (by rfl) B.int_ boot_int (pa_cons (pe_op op_add (pe_op op_mul (pe_ix ix_list (pv 0) pe_int (fun _ _ => rfl)) pe_int) pe_int) pa_nil)) pe_int) (pg_sub (pv 0) pe_int set_list (by intro _; rfl))) (pss_one (ps_ret (pe_op op_mod (pe_callTy call_int1 (by rfl) B.int_ boot_int (pa_cons (pe_op op_fdiv (pe_ix ix_list (pv 0) pe_int (fun _ _ => rfl)) pe_int) pa_nil)) (pv 1))))) pss_nil)
      (pss_cons (ps_set (i := 2) sc__law_taken.nd rfl (.inl rfl) (pe_ix ix_list (pe_ix ix_list (pv 0) pe_int (fun _ _ => rfl)) (pe_op op_sub (pe_ix ix_list (pv 0) pe_int (fun _ _ => rfl)) pe_int) (fun _ _ => rfl)))
      (pss_cons (ps_asg (pe_op op_mod (pe_callTy call_int1 (by rfl) B.int_ boot_int (pa_cons (pe_op op_add (pe_op op_add (pe_op op_mul (pe_ix ix_list (pv 0) pe_int (fun _ _ => rfl)) pe_int) (pv 2)) pe_int) pa_nil)) pe_int) (pg_sub (pv 0) pe_int set_list (by intro _; rfl)))
      (pss_cons (ps_if (pt_cmpR op_ge (pv 2) (pe_op op_pow pe_int pe_int) (nomark _)) (pss_one (ps_asg (pe_op op_fdiv (pv 2) (pv 1)) (pg_sub (pv 0) pe_int set_list (by intro _; rfl)))) pss_nil) (pss_one (ps_ret (pe_op op_mod (pe_callTy call_int1 (by rfl) B.int_ boot_int (pa_cons (pv 2) pa_nil)) (pv 1))))))))), ?_⟩
    have sq : SqL K H scr (ns.map V.int) := Wrow.seq ok
    have nS : S row = none := wat row (.inl rfl)
    obtain ⟨⟨i, t, u, i0, hrow⟩, o2, o3⟩ := id ok
    have e3 : ∀ {i t u : Int}, atI (rowV scr i t u) 3 = some (.int u) := atI_nat (j := 3) rfl
    have e2 : ∀ {i t u : Int}, atI (rowV scr i t u) 2 = some (.int t) := atI_nat (j := 2) rfl
    have e1 : ∀ {i t u : Int}, atI (rowV scr i t u) 1 = some (.int i) := atI_nat (j := 1) rfl
    have e0 : ∀ {i t u : Int}, atI (rowV scr i t u) 0 = some (.ref scr) := atI_nat (j := 0) rfl
    have x3 : ∀ {i t u : Int}, ixN (rowV scr i t u).length 3 = some 3 := rfl
    have x2 : ∀ {i t u : Int}, ixN (rowV scr i t u).length 2 = some 2 := rfl
    have x1 : ∀ {i t u : Int}, ixN (rowV scr i t u).length 1 = some 1 := rfl
    have g1 : ∀ {j t u : Int}, 0 ≤ j → Gr (Wrow K scr row ns b) S H S (upd H row (.lst (rowV scr j t u))) := fun h => Wrow.put hne ok sub nS h
    have uu : ∀ {x y : HO}, upd (upd H row x) row y = upd H row y := fun {x y} => by
      funext a
      by_cases e : a = row
      · rw [e, upd_same, upd_same]
      · rw [upd_ne e, upd_ne e, upd_ne e]
    have m0 : ∀ x : Int, 0 ≤ x % n := fun x => Int.emod_nonneg x (by omega)
    have m1 : ∀ x : Int, x % n < n := fun x => Int.emod_lt_of_pos x n0
    have cd : ∀ x : Int, CDiv x n := fun _ => ⟨n0, by omega⟩
    refine ⟨.ref row, rfl, row, rowV scr i t u, 3, .int u, rfl, rfl, SqL.of hrow, e3, u, 0, rfl, rfl, _, rfl, ite2 (fun _ => ?_) (fun _ => ?_)⟩
    · refine ⟨.ref row, rfl, row, rowV scr i t u, 3, .int u, rfl, rfl, SqL.of hrow, e3, .inl ⟨u, rfl, .int n, rfl, u, n, rfl, rfl, n0, ?_⟩⟩
      refine ⟨.ref row, rfl, row, rowV scr i t u, 3, .int u, rfl, rfl, SqL.of hrow, e3, .int n, rfl, u, n, rfl, rfl, cd u, ?_⟩
      refine ⟨.ref row, rfl, row, rowV scr i t u, 3, 3, rfl, rfl, hrow, x3, ?_⟩
      exact ⟨.int (u % n), rfl, fin _ _ (g1 i0) (m0 u) (m1 u)⟩
    · refine ⟨.ref row, rfl, row, rowV scr i t u, 1, .int i, rfl, rfl, SqL.of hrow, e1, i, 1, rfl, rfl, ?_⟩
      refine ⟨.ref row, rfl, row, rowV scr i t u, 1, 1, rfl, rfl, hrow, x1, ?_⟩
      have h1 : upd H row (.lst ((rowV scr i t u).set 1 (.int (i + 1)))) row = some (.lst (rowV scr (i + 1) t u)) := upd_same
      have sq1 : SqL K (upd H row (.lst ((rowV scr i t u).set 1 (.int (i + 1))))) scr (ns.map V.int) := Wrow.seq (g1 (j := i + 1) (t := t) (u := u) (by omega)).ok
      refine ⟨.ref row, rfl, row, _, 1, .int (i + 1), rfl, rfl, SqL.of h1, e1, .ref row, rfl, row, _, 0, .ref scr, rfl, rfl, SqL.of h1, e0, scr, _, rfl, .inl sq1, _, _, rfl, rfl, _, rfl, ite2 (fun lt => ?_) (fun nlt => ?_)⟩
      · refine ⟨.ref row, rfl, row, _, 2, .int t, rfl, rfl, SqL.of h1, e2, t, 48271, rfl, rfl, .inr ⟨by decide, by decide⟩, _, 11, rfl, rfl, .inl ⟨_, rfl, _, 2147483647, rfl, rfl, (show (0 : Int) < 2147483647 by decide), ?_⟩⟩
        refine ⟨.ref row, rfl, row, rowV scr (i + 1) t u, 2, 2, rfl, rfl, h1, x2, ?_⟩
        refine ⟨.ref row, rfl, row, rowV scr (i + 1) _ u, 2, .int _, rfl, rfl, SqL.of upd_same, e2, _, 7, rfl, rfl, ⟨by decide, by decide⟩, .inl ⟨_, rfl, .int n, rfl, _, n, rfl, rfl, n0, ?_⟩⟩
        refine fin _ _ ?_ (m0 _) (m1 _)
        rw [uu]
        exact g1 (by omega)
      · obtain ⟨c, hc⟩ : ∃ c, atI (ns.map V.int) (i + 1 - 1) = some (.int c) := by
          have hl : ¬ ((ns.map V.int).length : Int) < i + 1 := fun z => nlt (decide_eq_true z)
          rw [List.length_map] at hl
          have hi : i.toNat < ns.length := by omega
          refine ⟨ns[i.toNat], ?_⟩
          rw [show i + 1 - 1 = ((i.toNat : Nat) : Int) by omega]
          exact atI_nat (by rw [List.getElem?_map, List.getElem?_eq_getElem hi]; rfl)
        refine ⟨.ref row, rfl, row, _, 0, .ref scr, rfl, rfl, SqL.of h1, e0, .ref row, rfl, row, _, 1, .int (i + 1), rfl, rfl, SqL.of h1, e1, i + 1, 1, rfl, rfl, scr, ns.map V.int, i + 1 - 1, .int c, rfl, rfl, sq1, hc, ?_⟩
        refine ⟨.ref row, rfl, row, _, 2, .int t, rfl, rfl, SqL.of h1, e2, t, 48271, rfl, rfl, .inr ⟨by decide, by decide⟩, .int c, rfl, _, c, rfl, rfl, _, 11, rfl, rfl, .inl ⟨_, rfl, _, 2147483647, rfl, rfl, (show (0 : Int) < 2147483647 by decide), ?_⟩⟩
        refine ⟨.ref row, rfl, row, rowV scr (i + 1) t u, 2, 2, rfl, rfl, h1, x2, ?_⟩
        refine ⟨.int c, rfl, 10, 18, rfl, rfl, ⟨by decide, by decide, by decide⟩, c, _, rfl, rfl, _, rfl, ite2 (fun _ => ?_) (fun _ => ?_)⟩
        · refine ⟨.int c, rfl, .int n, rfl, c, n, rfl, rfl, cd c, .ref row, rfl, row, rowV scr (i + 1) _ u, 3, 3, rfl, rfl, upd_same, x3, ?_⟩
          refine ⟨.int c, rfl, .inl ⟨c, rfl, .int n, rfl, c, n, rfl, rfl, n0, fin _ _ ?_ (m0 c) (m1 c)⟩⟩
          rw [uu, uu]
          exact g1 (by omega)
        · refine ⟨.int c, rfl, .inl ⟨c, rfl, .int n, rfl, c, n, rfl, rfl, n0, fin _ _ ?_ (m0 c) (m1 c)⟩⟩
          rw [uu]
          exact g1 (by omega)
end
section
variable {P : Program} {w : World} {K : PySem.W.Frag} {mg : Str → Option Value} {base : Heap}
theorem sc_law : FnScope ["_law_script", "_law_row", "_law_net_here", "_law_some", "_law_gaps", "_law_drops", "_law_other", "_law_values", "_law_odd", "_law_value", "_law_big", "_law_many", "_law_most", "_law_heights_here", "_law_size", "_law_low", "_law_high", "_law_found", "_law_at", "_law_good", "_law_tops", "_law_lows", "_law_told", "_law_point", "_law_spot", "_law_pair"] ["_law_script"] (defScope (topS 54)) := ⟨rfl, rfl, rfl, by decide +kernel, rfl, by decide +kernel, by decide +kernel⟩
def spLaw (K : PySem.W.Frag) : Sp := fun vs H Q _ => ∃ (a : Addr) (ns : List Int), vs = [.ref a] ∧ SqL K H a (ns.map V.int) ∧ ns.length ≤ 63 ∧ ∀ H', Q (.bl true) H'
theorem ok_law {f : Addr} {fd : FuncData} {k : Nat} {F__law_net F__law_taken F__law_rows F__law_bumps F__law_alike F_least_change F__law_cut F__law_fill F_between_cuts F_worst_point F_near_row F__law_pick F_shows_near F__law_heights F_higher F_lower F_apart : FT} (F : Fun K "law" "law" (topS 54) f fd) (B : Bl mg) (c__law_net : Cal P w K mg base k "_law_net" ["_law_row", "_law_most"] 2 F__law_net) (c__law_taken : Cal P w K mg base k "_law_taken" ["_law_row", "_law_many"] 2 F__law_taken) (c__law_rows : Cal P w K mg base k "_law_rows" ["_law_many", "_law_most"] 2 F__law_rows) (c__law_bumps : Cal P w K mg base k "_law_bumps" ["_law_net_here", "_law_heights_here", "_law_size"] 3 F__law_bumps) (c__law_alike : Cal P w K mg base k "_law_alike" ["_law_found", "_law_due"] 2 F__law_alike) (c_least_change : Cal P w K mg base k "least_change" ["net", "row", "size"] 3 F_least_change) (c__law_cut : Cal P w K mg base k "_law_cut" ["_law_net_here", "_law_heights_here", "_law_size"] 3 F__law_cut) (c__law_fill : Cal P w K mg base k "_law_fill" ["_law_net_here", "_law_heights_here", "_law_size"] 3 F__law_fill) (c_between_cuts : Cal P w K mg base k "between_cuts" ["net", "row", "size"] 3 F_between_cuts) (c_worst_point : Cal P w K mg base k "worst_point" ["net", "row", "size"] 3 F_worst_point) (c_near_row : Cal P w K mg base k "near_row" ["net", "row", "size"] 3 F_near_row) (c__law_pick : Cal P w K mg base k "_law_pick" ["_law_row", "_law_things"] 2 F__law_pick) (c_shows_near : Cal P w K mg base k "shows_near" ["net", "row", "size", "value"] 4 F_shows_near) (c__law_heights : Cal P w K mg base k "_law_heights" ["_law_row", "_law_many", "_law_top"] 3 F__law_heights) (c_higher : Cal P w K mg base k "higher" ["net", "one", "other"] 3 F_higher) (c_lower : Cal P w K mg base k "lower" ["net", "one", "other"] 3 F_lower) (c_apart : Cal P w K mg base k "apart" ["net", "one", "other"] 3 F_apart)
  (hT : ∀ (scr row : Addr) (ns : List Int) (b : Prop), (b → scr ≠ row) → ns.length ≤ 63 → T_law F__law_net F__law_taken F__law_rows F__law_bumps F__law_alike F_least_change F__law_cut F__law_fill F_between_cuts F_worst_point F_near_row F__law_pick F_shows_near F__law_heights F_higher F_lower F_apart (Wrow K scr row ns b) { nx := fun _ => False, rt := fun d => d = .bl true } ([Sl.im (.raw scr), .im (.raw row)] ++ List.replicate 24 .no)) : FnOk P w K mg base CX0 (k + 1) f fd ["_law_script"] (spLaw K) := by
  refine F.ok sc_law (fun vs H Q E h => ?_) (fun cdv A outer s H vs Q E hr h => ?_)
  · obtain ⟨a, ns, rfl, _⟩ := h
    rfl
  · obtain ⟨a, ns, rfl, hS, hl, q⟩ := h
    obtain ⟨t, ht⟩ : ∃ t, ∀ W, RSs (cxOf CX0 P w K mg base N_law "law" (defScope (topS 54)) f cdv A outer s H E).nox W (defBody (topS 54)).tail t (T_law F__law_net F__law_taken F__law_rows F__law_bumps F__law_alike F_least_change F__law_cut F__law_fill F_between_cuts F_worst_point F_near_row F__law_pick F_shows_near F__law_heights F_higher F_lower F_apart W) := ⟨_, fun W =>
      (rss_cons (rs_set (i := 2) sc_law.nd (RE.toX (re_callC c__law_net hr (ra_cons (rv 1) (ra_cons re_int ra_nil)))))
  (rss_cons (rs_asg (re_tup (ra_cons (re_ix (K := K) (rv 2) re_int) (ra_cons re_int ra_nil))) (rg_tup2 (K := K) (RG.pe (W := W) (rg_name (i := 11) sc_law.nd)) (RG.pe (W := W) (rg_name (i := 12) sc_law.nd))))
  (rss_cons (rs_asg (re_tup (ra_cons (re_cty (c_tuple (K := K)) B.tuple_ boot_tuple (ra_cons (RL.toE (rl_lc (own := [("_law_point", 23)]) sc_law.nd (ri_r1 B.range_ (ra_cons (rv 11) ra_nil)) (blkOk_by (N := N_law) (sc := defScope (topS 54)) (by decide +kernel)) (gin_name (by decide)) (fun _ _ _ _ _ => (rg_name (i := 23) sc_law.nd)) (fun _ _ _ _ _ => rts_nil) (fun _ _ _ _ _ => (re_callC c__law_taken hr (ra_cons (rv 1) (ra_cons (re_op o_add (rv 12) re_int) ra_nil)))))) ra_nil)) (ra_cons (re_callC c__law_taken hr (ra_cons (rv 1) (ra_cons (re_op o_add (rv 11) re_int) ra_nil))) ra_nil))) (rg_tup2 (K := K) (RG.pe (W := W) (rg_name (i := 13) sc_law.nd)) (RG.pe (W := W) (rg_name (i := 14) sc_law.nd))))
  (rss_cons (rs_setLc (i := 3) (own := [("_law_told", 22)]) sc_law.nd (ri_lst (K := K) (re_callC c__law_rows hr (ra_cons (rv 11) (ra_cons (rv 12) ra_nil)))) (blkOk_by (N := N_law) (sc := defScope (topS 54)) (by decide +kernel)) (gin_name (by decide)) (fun _ _ _ _ _ => (rg_name (i := 22) sc_law.nd)) (fun _ _ _ _ _ => (rts_one (rt_cmp (o_eqN (K := K) hr.units) (re_callC c__law_bumps hr (ra_cons (rv 2) (ra_cons (rv 22) (ra_cons (rv 14) ra_nil)))) (RL.toE (rl_lst ra_nil))))) (fun _ _ _ _ _ => (rv 22)))
  (rss_cons (rs_set (i := 4) sc_law.nd (RE.toX (RL.toE (rl_lc (own := [("_law_told", 22)]) sc_law.nd (ri_lst (K := K) (rv 3)) (blkOk_by (N := N_law) (sc := defScope (topS 54)) (by decide +kernel)) (gin_name (by decide)) (fun _ _ _ _ _ => (rg_name (i := 22) sc_law.nd)) (fun _ _ _ _ _ => rts_nil) (fun _ _ _ _ _ => (re_cb (c_maxL (K := K)) B.max_ (by decide +kernel) (ra_cons (RL.toE (rl_lc (own := [("_law_at", 18)]) sc_law.nd (ri_r1 B.range_ (ra_cons (rv 11) ra_nil)) (blkOk_by (by rfl)) (gin_name (by decide)) (fun _ _ _ _ _ => (rg_name (i := 18) sc_law.nd)) (fun _ _ _ _ _ => rts_nil) (fun _ _ _ _ _ => (re_cb c_abs B.abs_ (by decide +kernel) (ra_cons (re_op o_sub (re_ix (K := K) (rv 22) (rv 18)) (re_ix (K := K) (rv 13) (rv 18))) ra_nil))))) ra_nil)))))))
  (rss_cons (rs_if (rt_not (rt_val (re_callC c__law_alike hr (ra_cons (re_callC c_least_change hr (ra_cons (rv 2) (ra_cons (rv 13) (ra_cons (rv 14) ra_nil)))) (ra_cons (re_cb (c_minL (K := K)) B.min_ (by decide +kernel) (ra_cons (rv 4) ra_nil)) ra_nil))))) (rss_one (rs_ret re_bl)) rss_nil)
  (rss_cons (rs_asg (re_tup (ra_cons (re_callC c__law_cut hr (ra_cons (rv 2) (ra_cons (rv 13) (ra_cons (rv 14) ra_nil)))) (ra_cons (re_callC c__law_fill hr (ra_cons (rv 2) (ra_cons (rv 13) (ra_cons (rv 14) ra_nil)))) ra_nil))) (rg_tup2 (K := K) (RG.pe (W := W) (rg_name (i := 15) sc_law.nd)) (RG.pe (W := W) (rg_name (i := 16) sc_law.nd))))
  (rss_cons (rs_setLc (i := 5) (own := [("_law_at", 18)]) sc_law.nd (ri_r1 B.range_ (ra_cons (rv 11) ra_nil)) (blkOk_by (N := N_law) (sc := defScope (topS 54)) (by decide +kernel)) (gin_name (by decide)) (fun _ _ _ _ _ => (rg_name (i := 18) sc_law.nd)) (fun _ _ _ _ _ => rts_nil) (fun _ _ _ _ _ => (re_op o_sub (re_ix (K := K) (rv 13) (rv 18)) (re_ix (K := K) (rv 15) (rv 18)))))
  (rss_cons (rs_if (rt_not (rt_val (re_callC c__law_alike hr (ra_cons (RL.toE (rl_lst (ra_cons (re_callC c_between_cuts hr (ra_cons (rv 2) (ra_cons (rv 13) (ra_cons (rv 14) ra_nil)))) (ra_cons (re_callC c_worst_point hr (ra_cons (rv 2) (ra_cons (rv 13) (ra_cons (rv 14) ra_nil)))) ra_nil)))) (ra_cons (RL.toE (rl_lst (ra_cons (re_tup (ra_cons (rv 15) (ra_cons (rv 16) ra_nil))) (ra_cons (re_tup (ra_cons (re_cb (c_maxL (K := K)) B.max_ (by decide +kernel) (ra_cons (rv 5) ra_nil)) (ra_cons (re_index (K := K) (rv 5) (ra_cons (re_cb (c_maxL (K := K)) B.max_ (by decide +kernel) (ra_cons (rv 5) ra_nil)) ra_nil)) ra_nil))) ra_nil)))) ra_nil))))) (rss_one (rs_ret re_bl)) rss_nil)
  (rss_cons (rs_asg (re_tup (ra_cons (re_callC c_near_row hr (ra_cons (rv 2) (ra_cons (rv 13) (ra_cons (rv 14) ra_nil)))) (ra_cons (re_callC c__law_taken hr (ra_cons (rv 1) (ra_cons (rv 11) ra_nil))) ra_nil))) (rg_tup2 (K := K) (RG.pe (W := W) (rg_name (i := 17) sc_law.nd)) (RG.pe (W := W) (rg_name (i := 18) sc_law.nd))))
  (rss_cons (rs_if (rt_cmp o_gt (re_cb (c_maxL (K := K)) B.max_ (by decide +kernel) (ra_cons (RL.toE (rl_lc (own := [("_law_spot", 24)]) sc_law.nd (ri_r1 B.range_ (ra_cons (rv 11) ra_nil)) (blkOk_by (N := N_law) (sc := defScope (topS 54)) (by decide +kernel)) (gin_name (by decide)) (fun _ _ _ _ _ => (rg_name (i := 24) sc_law.nd)) (fun _ _ _ _ _ => rts_nil) (fun _ _ _ _ _ => (re_cb c_abs B.abs_ (by decide +kernel) (ra_cons (re_op o_sub (re_ix (K := K) (rv 17) (rv 24)) (re_ix (K := K) (rv 13) (rv 24))) ra_nil))))) ra_nil)) (re_cb (c_minL (K := K)) B.min_ (by decide +kernel) (ra_cons (rv 4) ra_nil))) (rss_one (rs_ret re_bl)) rss_nil)
  (rss_cons (rs_if (rt_cmp (o_neN (K := K) hr.units) (re_callC c__law_bumps hr (ra_cons (rv 2) (ra_cons (rv 17) (ra_cons (rv 14) ra_nil)))) (RL.toE (rl_lst ra_nil))) (rss_one (rs_ret re_bl)) rss_nil)
  (rss_cons (rs_set (i := 6) sc_law.nd (RE.toX (re_callC c__law_pick hr (ra_cons (rv 1) (ra_cons (rv 3) ra_nil)))))
  (rss_cons (rs_set (i := 7) sc_law.nd (RE.toX (RL.toE (rl_lst (ra_cons (rv 17) (ra_cons (rv 15) (ra_cons (rv 16) (ra_cons (rv 13) (ra_cons (rv 6) (ra_cons (re_cty (c_tuple (K := K)) B.tuple_ boot_tuple (ra_cons (RL.toE (rl_lc (own := [("_law_told", 22)]) sc_law.nd (ri_tup (K := K) (rv 15)) (blkOk_by (N := N_law) (sc := defScope (topS 54)) (by decide +kernel)) (gin_name (by decide)) (fun _ _ _ _ _ => (rg_name (i := 22) sc_law.nd)) (fun _ _ _ _ _ => rts_nil) (fun _ _ _ _ _ => (re_op o_add (rv 22) (re_cb (c_minL (K := K)) B.min_ (by decide +kernel) (ra_cons (rv 4) ra_nil)))))) ra_nil)) (ra_cons (re_op (o_catT (K := K)) (re_op (o_catT (K := K)) (re_slT (K := K) (rv 17) ro_none (ro_some (rv 18))) (re_tup (ra_cons (re_op o_add (re_ix (K := K) (rv 17) (rv 18)) re_int) ra_nil))) (re_slT (K := K) (rv 17) (ro_some (re_op o_add (rv 18) re_int)) ro_none)) ra_nil)))))))))))
  (rss_cons (rs_set (i := 8) sc_law.nd (RE.toX (RL.toE (rl_lst (ra_cons re_non (ra_cons (RL.toE (rl_cty (c_list (K := K)) B.list_ boot_list (ra_cons (rv 17) ra_nil))) (ra_cons re_newK (ra_cons re_int (ra_cons (re_slT (K := K) (rv 17) (ro_some re_int) ro_none) (ra_cons (re_op (o_catT (K := K)) (rv 17) (re_tup (ra_cons re_int ra_nil))) (ra_cons (re_op (o_repT (K := K)) (re_tup (ra_cons re_non ra_nil)) (rv 11)) (ra_cons (re_op (o_repT (K := K)) (re_tup (ra_cons re_str ra_nil)) (rv 11)) (ra_cons (re_op (o_repT (K := K)) (re_tup (ra_cons re_bl ra_nil)) (rv 11)) (ra_cons (re_op (o_repT (K := K)) (re_tup (ra_cons re_int ra_nil)) (rv 11)) (ra_cons (re_op (o_repT (K := K)) (re_tup (ra_cons (re_op o_sub re_int re_int) ra_nil)) (rv 11)) ra_nil)))))))))))))))
  (rss_cons (rs_for PassesOwn.never (ri_lst (K := K) (RL.toE (rl_lst (ra_cons (rv 17) (ra_cons (re_callC c__law_pick hr (ra_cons (rv 1) (ra_cons (rv 7) ra_nil))) (ra_cons (re_callC c__law_pick hr (ra_cons (rv 1) (ra_cons (rv 7) ra_nil))) (ra_cons (re_callC c__law_pick hr (ra_cons (rv 1) (ra_cons (rv 8) ra_nil))) ra_nil))))))) (rg_name (i := 9) sc_law.nd) (rss_cons (rs_set (i := 19) sc_law.nd (RE.toX (re_and (re_isi (K := K) B.isinstance_ (ra_cons (rv 9) (ra_cons (re_bty B.tuple_ boot_tuple) ra_nil))) (re_one (re_cmp o_eq (re_len (K := K) B.len_ (ra_cons (rv 9) ra_nil)) (rv 11))))))
  (rss_cons (rs_set (i := 19) sc_law.nd (RE.toX (re_and (rv 19) (re_one (re_cmp (o_eqN (K := K) hr.units) (RL.toE (rl_lc (own := [("_law_told", 22)]) sc_law.nd (ri_tup (K := K) (rv 9)) (blkOk_by (N := N_law) (sc := defScope (topS 54)) (by decide +kernel)) (gin_name (by decide)) (fun _ _ _ _ _ => (rg_name (i := 22) sc_law.nd)) (fun _ _ _ _ _ => (rts_one (RW'.toT (rw_or (rt_val (re_isi (K := K) B.isinstance_ (ra_cons (rv 22) (ra_cons (re_bty B.bool_ boot_bool) ra_nil)))) (rw_or (rt_not (rt_val (re_isi (K := K) B.isinstance_ (ra_cons (rv 22) (ra_cons (re_bty B.int_ boot_int) ra_nil))))) (rw_or1 (rt_cmp o_gt (re_cb c_abs B.abs_ (by decide +kernel) (ra_cons (rv 22) ra_nil)) re_int))))))) (fun _ _ _ _ _ => (rv 22)))) (RL.toE (rl_lst ra_nil)))))))
  (rss_cons (rs_if (rt_val (rv 19)) (rss_cons (rs_set (i := 19) sc_law.nd (RE.toX (re_cmp o_le (re_cb (c_maxL (K := K)) B.max_ (by decide +kernel) (ra_cons (RL.toE (rl_lc (own := [("_law_spot", 24)]) sc_law.nd (ri_r1 B.range_ (ra_cons (rv 11) ra_nil)) (blkOk_by (N := N_law) (sc := defScope (topS 54)) (by decide +kernel)) (gin_name (by decide)) (fun _ _ _ _ _ => (rg_name (i := 24) sc_law.nd)) (fun _ _ _ _ _ => rts_nil) (fun _ _ _ _ _ => (re_cb c_abs B.abs_ (by decide +kernel) (ra_cons (re_op o_sub (re_ix (K := K) (rv 9) (rv 24)) (re_ix (K := K) (rv 13) (rv 24))) ra_nil))))) ra_nil)) (re_cb (c_minL (K := K)) B.min_ (by decide +kernel) (ra_cons (rv 4) ra_nil)))))
  (rss_one (rs_set (i := 19) sc_law.nd (RE.toX (re_and (rv 19) (re_one (re_cmp (o_eqN (K := K) hr.units) (re_callC c__law_bumps hr (ra_cons (rv 2) (ra_cons (rv 9) (ra_cons (rv 14) ra_nil)))) (RL.toE (rl_lst ra_nil))))))))) rss_nil)
  (rss_one (rs_if (rt_not (rt_val (re_callC c__law_alike hr (ra_cons (re_callC c_shows_near hr (ra_cons (rv 2) (ra_cons (rv 13) (ra_cons (rv 14) (ra_cons (rv 9) ra_nil))))) (ra_cons (rv 19) ra_nil))))) (rss_one (rs_ret re_bl)) rss_nil))))))
  (rss_cons (rs_set (i := 10) sc_law.nd (RE.toX (re_callC c__law_heights hr (ra_cons (rv 1) (ra_cons (rv 11) (ra_cons re_int ra_nil))))))
  (rss_cons (rs_par (i := 20) (j := 21) sc_law.nd (RE.toX (re_cty (c_tuple (K := K)) B.tuple_ boot_tuple (ra_cons (RL.toE (rl_lc (own := [("_law_pair", 25)]) sc_law.nd (ri_zipN (K := K) B.zip_ (ra_cons (rv 13) (ra_cons (rv 10) ra_nil))) (blkOk_by (N := N_law) (sc := defScope (topS 54)) (by decide +kernel)) (gin_name (by decide)) (fun _ _ _ _ _ => (rg_name (i := 25) sc_law.nd)) (fun _ _ _ _ _ => rts_nil) (fun _ _ _ _ _ => (re_cb (c_maxP (K := K) hr.units) B.max_ (by decide +kernel) (ra_cons (rv 25) ra_nil))))) ra_nil))) (RE.toX (re_cty (c_tuple (K := K)) B.tuple_ boot_tuple (ra_cons (RL.toE (rl_lc (own := [("_law_pair", 25)]) sc_law.nd (ri_zipN (K := K) B.zip_ (ra_cons (rv 13) (ra_cons (rv 10) ra_nil))) (blkOk_by (N := N_law) (sc := defScope (topS 54)) (by decide +kernel)) (gin_name (by decide)) (fun _ _ _ _ _ => (rg_name (i := 25) sc_law.nd)) (fun _ _ _ _ _ => rts_nil) (fun _ _ _ _ _ => (re_cb (c_minP (K := K) hr.units) B.min_ (by decide +kernel) (ra_cons (rv 25) ra_nil))))) ra_nil))))
  (rss_cons (rs_if (rt_not (rt_val (re_callC c__law_alike hr (ra_cons (RL.toE (rl_lst (ra_cons (re_callC c_higher hr (ra_cons (rv 2) (ra_cons (rv 13) (ra_cons (rv 10) ra_nil)))) (ra_cons (re_callC c_lower hr (ra_cons (rv 2) (ra_cons (rv 13) (ra_cons (rv 10) ra_nil)))) ra_nil)))) (ra_cons (RL.toE (rl_lst (ra_cons (rv 20) (ra_cons (rv 21) ra_nil)))) ra_nil))))) (rss_one (rs_ret re_bl)) rss_nil)
  (rss_one (rs_ret (re_callC c__law_alike hr (ra_cons (re_callC c_apart hr (ra_cons (rv 2) (ra_cons (rv 13) (ra_cons (rv 10) ra_nil)))) (ra_cons (re_cb (c_maxL (K := K)) B.max_ (by decide +kernel) (ra_cons (RL.toE (rl_lc (own := [("_law_spot", 24)]) sc_law.nd (ri_r1 B.range_ (ra_cons (rv 11) ra_nil)) (blkOk_by (N := N_law) (sc := defScope (topS 54)) (by decide +kernel)) (gin_name (by decide)) (fun _ _ _ _ _ => (rg_name (i := 24) sc_law.nd)) (fun _ _ _ _ _ => rts_nil) (fun _ _ _ _ _ => (re_cb c_abs B.abs_ (by decide +kernel) (ra_cons (re_op o_sub (re_ix (K := K) (rv 13) (rv 24)) (re_ix (K := K) (rv 10) (rv 24))) ra_nil))))) ra_nil)) ra_nil))))))))))))))))))))))))⟩
    refine ⟨_, pss_cons (ps_set (i := 1) sc_law.nd rfl (.inr rfl) (pe_lst (pa_cons (pv 0) (pa_cons pe_int (pa_cons pe_int (pa_cons pe_int pa_nil)))))) (ht Wc.none).pe, ?_⟩
    refine ⟨.ref a, rfl, by show 4 ≤ sizeLine; decide, fun p np => ?_⟩
    exact law_start (D' := { nx := fun _ H => Q .non H, rt := Q }) hS np rfl q (fun W => (ht W).sim) fun b hne => hT a p ns b hne hl
end
end NR
/-! The plain law: rows without bumps, the greatest one below a row. No program in sight. -/
namespace NR
open Classical
inductive Conn (N : Int → Int → Prop) (P : Int → Prop) : Int → Int → Prop
  | refl {x : Int} : P x → Conn N P x x
  | step {x y z : Int} : Conn N P x y → N y z → P z → Conn N P x z
section
variable {N : Int → Int → Prop} {P P' : Int → Prop} {x y z : Int}
theorem Conn.l (c : Conn N P x y) : P x := by
  induction c with
  | refl h => exact h
  | step _ _ _ ih => exact ih
theorem Conn.r (c : Conn N P x y) : P y := by
  cases c with
  | refl h => exact h
  | step _ _ h => exact h
theorem Conn.trans (c : Conn N P x y) (d : Conn N P y z) : Conn N P x z := by
  induction d with
  | refl _ => exact c
  | step _ n p ih => exact .step ih n p
theorem Conn.mono (h : ∀ q, P q → P' q) (c : Conn N P x y) : Conn N P' x y := by
  induction c with
  | refl p => exact .refl (h _ p)
  | step _ n p ih => exact .step ih n (h _ p)
theorem Conn.symm (sy : ∀ a b, N a b → N b a) (c : Conn N P x y) : Conn N P y x := by
  induction c with
  | refl p => exact .refl p
  | step c n p ih => exact Conn.trans (.step (.refl p) (sy _ _ n) c.r) ih
/-- within what it reaches -/
theorem Conn.self (c : Conn N P x y) (h : ∀ q, Conn N P x q → P' q) : Conn N P' x y := by
  induction c with
  | refl p => exact .refl (h _ (.refl p))
  | step c n p ih => exact .step ih n (h _ (.step c n p))
/-- a set that no step leaves -/
theorem Conn.stays {S : Int → Prop} (c : Conn N P x y) (hx : S x) (h : ∀ a b, S a → N a b → P b → S b) : S y := by
  induction c with
  | refl _ => exact hx
  | step c n p ih => exact h _ _ ih n p
/-- a way out of a set has a step out of it -/
theorem Conn.out {S : Int → Prop} (c : Conn N P x y) (hx : S x) (hy : ¬ S y) : ∃ a b, S a ∧ Conn N P x a ∧ N a b ∧ P b ∧ ¬ S b := by
  induction c with
  | refl _ => exact absurd hx hy
  | @step y z c n p ih =>
    by_cases h : S y
    · exact ⟨y, z, h, c, n, p, hy⟩
    · exact ih h
end
noncomputable def cnt (vs : List Int) (S : Int → Prop) : Nat := (vs.filter fun q => decide (S q)).length
theorem cnt_mono {vs : List Int} {S S' : Int → Prop} (h : ∀ q ∈ vs, S q → S' q) : cnt vs S ≤ cnt vs S' := by
  unfold cnt
  induction vs with
  | nil => exact Nat.le_refl _
  | cons v vs ih =>
    have ih' := ih fun q hq => h q (List.mem_cons_of_mem _ hq)
    rw [List.filter_cons, List.filter_cons]
    by_cases a : S v
    · rw [if_pos (decide_eq_true a), if_pos (decide_eq_true (h v List.mem_cons_self a))]
      simp only [List.length_cons]; omega
    · rw [if_neg (by rw [decide_eq_false a]; exact Bool.false_ne_true)]
      split
      · simp only [List.length_cons]; omega
      · exact ih'
/-- a finite graph -/
structure Gph (vs : List Int) (N : Int → Int → Prop) : Prop where
  nd : vs.Nodup
  sy : ∀ a b, N a b → N b a
  inn : ∀ a b, N a b → b ∈ vs
abbrev Comp (N : Int → Int → Prop) (h : Int → Int) (p L : Int) : Int → Prop := Conn N (fun q => L ≤ h q) p
abbrev Circ (N : Int → Int → Prop) (p : Int) : Int → Prop := Conn N (fun _ => True) p
abbrev Flat (N : Int → Int → Prop) (h : Int → Int) (p : Int) : Int → Prop := Conn N (fun q => h q = h p) p
def RimS (N : Int → Int → Prop) (S : Int → Prop) (q : Int) : Prop := ∃ x, S x ∧ N x q ∧ ¬ S q
def Big (vs : List Int) (N : Int → Int → Prop) (s : Int) (h : Int → Int) (p L : Int) : Prop := s < cnt vs (Comp N h p L) ∨ ∀ q, Circ N p q → L ≤ h q
def Bumpless (vs : List Int) (N : Int → Int → Prop) (s : Int) (h : Int → Int) : Prop := ∀ p ∈ vs, Big vs N s h p (h p)
def Bump (vs : List Int) (N : Int → Int → Prop) (s : Int) (h : Int → Int) (p : Int) : Prop := (cnt vs (Flat N h p) : Int) ≤ s ∧ (∃ q, RimS N (Flat N h p) q) ∧ ∀ q, RimS N (Flat N h p) q → h q < h p
section
variable {vs : List Int} {N : Int → Int → Prop} {s : Int} {h g r : Int → Int} {p q L : Int}
theorem circ_in (G : Gph vs N) (hp : p ∈ vs) (c : Circ N p q) : q ∈ vs := by
  cases c with
  | refl _ => exact hp
  | step _ n _ => exact G.inn _ _ n
theorem comp_circ (c : Comp N h p L q) : Circ N p q := c.mono fun _ _ => trivial
theorem Big.mono (hg : ∀ q ∈ vs, h q ≤ g q) (G : Gph vs N) (hp : p ∈ vs) (b : Big vs N s h p L) : Big vs N s g p L := by
  rcases b with b | b
  · left
    refine Int.lt_of_lt_of_le b (Int.ofNat_le.mpr (cnt_mono fun q _ c => ?_))
    exact Conn.self c fun q c => Int.le_trans c.r (hg q (circ_in G hp (comp_circ c)))
  · exact .inr fun q c => Int.le_trans (b q c) (hg q (circ_in G hp c))
theorem Big.low {L' : Int} (hL : L' ≤ L) (b : Big vs N s h p L) : Big vs N s h p L' := by
  rcases b with b | b
  · left
    exact Int.lt_of_lt_of_le b (Int.ofNat_le.mpr (cnt_mono fun q _ c => Conn.mono (fun q z => Int.le_trans hL z) c))
  · exact .inr fun q c => Int.le_trans hL (b q c)
/-- no bump stands in a row without them -/
theorem Bumpless.no_bump (G : Gph vs N) (hp : p ∈ vs) (b : Bumpless vs N s h) : ¬ Bump vs N s h p := fun ⟨b1, ⟨q, x, hx, nq, hq⟩, b3⟩ => by
  have stay : ∀ y, Comp N h p (h p) y → Flat N h p y := fun y c => by
    refine c.stays (.refl rfl) fun a b ha n hb => ?_
    by_cases hf : Flat N h p b
    · exact hf
    · have := b3 b ⟨a, ha, n, hf⟩
      omega
  rcases b p hp with b | b
  · have := cnt_mono (vs := vs) (S := Comp N h p (h p)) (S' := Flat N h p) fun y _ c => stay y c
    omega
  · have h1 := b q (.step (hx.mono fun _ _ => trivial) nq trivial)
    have h2 := b3 q ⟨x, hx, nq, hq⟩
    omega
/-- the highest point of a finite set -/
theorem top_of (S : Int → Prop) : ∀ (vs : List Int), (∃ q ∈ vs, S q) → ∃ m ∈ vs, S m ∧ ∀ q ∈ vs, S q → h q ≤ h m
  | [], ⟨_, hq, _⟩ => nomatch hq
  | v :: vs, ⟨q, hq, hs⟩ => by
    by_cases e : ∃ q ∈ vs, S q
    · obtain ⟨m, hm, sm, hmax⟩ := top_of S vs e
      by_cases c : S v ∧ h m < h v
      · refine ⟨v, List.mem_cons_self, c.1, fun q hq sq => ?_⟩
        rcases List.mem_cons.mp hq with rfl | hq
        · exact Int.le_refl _
        · have := hmax q hq sq; omega
      · refine ⟨m, List.mem_cons_of_mem _ hm, sm, fun q hq sq => ?_⟩
        rcases List.mem_cons.mp hq with rfl | hq
        · by_cases l : h m < h q
          · exact absurd ⟨sq, l⟩ c
          · omega
        · exact hmax q hq sq
    · rcases List.mem_cons.mp hq with rfl | hq
      · refine ⟨q, List.mem_cons_self, hs, fun y hy sy => ?_⟩
        rcases List.mem_cons.mp hy with rfl | hy
        · exact Int.le_refl _
        · exact absurd ⟨y, hy, sy⟩ e
      · exact absurd ⟨q, hq, hs⟩ e
theorem bumpless_of (G : Gph vs N) (b : ∀ p ∈ vs, ¬ Bump vs N s h p) : Bumpless vs N s h := fun p hp => by
  by_cases hb : Big vs N s h p (h p)
  · exact hb
  · exfalso
    unfold Big at hb
    rw [not_or] at hb
    obtain ⟨h1, h2⟩ := hb
    obtain ⟨q0, h2⟩ := Classical.not_forall.mp h2
    obtain ⟨c0, h2⟩ := Classical.not_imp.mp h2
    have h2 : h q0 < h p := by omega
    obtain ⟨m, hm, cm, hmax⟩ := top_of (h := h) (Comp N h p (h p)) vs ⟨p, hp, .refl (Int.le_refl _)⟩
    have pm : h p ≤ h m := cm.r
    have fc : ∀ y, Flat N h m y → Comp N h p (h p) y := fun y c => cm.trans (c.mono fun q e => by omega)
    refine b m hm ⟨?_, ?_, fun q ⟨x, hx, nq, hq⟩ => ?_⟩
    · have := cnt_mono (vs := vs) (S := Flat N h m) (S' := Comp N h p (h p)) fun y _ c => fc y c
      omega
    · have cc : Circ N m q0 := ((comp_circ cm).symm G.sy).trans c0
      obtain ⟨a, b, ha, _, n, _, hb⟩ := cc.out (S := Flat N h m) (.refl rfl) fun c => by
        have e : h q0 = h m := c.r
        omega
      exact ⟨b, a, ha, n, hb⟩
    · have e : h x = h m := hx.r
      by_cases l : h p ≤ h q
      · have cq : Comp N h p (h p) q := .step (fc x hx) nq l
        have := hmax q (G.inn _ _ nq) cq
        have ne : h q ≠ h m := fun z => hq (.step hx nq z)
        omega
      · omega
theorem bumpless_iff (G : Gph vs N) : Bumpless vs N s h ↔ ∀ p ∈ vs, ¬ Bump vs N s h p := ⟨fun b p hp => b.no_bump G hp, bumpless_of G⟩
/-- c is the cut of h: at each place the highest level that is big -/
structure IsCut (vs : List Int) (N : Int → Int → Prop) (s : Int) (h c : Int → Int) : Prop where
  le : ∀ p ∈ vs, c p ≤ h p
  big : ∀ p ∈ vs, Big vs N s h p (c p)
  top : ∀ p ∈ vs, ∀ L, L ≤ h p → Big vs N s h p L → L ≤ c p
theorem IsCut.uniq {c c' : Int → Int} (a : IsCut vs N s h c) (b : IsCut vs N s h c') : ∀ p ∈ vs, c p = c' p := fun p hp => by
  have h1 := b.top p hp _ (a.le p hp) (a.big p hp)
  have h2 := a.top p hp _ (b.le p hp) (b.big p hp)
  omega
theorem IsCut.bumpless {c : Int → Int} (G : Gph vs N) (a : IsCut vs N s h c) : Bumpless vs N s c := fun p hp => by
  rcases a.big p hp with b | b
  · left
    refine Int.lt_of_lt_of_le b (Int.ofNat_le.mpr (cnt_mono fun q _ cq => Conn.self cq fun y cy => ?_))
    refine a.top y (circ_in G hp (comp_circ cy)) _ cy.r (.inl (Int.lt_of_lt_of_le b (Int.ofNat_le.mpr (cnt_mono fun z _ cz => ?_))))
    exact (cy.symm G.sy).trans cz
  · right
    intro q cq
    refine a.top q (circ_in G hp cq) _ (b q cq) (.inr fun z cz => b z (cq.trans cz))
theorem IsCut.most {c : Int → Int} (G : Gph vs N) (a : IsCut vs N s h c) (hr : ∀ q ∈ vs, r q ≤ h q) (b : Bumpless vs N s r) : ∀ p ∈ vs, r p ≤ c p := fun p hp => a.top p hp _ (hr p hp) ((b p hp).mono hr G hp)
/-- the greatest row without bumps below h is the cut -/
theorem isCut_of {c : Int → Int} (G : Gph vs N) (le : ∀ p ∈ vs, c p ≤ h p) (b : Bumpless vs N s c) (most : ∀ r, Bumpless vs N s r → (∀ q ∈ vs, r q ≤ h q) → ∀ p ∈ vs, r p ≤ c p) {k : Int → Int} (a : IsCut vs N s h k) : ∀ p ∈ vs, c p = k p := fun p hp => by
  have h1 := a.most G le b p hp
  have h2 := most k (a.bumpless G) a.le p hp
  omega
/-- a bump is lowered to its rim -/
theorem lower_ok (G : Gph vs N) {m : Int} (hp : p ∈ vs) (b : Bump vs N s h p) (hm : ∀ q, RimS N (Flat N h p) q → h q ≤ m) (hr : ∀ q ∈ vs, r q ≤ h q) (br : Bumpless vs N s r) : r p ≤ m := by
  obtain ⟨b1, ⟨q, x, hx, nq, hq⟩, _⟩ := b
  by_cases l : r p ≤ m
  · exact l
  · exfalso
    have stay : ∀ y, Comp N r p (r p) y → Flat N h p y := fun y c => by
      refine c.stays (.refl rfl) fun a b ha n hb => ?_
      by_cases hf : Flat N h p b
      · exact hf
      · have h1 := hm b ⟨a, ha, n, hf⟩
        have h2 := hr b (G.inn _ _ n)
        omega
    rcases br p hp with c | c
    · have := cnt_mono (vs := vs) (S := Comp N r p (r p)) (S' := Flat N h p) fun y _ c => stay y c
      omega
    · have h1 := c q (.step (hx.mono fun _ _ => trivial) nq trivial)
      have h2 := hr q (G.inn _ _ nq)
      have h3 := hm q ⟨x, hx, nq, hq⟩
      omega
/-- a row moved up or down -/
theorem Bumpless.shift (b : Bumpless vs N s h) (k : Int) : Bumpless vs N s fun q => h q + k := fun p hp => by
  have e : ∀ q, Comp N (fun q => h q + k) p (h p + k) q ↔ Comp N h p (h p) q := fun q => ⟨fun c => Conn.mono (fun q (z : h p + k ≤ h q + k) => (show h p ≤ h q by omega)) c, fun c => Conn.mono (fun q (z : h p ≤ h q) => (show h p + k ≤ h q + k by omega)) c⟩
  rcases b p hp with b | b
  · left
    exact Int.lt_of_lt_of_le b (Int.ofNat_le.mpr (cnt_mono fun q _ c => (e q).mpr c))
  · exact .inr fun q c => by have := b q c; show h p + k ≤ h q + k; omega
theorem Bumpless.clip (b : Bumpless vs N s h) (k : Int) : Bumpless vs N s fun q => min k (h q) := fun p hp => by
  have b' : Big vs N s h p (min k (h p)) := (b p hp).low (by omega)
  rcases b' with b | b
  · left
    refine Int.lt_of_lt_of_le b (Int.ofNat_le.mpr (cnt_mono fun q _ c => ?_))
    exact Conn.mono (fun q z => by show min k (h p) ≤ min k (h q); omega) c
  · exact .inr fun q c => by have := b q c; show min k (h p) ≤ min k (h q); omega
theorem Bumpless.congr (e : ∀ q ∈ vs, h q = g q) (G : Gph vs N) (b : Bumpless vs N s h) : Bumpless vs N s g := fun p hp => by
  have := (b p hp).mono (g := g) (fun q hq => Int.le_of_eq (e q hq)) G hp
  rw [e p hp] at this
  exact this
/-- half of the deepest drop: no row without bumps is nearer -/
theorem half_low {c : Int → Int} {d e : Int} (G : Gph vs N) (a : IsCut vs N s h c) (hp : p ∈ vs) (hd : h p - c p = d) (b : Bumpless vs N s r) (he : ∀ q ∈ vs, r q - h q ≤ e ∧ h q - r q ≤ e) : d ≤ 2 * e := by
  have b' : Bumpless vs N s fun q => r q + (-e) := b.shift (-e)
  have := a.most G (fun q hq => by have := he q hq; show r q + -e ≤ h q; omega) b' p hp
  have h2 := he p hp
  have h3 : r p + -e ≤ c p := this
  omega
end
end NR
/-! Rows and nets as data. -/
namespace NR
open PySem L2
def ptsL (n : Nat) : List Int := (List.range n).map fun (i : Nat) => (i : Int)
theorem mem_pts {n : Nat} {p : Int} : p ∈ ptsL n ↔ 0 ≤ p ∧ p < n := by
  unfold ptsL
  rw [List.mem_map]
  constructor
  · rintro ⟨i, hi, rfl⟩
    have := List.mem_range.mp hi
    omega
  · intro h
    exact ⟨p.toNat, List.mem_range.mpr (by omega), by omega⟩
theorem nodup_pts (n : Nat) : (ptsL n).Nodup := by
  unfold ptsL
  rw [List.nodup_iff_pairwise_ne, List.pairwise_map]
  refine List.nodup_range.imp fun h e => h (by omega)
def hF (h : List Int) (p : Int) : Int := h.getD p.toNat 0
def nbA (nb : List (List Int)) (p : Int) : List Int := nb.getD p.toNat []
def nbR (nb : List (List Int)) (a b : Int) : Prop := 0 ≤ a ∧ b ∈ nbA nb a
structure NbOk (n : Nat) (nb : List (List Int)) : Prop where
  len : nb.length = n
  few : n ≤ 4
  pos : 1 ≤ n
  sy : ∀ a b, nbR nb a b → nbR nb b a
  inn : ∀ a b, nbR nb a b → 0 ≤ b ∧ b < n
  nd : ∀ a, (nbA nb a).Nodup
section
variable {n : Nat} {nb : List (List Int)} {h : List Int} {p q : Int}
theorem NbOk.gph (G : NbOk n nb) : Gph (ptsL n) (nbR nb) := ⟨nodup_pts n, G.sy, fun a b e => mem_pts.mpr (G.inn a b e)⟩
theorem nodup_len : ∀ {l m : List Int}, l.Nodup → (∀ x ∈ l, x ∈ m) → l.length ≤ m.length
  | [], _, _, _ => Nat.zero_le _
  | x :: l, m, nd, h => by
    have h1 := List.nodup_cons.mp nd
    have hx : x ∈ m := h x List.mem_cons_self
    have ih := nodup_len (l := l) (m := m.erase x) h1.2 fun y hy => by
      refine (List.mem_erase_of_ne fun e : y = x => h1.1 (by rw [← e]; exact hy)).mpr (h y (List.mem_cons_of_mem _ hy))
    rw [List.length_erase_of_mem hx] at ih
    have := List.length_pos_of_mem hx
    simp only [List.length_cons]
    omega
theorem pts_len (n : Nat) : (ptsL n).length = n := by unfold ptsL; rw [List.length_map, List.length_range]
theorem nodup_pts_len {l : List Int} (nd : l.Nodup) (h : ∀ x ∈ l, 0 ≤ x ∧ x < n) : l.length ≤ n := by
  have := nodup_len nd (m := ptsL n) fun x hx => mem_pts.mpr (h x hx)
  rwa [pts_len] at this
theorem NbOk.short (G : NbOk n nb) (a : Int) (ha : 0 ≤ a) : (nbA nb a).length ≤ n := nodup_pts_len (G.nd a) fun x hx => G.inn a x ⟨ha, hx⟩
theorem ix_h (h0 : 0 ≤ p) (h1 : p < h.length) : atI (dIs h) p = some (.int (hF h p)) := by
  have e : atI (dIs h) ((p.toNat : Nat) : Int) = some (.int (hF h p)) := by
    refine atI_nat ?_
    unfold dIs hF
    rw [List.getElem?_map, List.getD_eq_getElem?_getD, List.getElem?_eq_getElem (show p.toNat < h.length by omega)]
    rfl
  rwa [show ((p.toNat : Nat) : Int) = p by omega] at e
theorem ix_nb (h0 : 0 ≤ p) (h1 : p < nb.length) : atI (nb.map fun r => D.lst (dIs r)) p = some (.lst (dIs (nbA nb p))) := by
  have e : atI (nb.map fun r => D.lst (dIs r)) ((p.toNat : Nat) : Int) = some (.lst (dIs (nbA nb p))) := by
    refine atI_nat ?_
    unfold nbA
    rw [List.getElem?_map, List.getD_eq_getElem?_getD, List.getElem?_eq_getElem (show p.toNat < nb.length by omega)]
    rfl
  rwa [show ((p.toNat : Nat) : Int) = p by omega] at e
end
/-! ### what may be told from [] -/
def D.flat : D → Bool
  | .non => true
  | .bl _ => true
  | .int _ => true
  | .str x => PySem.PyData.strOk x
  | _ => false
theorem flat_plain {d : D} (h : d.flat = true) : d.plain = true := by
  cases d <;> first | rfl | cases h
theorem flat_lay {d : D} (h : d.flat = true) : d.py.canLay0 = true ∧ d.py.depth = 0 := by
  cases d with
  | non => exact ⟨by simp [D.py, PySem.PyData.canLay0], by simp [D.py, PySem.PyData.depth]⟩
  | bl b => exact ⟨by simp [D.py, PySem.PyData.canLay0], by simp [D.py, PySem.PyData.depth]⟩
  | int i => exact ⟨by simp [D.py, PySem.PyData.canLay0], by simp [D.py, PySem.PyData.depth]⟩
  | str x => exact ⟨by simpa [D.py, PySem.PyData.canLay0, D.flat] using h, by simp [D.py, PySem.PyData.depth]⟩
  | _ => cases h
theorem flats_ok : ∀ {ds : List D}, (∀ d ∈ ds, d.flat = true) → plains ds = true ∧ PySem.PyData.canLayAll0 (pys ds) = true ∧ PySem.PyData.depthAll (pys ds) = 0
  | [], _ => ⟨rfl, rfl, by simp [pys, PySem.PyData.depthAll]⟩
  | d :: ds, h => by
    obtain ⟨a, b, c⟩ := flats_ok (ds := ds) fun x hx => h x (List.mem_cons_of_mem _ hx)
    have hd := h d List.mem_cons_self
    obtain ⟨e, f⟩ := flat_lay hd
    refine ⟨?_, ?_, ?_⟩
    · show (d.plain && plains ds) = true
      rw [flat_plain hd, a]; rfl
    · show PySem.PyData.canLayAll0 (d.py :: pys ds) = true
      simp [PySem.PyData.canLayAll0, e, b]
    · show PySem.PyData.depthAll (d.py :: pys ds) = 0
      simp [PySem.PyData.depthAll, f, c]
theorem okE_flat {ds : List D} (h : ∀ d ∈ ds, d.flat = true) : (D.lst ds).okE = true := by
  obtain ⟨a, b, c⟩ := flats_ok h
  have e1 : (D.lst ds).plain = true := a
  have e2 : (D.lst ds).py.canLay0 = true := by
    show PySem.PyData.canLay0 (.list (pys ds)) = true
    simpa [PySem.PyData.canLay0] using b
  have e3 : (D.lst ds).py.depth ≤ 64 := by
    show PySem.PyData.depth (.list (pys ds)) ≤ 64
    simp [PySem.PyData.depth, c]
  unfold D.okE PySem.SeqAt.shaped
  rw [e1, e2, decide_eq_true e3]
  rfl
theorem okE_ints (ns : List Int) : (D.lst (dIs ns)).okE = true := okE_flat fun d hd => by
  obtain ⟨i, _, rfl⟩ := List.mem_map.mp hd
  rfl
theorem ints_flat (ns : List Int) : ∀ d ∈ dIs ns, d.flat = true := fun d hd => by
  obtain ⟨i, _, rfl⟩ := List.mem_map.mp hd
  rfl
theorem tups_ok : ∀ ks : List (List Int), plains (ks.map tupI) = true ∧ PySem.PyData.canLayAll0 (pys (ks.map tupI)) = true ∧ PySem.PyData.depthAll (pys (ks.map tupI)) ≤ 1
  | [] => ⟨rfl, rfl, by simp [pys, PySem.PyData.depthAll]⟩
  | k :: ks => by
    obtain ⟨a, b, c⟩ := tups_ok ks
    obtain ⟨d, e, f⟩ := flats_ok (ints_flat k)
    refine ⟨?_, ?_, ?_⟩
    · show (plains (dIs k) && plains (ks.map tupI)) = true
      rw [d, a]; rfl
    · show PySem.PyData.canLayAll0 (.tuple (pys (dIs k)) :: pys (ks.map tupI)) = true
      simp [PySem.PyData.canLayAll0, PySem.PyData.canLay0, e, b]
    · show PySem.PyData.depthAll (.tuple (pys (dIs k)) :: pys (ks.map tupI)) ≤ 1
      simp only [PySem.PyData.depthAll, PySem.PyData.depth, f]
      omega
theorem okE_tups (ks : List (List Int)) : (D.lst (ks.map tupI)).okE = true := by
  obtain ⟨a, b, c⟩ := tups_ok ks
  have e1 : (D.lst (ks.map tupI)).plain = true := a
  have e2 : (D.lst (ks.map tupI)).py.canLay0 = true := by
    show PySem.PyData.canLay0 (.list (pys (ks.map tupI))) = true
    simpa [PySem.PyData.canLay0] using b
  have e3 : (D.lst (ks.map tupI)).py.depth ≤ 64 := by
    show PySem.PyData.depth (.list (pys (ks.map tupI))) ≤ 64
    simp only [PySem.PyData.depth]
    omega
  unfold D.okE PySem.SeqAt.shaped
  rw [e1, e2, decide_eq_true e3]
  rfl
end NR
/-! What each def promises. -/
namespace NR
open PySem L2
def isWh : D → Bool
  | .int _ => true
  | _ => false
def isIn (d : D) (lo hi : Int) : Bool := match d with
  | .int i => decide (lo ≤ i) && decide (i ≤ hi)
  | _ => false
def isTu (d : D) (lo hi : Int) : Bool := match d with
  | .tup xs => decide (lo ≤ xs.length) && decide ((xs.length : Int) ≤ hi)
  | _ => false
structure GoodNet (n : Nat) (ps : List (Int × Int)) : Prop where
  pos : 1 ≤ n
  few : n ≤ 4
  inn : ∀ p ∈ ps, 0 ≤ p.1 ∧ p.1 < p.2 ∧ p.2 < n
  asc : ps.Pairwise fun a b => a.1 < b.1 ∨ (a.1 = b.1 ∧ a.2 < b.2)
  len : ps.length ≤ 66
def GoodRow (n : Nat) (h : List Int) : Prop := h.length = n ∧ ∀ x ∈ h, -99 ≤ x ∧ x ≤ 99
def rowT (h : List Int) : D := .tup (dIs h)
def nbOf (n : Nat) (ps : List (Int × Int)) : List (List Int) := (adjL n ps).map sortI
def Fp_whole : FT := fun _ ds Q => ∃ d, ds = [d] ∧ d.tyn ≠ "" ∧ Q (.bl (isWh d))
def Fp_within : FT := fun _ ds Q => ∃ d lo hi, ds = [d, .int lo, .int hi] ∧ d.tyn ≠ "" ∧ Q (.bl (isIn d lo hi))
def Fp_need_number : FT := fun _ ds Q => ∃ d lo hi, ds = [d, .int lo, .int hi] ∧ d.tyn ≠ "" ∧ isIn d lo hi = true ∧ Q .non
def Fp_tuple_of : FT := fun _ ds Q => ∃ d lo hi, ds = [d, .int lo, .int hi] ∧ d.tyn ≠ "" ∧ Q (.bl (isTu d lo hi))
def Fp_need_net : FT := fun _ ds Q => ∃ (n : Nat) (ps : List (Int × Int)), ds = [netD (n : Nat) ps] ∧ GoodNet n ps ∧ Q .non
def Fp_need_row : FT := fun _ ds Q => ∃ (n : Nat) (ps : List (Int × Int)) (h : List Int), ds = [netD (n : Nat) ps, rowT h] ∧ GoodNet n ps ∧ GoodRow n h ∧ Q .non
def Fp_need_size : FT := fun _ ds Q => ∃ (n : Nat) (ps : List (Int × Int)) (s : Int), ds = [netD n ps, .int s] ∧ 0 ≤ s ∧ s ≤ n ∧ Q .non
def Fp_near : FT := fun _ ds Q => ∃ (n : Nat) (ps : List (Int × Int)), ds = [netD (n : Nat) ps] ∧ GoodNet n ps ∧ Q (nearD (nbOf n ps))
/-- pts, a rim around -/
def Fp_rim : FT := fun _ ds Q => ∃ (n : Nat) (nb : List (List Int)) (pts : List Int), ds = [nearD nb, rowT pts] ∧ NbOk n nb ∧ (∀ p ∈ pts, 0 ≤ p ∧ p < n) ∧ pts.length ≤ 4 ∧ ∀ ys : List Int, ys.Pairwise (· < ·) → (∀ q, q ∈ ys ↔ RimS (nbR nb) (fun x => x ∈ pts) q) → Q (.lst (dIs ys))
def Fp_flat_with : FT := fun _ ds Q => ∃ (n : Nat) (nb : List (List Int)) (h : List Int) (p : Int), ds = [nearD nb, rowT h, .int p] ∧ NbOk n nb ∧ h.length = n ∧ 0 ≤ p ∧ p < n ∧ ∀ ks : List Int, ks.Nodup → (∀ q, q ∈ ks ↔ Flat (nbR nb) (hF h) p q) → Q (.dk ks)
/-- a flat, its points ascending -/
def IsFl (n : Nat) (nb : List (List Int)) (h : List Int) (F : List Int) : Prop := F.Pairwise (· < ·) ∧ ∃ p : Int, 0 ≤ p ∧ p < n ∧ ∀ q, q ∈ F ↔ Flat (nbR nb) (hF h) p q
def IsFls (n : Nat) (nb : List (List Int)) (h : List Int) (fl : List (List Int)) : Prop := fl.length ≤ 1000 ∧ (∀ F ∈ fl, IsFl n nb h F) ∧ ∀ p : Int, 0 ≤ p → p < n → ∃ F ∈ fl, p ∈ F
def Fp_flats_of : FT := fun _ ds Q => ∃ (n : Nat) (nb : List (List Int)) (h : List Int), ds = [nearD nb, rowT h] ∧ NbOk n nb ∧ h.length = n ∧ ∀ fl, IsFls n nb h fl → Q (.lst (fl.map tupI))
def BumpF (nb : List (List Int)) (h F : List Int) : Prop := (∃ q, RimS (nbR nb) (fun x => x ∈ F) q) ∧ ∀ q, RimS (nbR nb) (fun x => x ∈ F) q → hF h q < hF h (F.getD 0 0)
def Fp_is_bump : FT := fun _ ds Q => ∃ (n : Nat) (nb : List (List Int)) (h F : List Int), ds = [nearD nb, rowT h, tupI F] ∧ NbOk n nb ∧ h.length = n ∧ IsFl n nb h F ∧ ∀ b : Bool, (b = true ↔ BumpF nb h F) → Q (.bl b)
def IsBumps (n : Nat) (nb : List (List Int)) (h : List Int) (s : Int) (bs : List (List Int)) : Prop := bs.length ≤ 1000 ∧ (∀ F ∈ bs, IsFl n nb h F ∧ ∀ p ∈ F, Bump (ptsL n) (nbR nb) s (hF h) p) ∧ ∀ p : Int, 0 ≤ p → p < n → Bump (ptsL n) (nbR nb) s (hF h) p → ∃ F ∈ bs, p ∈ F
def Fp_bumps_of : FT := fun _ ds Q => ∃ (n : Nat) (nb : List (List Int)) (h : List Int) (s : Int), ds = [nearD nb, rowT h, .int s] ∧ NbOk n nb ∧ h.length = n ∧ ∀ bs, IsBumps n nb h s bs → Q (.lst (bs.map tupI))
open Classical in
/-- the cut of a row -/
noncomputable def cutL (n : Nat) (nb : List (List Int)) (s : Int) (h : List Int) : List Int := (ptsL n).map fun p => maxI (h.filter fun L => decide (L ≤ hF h p ∧ Big (ptsL n) (nbR nb) s (hF h) p L))
def Fp_cut_of : FT := fun _ ds Q => ∃ (n : Nat) (nb : List (List Int)) (h : List Int) (s : Int), ds = [nearD nb, rowT h, .int s] ∧ NbOk n nb ∧ h.length = n ∧ Q (rowT (cutL n nb s h))
def Fp_law_part : FT := fun _ ds Q => ∃ (n : Nat) (nb : List (List Int)) (kept : List Int) (p : Int), ds = [nearD nb, .lst (dIs kept), .int p] ∧ NbOk n nb ∧ (∀ q ∈ kept, 0 ≤ q ∧ q < n) ∧ p ∈ kept ∧ ∀ ys : List Int, ys.Pairwise (· < ·) → (∀ q, q ∈ ys ↔ Conn (nbR nb) (fun x => x ∈ kept) p q) → Q (rowT ys)
def IsParts (nb : List (List Int)) (kept : List Int) (L : List (List Int)) : Prop := L.length ≤ kept.length ∧ (∀ F ∈ L, F.Pairwise (· < ·) ∧ ∃ p ∈ kept, ∀ q, q ∈ F ↔ Conn (nbR nb) (fun x => x ∈ kept) p q) ∧ ∀ p ∈ kept, ∃ F ∈ L, p ∈ F
def Fp_law_parts : FT := fun _ ds Q => ∃ (n : Nat) (nb : List (List Int)) (kept : List Int), ds = [nearD nb, .lst (dIs kept)] ∧ NbOk n nb ∧ (∀ q ∈ kept, 0 ≤ q ∧ q < n) ∧ kept.length ≤ 4 ∧ ∀ L, IsParts nb kept L → Q (.lst (L.map tupI))
def Fp_law_flats : FT := fun _ ds Q => ∃ (n : Nat) (ps : List (Int × Int)) (h : List Int), ds = [netD (n : Nat) ps, rowT h] ∧ GoodNet n ps ∧ h.length = n ∧ ∀ fl, IsFls n (nbOf n ps) h fl → Q (.lst (fl.map tupI))
def Fp_law_bumps : FT := fun _ ds Q => ∃ (n : Nat) (ps : List (Int × Int)) (h : List Int) (s : Int), ds = [netD (n : Nat) ps, rowT h, .int s] ∧ GoodNet n ps ∧ h.length = n ∧ ∀ bs, IsBumps n (nbOf n ps) h s bs → Q (.lst (bs.map tupI))
def Fp_law_cut : FT := fun _ ds Q => ∃ (n : Nat) (ps : List (Int × Int)) (h : List Int) (s : Int), ds = [netD (n : Nat) ps, rowT h, .int s] ∧ GoodNet n ps ∧ h.length = n ∧ Q (rowT (cutL n (nbOf n ps) s h))
def negL (h : List Int) : List Int := h.map fun x => -x
def Fp_turned : FT := fun _ ds Q => ∃ h, ds = [rowT h] ∧ h.length ≤ 1000 ∧ Q (rowT (negL h))
noncomputable def fillL (n : Nat) (nb : List (List Int)) (s : Int) (h : List Int) : List Int := negL (cutL n nb s (negL h))
def Fp_fill_of : FT := fun _ ds Q => ∃ (n : Nat) (nb : List (List Int)) (h : List Int) (s : Int), ds = [nearD nb, rowT h, .int s] ∧ NbOk n nb ∧ h.length = n ∧ Q (rowT (fillL n nb s h))
def Fp_law_fill : FT := fun _ ds Q => ∃ (n : Nat) (ps : List (Int × Int)) (h : List Int) (s : Int), ds = [netD (n : Nat) ps, rowT h, .int s] ∧ GoodNet n ps ∧ h.length = n ∧ Q (rowT (fillL n (nbOf n ps) s h))
/-- how far the cut lies below -/
noncomputable def dropL (n : Nat) (nb : List (List Int)) (s : Int) (h : List Int) : List Int := (ptsL n).map fun p => hF h p - hF (cutL n nb s h) p
noncomputable def deepI (n : Nat) (nb : List (List Int)) (s : Int) (h : List Int) : Int := maxI (dropL n nb s h)
def firstAt (xs : List Int) (m : Int) : Nat := xs.findIdx fun x => decide (x = m)
noncomputable def worstD (n : Nat) (nb : List (List Int)) (s : Int) (h : List Int) : D := .tup [.int (deepI n nb s h), .int (firstAt (dropL n nb s h) (deepI n nb s h))]
def Fp_worst_of : FT := fun _ ds Q => ∃ (n : Nat) (nb : List (List Int)) (h : List Int) (s : Int), ds = [nearD nb, rowT h, .int s] ∧ NbOk n nb ∧ h.length = n ∧ Q (worstD n nb s h)
/-- net, row, size in order -/
def Gd (n : Nat) (ps : List (Int × Int)) (h : List Int) (s : Int) : Prop := GoodNet n ps ∧ GoodRow n h ∧ 0 ≤ s ∧ s ≤ n
def Fp_worst_point : FT := fun _ ds Q => ∃ (n : Nat) (ps : List (Int × Int)) (h : List Int) (s : Int), ds = [netD (n : Nat) ps, rowT h, .int s] ∧ Gd n ps h s ∧ Q (worstD n (nbOf n ps) s h)
def Fp_least_change : FT := fun _ ds Q => ∃ (n : Nat) (ps : List (Int × Int)) (h : List Int) (s : Int), ds = [netD (n : Nat) ps, rowT h, .int s] ∧ Gd n ps h s ∧ Q (.int ((deepI n (nbOf n ps) s h + 1) / 2))
noncomputable def nearL (n : Nat) (nb : List (List Int)) (s : Int) (h : List Int) : List Int := (cutL n nb s h).map fun x => min 99 (x + deepI n nb s h / 2)
def Fp_near_row : FT := fun _ ds Q => ∃ (n : Nat) (ps : List (Int × Int)) (h : List Int) (s : Int), ds = [netD (n : Nat) ps, rowT h, .int s] ∧ Gd n ps h s ∧ Q (rowT (nearL n (nbOf n ps) s h))
def Fp_between : FT := fun _ ds Q => ∃ (n : Nat) (ps : List (Int × Int)) (h : List Int) (s : Int), ds = [netD (n : Nat) ps, rowT h, .int s] ∧ Gd n ps h s ∧ Q (.tup [rowT (cutL n (nbOf n ps) s h), rowT (fillL n (nbOf n ps) s h)])
def zipI (f : Int → Int → Int) (a b : List Int) : List Int := (a.zip b).map fun p => f p.1 p.2
/-- does v show a nearest row -/
def ShowsOk (n : Nat) (nb : List (List Int)) (s : Int) (h : List Int) (e : Int) (v : D) : Prop := ∃ r, v = rowT r ∧ GoodRow n r ∧ Bumpless (ptsL n) (nbR nb) s (hF r) ∧ ∀ p : Int, 0 ≤ p → p < n → hF h p - hF r p ≤ e ∧ hF r p - hF h p ≤ e
def Simple : D → Prop
  | .tup xs => ∀ d ∈ xs, d.tyn ≠ ""
  | d => d.tyn ≠ ""
def Fp_shows : FT := fun _ ds Q => ∃ (n : Nat) (ps : List (Int × Int)) (h : List Int) (s : Int) (v : D), ds = [netD (n : Nat) ps, rowT h, .int s, v] ∧ Gd n ps h s ∧ Simple v ∧ ∀ b : Bool, (b = true ↔ ShowsOk n (nbOf n ps) s h ((deepI n (nbOf n ps) s h + 1) / 2) v) → Q (.bl b)
def Fp_higher : FT := fun _ ds Q => ∃ (n : Nat) (ps : List (Int × Int)) (a b : List Int), ds = [netD (n : Nat) ps, rowT a, rowT b] ∧ GoodNet n ps ∧ GoodRow n a ∧ GoodRow n b ∧ Q (rowT (zipI max a b))
def Fp_lower : FT := fun _ ds Q => ∃ (n : Nat) (ps : List (Int × Int)) (a b : List Int), ds = [netD (n : Nat) ps, rowT a, rowT b] ∧ GoodNet n ps ∧ GoodRow n a ∧ GoodRow n b ∧ Q (rowT (zipI min a b))
def absI (i : Int) : Int := if i < 0 then -i else i
def farI (a b : List Int) : Int := maxI (zipI (fun x y => absI (x - y)) a b)
def Fp_apart : FT := fun _ ds Q => ∃ (n : Nat) (ps : List (Int × Int)) (a b : List Int), ds = [netD (n : Nat) ps, rowT a, rowT b] ∧ GoodNet n ps ∧ GoodRow n a ∧ GoodRow n b ∧ Q (.int (farI a b))
end NR
/-! The checks keep their promises. -/
namespace NR
open PySem L2
theorem isIn_eq (i lo hi : Int) : isIn (.int i) lo hi = (decide (lo ≤ i) && decide (i ≤ hi)) := rfl
theorem isTu_eq (xs : List D) (lo hi : Int) : isTu (.tup xs) lo hi = (decide (lo ≤ xs.length) && decide ((xs.length : Int) ≤ hi)) := rfl
abbrev En (Q : D → Prop) : DEnds := { nx := fun _ => Q .non, rt := Q }
theorem tyIn1 : ("int" : String) ∈ ["bool", "int", "str", "tuple", "list"] := by decide
theorem tyIn2 : ("bool" : String) ∈ ["bool", "int", "str", "tuple", "list"] := by decide
theorem tyIn3 : ("tuple" : String) ∈ ["bool", "int", "str", "tuple", "list"] := by decide
theorem tyIn4 : ("list" : String) ∈ ["bool", "int", "str", "tuple", "list"] := by decide
theorem tyIn5 : ("str" : String) ∈ ["bool", "int", "str", "tuple", "list"] := by decide
theorem pr_whole : ∀ W ds Q, ds.length = 1 → Fp_whole W ds Q → T_whole W (En Q) (startD N_whole ds) := by
  rintro W ds Q _ ⟨d, rfl, ht, q⟩
  refine ⟨d, rfl, d, ht, .inl ⟨"int", rfl, tyIn1, _, rfl, ?_⟩⟩
  cases d with
  | int i => exact ⟨_, rfl, _, ht, .inl ⟨"bool", rfl, tyIn2, _, rfl, q⟩⟩
  | bl b => exact ⟨_, rfl, _, ht, .inl ⟨"bool", rfl, tyIn2, _, rfl, q⟩⟩
  | raw a => exact absurd rfl ht
  | ty n => exact absurd rfl ht
  | _ => exact q
theorem pr_within : ∀ W ds Q, ds.length = 3 → Fp_within W ds Q → T_within Fp_whole W (En Q) (startD N_within ds) := by
  rintro W ds Q _ ⟨d, lo, hi, rfl, ht, q⟩
  refine ⟨d, rfl, rfl, d, rfl, ht, _, rfl, ?_⟩
  cases d with
  | int i =>
    refine ⟨_, rfl, _, rfl, _, _, rfl, rfl, trivial, _, rfl, ?_⟩
    by_cases h : lo ≤ i
    · rw [decide_eq_true h]
      refine ⟨_, rfl, _, _, rfl, rfl, trivial, ?_⟩
      have e : isIn (.int i) lo hi = decide (i ≤ hi) := by rw [isIn_eq, decide_eq_true h]; rfl
      rw [e] at q; exact q
    · rw [decide_eq_false h]
      have e : isIn (.int i) lo hi = false := by rw [isIn_eq, decide_eq_false h]; rfl
      rw [e] at q; exact q
  | _ => exact q
theorem pr_need_number : ∀ W ds Q, ds.length = 3 → Fp_need_number W ds Q → T_need_number Fp_within W (En Q) (startD N_need_number ds) := by
  rintro W ds Q _ ⟨d, lo, hi, rfl, ht, hb, q⟩
  refine ⟨d, rfl, _, rfl, _, rfl, rfl, d, lo, hi, rfl, ht, _, rfl, ?_⟩
  rw [hb]; exact q
theorem pr_tuple_of : ∀ W ds Q, ds.length = 3 → Fp_tuple_of W ds Q → T_tuple_of W (En Q) (startD N_tuple_of ds) := by
  rintro W ds Q _ ⟨d, lo, hi, rfl, ht, q⟩
  refine ⟨d, rfl, d, ht, .inl ⟨"tuple", rfl, tyIn3, _, rfl, ?_⟩⟩
  cases d with
  | tup xs =>
    refine ⟨_, rfl, _, rfl, xs, .inl rfl, _, _, rfl, rfl, trivial, _, rfl, ?_⟩
    by_cases h : lo ≤ xs.length
    · rw [decide_eq_true h]
      refine ⟨_, rfl, _, _, rfl, rfl, trivial, ?_⟩
      have e : isTu (.tup xs) lo hi = decide ((xs.length : Int) ≤ hi) := by rw [isTu_eq, decide_eq_true h]; rfl
      rw [e] at q; exact q
    · rw [decide_eq_false h]
      have e : isTu (.tup xs) lo hi = false := by rw [isTu_eq, decide_eq_false h]; rfl
      rw [e] at q; exact q
  | _ => exact q
theorem netD_ty (n : Int) (ps : List (Int × Int)) : (netD n ps).tyn ≠ "" := by show "tuple" ≠ ""; decide
theorem int_ty (i : Int) : (D.int i).tyn ≠ "" := by show "int" ≠ ""; decide
theorem tup_ty (xs : List D) : (D.tup xs).tyn ≠ "" := by show "tuple" ≠ ""; decide
theorem ix0 {x : D} {r : List D} : atI (x :: r) 0 = some x := atI_nat (j := 0) rfl
theorem ix1 {x y : D} {r : List D} : atI (x :: y :: r) 1 = some y := atI_nat (j := 1) rfl
theorem isIn_int {i lo hi : Int} (h1 : lo ≤ i) (h2 : i ≤ hi) : isIn (.int i) lo hi = true := by
  rw [isIn_eq, decide_eq_true h1, decide_eq_true h2]; rfl
theorem isTu_tup {xs : List D} {lo hi : Int} (h1 : lo ≤ xs.length) (h2 : (xs.length : Int) ≤ hi) : isTu (.tup xs) lo hi = true := by
  rw [isTu_eq, decide_eq_true h1, decide_eq_true h2]; rfl
theorem dIs_len (h : List Int) : (dIs h).length = h.length := List.length_map ..
theorem isTu_row {h : List Int} {lo hi : Int} (h1 : lo ≤ h.length) (h2 : (h.length : Int) ≤ hi) : isTu (rowT h) lo hi = true := isTu_tup (by rw [dIs_len]; exact h1) (by rw [dIs_len]; exact h2)
theorem pr_need_size : ∀ W ds Q, ds.length = 2 → Fp_need_size W ds Q → T_need_size Fp_need_number W (En Q) (startD N_need_size ds) := by
  rintro W ds Q _ ⟨n, ps, s, rfl, h0, h1, q⟩
  exact ⟨_, rfl, _, rfl, _, _, _, .inl rfl, rfl, ix0, rfl, _, _, _, rfl, int_ty s, isIn_int h0 h1, q⟩
theorem pr_need_row : ∀ W ds Q, ds.length = 2 → Fp_need_row W ds Q → T_need_row Fp_tuple_of Fp_within W (En Q) (startD N_need_row ds) := by
  rintro W ds Q _ ⟨n, ps, h, rfl, G, ⟨hl, hb⟩, q⟩
  refine ⟨_, rfl, _, rfl, _, _, _, .inl rfl, rfl, ix0, _, rfl, _, _, _, .inl rfl, rfl, ix0, rfl, _, _, _, rfl, tup_ty _, _, rfl, ?_⟩
  rw [isTu_row (by rw [hl]; exact Int.le_refl _) (by rw [hl]; exact Int.le_refl _)]
  refine ⟨_, rfl, _, rfl, fun i ρ => ∃ a b, ρ = [.im (netD n ps), .im (rowT h), a, b], ⟨.no, .no, rfl⟩, fun i d ρ hd ⟨a, b, e⟩ => ?_, fun ρ _ => q⟩
  subst e
  cases hx : (dIs h)[i]? with
  | none =>
    have l := (List.getElem?_eq_some_iff.mp hd).1
    rw [enD_len] at l
    rw [List.getElem?_eq_none_iff] at hx
    omega
  | some x =>
    rw [enD_get hx] at hd
    cases hd
    obtain ⟨y, hy, rfl⟩ := List.mem_map.mp (List.mem_of_getElem? hx)
    obtain ⟨b1, b2⟩ := hb y hy
    refine ⟨_, _, rfl, _, rfl, ⟨_, rfl, rfl, _, _, _, rfl, int_ty y, _, rfl, ?_⟩⟩
    rw [isIn_int (by omega) b2]
    exact ⟨_, _, rfl⟩
theorem pr_need_both : ∀ W ds Q, ds.length = 2 → Fp_need_row W ds Q → T_need_both Fp_need_net Fp_need_row W (En Q) (startD N_need_both ds) := by
  rintro W ds Q _ ⟨n, ps, h, rfl, G, hr, q⟩
  exact ⟨_, rfl, rfl, n, ps, rfl, G, _, rfl, _, rfl, rfl, n, ps, h, rfl, G, hr, q⟩
end NR
/-! The net's check, its lists of who lies near. -/
namespace NR
open PySem L2
theorem leT2 {a b c d : Int} (h : c < a ∨ (c = a ∧ d < b)) : leT [a, b] [c, d] = false := by
  show Ob.lexAt (fun j => decide ([a, b].getD j 0 = [c, d].getD j 0)) (fun j => decide ([a, b].getD j 0 ≤ [c, d].getD j 0)) (decide (2 ≤ 2)) 0 2 = false
  rw [Ob.lexAt_succ]
  rcases h with h | ⟨rfl, h⟩
  · rw [if_neg (by intro e; have e' : a = c := of_decide_eq_true e; omega)]
    exact decide_eq_false (by show ¬ a ≤ c; omega)
  · have e0 : decide ([c, b].getD 0 0 = [c, d].getD 0 0) = true := decide_eq_true rfl
    rw [if_pos e0, Ob.lexAt_succ, if_neg (by intro e; have e' : b = d := of_decide_eq_true e; omega)]
    exact decide_eq_false (by show ¬ b ≤ d; omega)
theorem map_const_true (ds : List D) : ds.map (fun _ => D.bl true) = (List.replicate ds.length true).map D.bl := by
  rw [List.map_const', List.map_replicate]
theorem all_true (k : Nat) : (List.replicate k true).all id = true := by
  induction k with
  | zero => rfl
  | succ k ih => rw [List.replicate_succ, List.all_cons, ih]; rfl
theorem pr_need_net : ∀ W ds Q, ds.length = 1 → Fp_need_net W ds Q → T_need_net Fp_tuple_of Fp_within W (En Q) (startD N_need_net ds) := by
  rintro W ds Q _ ⟨n, ps, rfl, G, q⟩
  have G1 := G.pos
  have G2 := G.few
  have G3 := G.len
  refine ⟨_, rfl, rfl, _, _, _, rfl, netD_ty _ _, _, rfl, ?_⟩
  rw [show isTu (netD n ps) 2 2 = true from isTu_tup (show (2 : Int) ≤ 2 by decide) (show (2 : Int) ≤ 2 by decide)]
  refine ⟨_, rfl, _, _, _, .inl rfl, rfl, ix0, rfl, _, _, _, rfl, int_ty _, _, rfl, ?_⟩
  rw [isIn_int (by omega) (by omega)]
  refine ⟨_, rfl, _, _, _, .inl rfl, rfl, ix1, rfl, _, _, _, rfl, tup_ty _, _, rfl, ?_⟩
  rw [isTu_tup (by rw [List.length_map]; omega) (by rw [List.length_map]; omega)]
  refine ⟨_, rfl, _, _, _, .inl rfl, rfl, ix1, _, rfl, fun i ρ => ∃ a b c, ρ = [.im (netD n ps), a, b, c], ⟨.no, .no, .no, rfl⟩, fun i d ρ hd ⟨a, b, c, e⟩ => ?_, fun ρ _ => q⟩
  subst e
  have hi : i < ps.length := by
    have := (List.getElem?_eq_some_iff.mp hd).1
    rwa [enD_len, List.length_map] at this
  have hx : (ps.map pairD)[i]? = some (pairD ps[i]) := by rw [List.getElem?_map, List.getElem?_eq_getElem hi]; rfl
  rw [enD_get hx] at hd
  cases hd
  obtain ⟨b1, b2, b3⟩ := G.inn ps[i] (List.getElem_mem hi)
  refine ⟨_, _, rfl, _, rfl, rfl, _, _, _, rfl, tup_ty _, _, rfl, ?_⟩
  rw [show isTu (pairD ps[i]) 2 2 = true from isTu_tup (show (2 : Int) ≤ 2 by decide) (show (2 : Int) ≤ 2 by decide)]
  refine ⟨_, rfl, _, rfl, comp_mapC (fun _ => .bl true) (show 2 ≤ 100000 by decide) (fun d hd R r => ?_) ?_⟩
  · have : ∃ x : Int, d = .int x ∧ 0 ≤ x ∧ x < n := by
      rcases List.mem_cons.mp hd with rfl | hd
      · exact ⟨_, rfl, by omega, by omega⟩
      · rw [List.mem_singleton.mp hd]
        exact ⟨_, rfl, by omega, by omega⟩
    obtain ⟨x, rfl, h0, h1⟩ := this
    refine ⟨_, rfl, _, rfl, _, _, _, .inl rfl, rfl, ix0, _, _, rfl, rfl, trivial, rfl, _, _, _, rfl, int_ty _, ?_⟩
    rw [isIn_int (by omega) (by omega)]
    exact r
  rw [map_const_true]
  refine ⟨_, rfl, _, rfl, ?_⟩
  rw [all_true]
  refine ⟨_, rfl, _, _, _, .inl rfl, rfl, ix0, _, rfl, _, _, _, .inl rfl, rfl, ix1, _, _, rfl, rfl, trivial, _, rfl, ?_⟩
  rw [decide_eq_false (show ¬ ps[i].2 ≤ ps[i].1 by omega)]
  refine ⟨_, rfl, _, _, rfl, rfl, trivial, _, rfl, ?_⟩
  by_cases h0 : (0 : Int) < (i : Nat)
  · rw [decide_eq_true h0]
    have hj : i - 1 < ps.length := by omega
    have hy : atI (ps.map pairD) ((i : Int) - 1) = some (pairD ps[i - 1]) := by
      rw [show ((i : Int) - 1) = ((i - 1 : Nat) : Int) by omega]
      exact atI_nat (by rw [List.getElem?_map, List.getElem?_eq_getElem hj]; rfl)
    refine ⟨_, rfl, _, rfl, _, _, _, .inl rfl, rfl, ix1, _, rfl, _, _, rfl, rfl, trivial, _, _, _, .inl rfl, rfl, hy, [ps[i].1, ps[i].2], [ps[i - 1].1, ps[i - 1].2], rfl, rfl, _, rfl, ?_⟩
    rw [leT2 (List.pairwise_iff_getElem.mp G.asc (i - 1) i hj hi (by omega))]
    exact ⟨_, _, _, rfl⟩
  · rw [decide_eq_false h0]
    exact ⟨_, _, _, rfl⟩
end NR
/-! The lists of who lies near are a net's. -/
namespace NR
open PySem L2
def Lk2 (qs : List (Int × Int)) (i : Nat) (v : Int) : Prop := ∃ q ∈ qs, (q.1 = (i : Int) ∧ q.2 = v) ∨ (q.2 = (i : Int) ∧ q.1 = v)
theorem getD_app {rows : List (List Int)} {i j : Nat} {v : Int} (hi : i < rows.length) : (appR rows i v).getD j [] = if i = j then rows.getD j [] ++ [v] else rows.getD j [] := by
  unfold appR
  by_cases e : i = j
  · subst e
    rw [if_pos rfl, List.getD_eq_getElem?_getD, List.getElem?_set_self hi]
    rfl
  · rw [if_neg e, List.getD_eq_getElem?_getD, List.getElem?_set_ne e, ← List.getD_eq_getElem?_getD]
theorem adj_spec {n : Nat} : ∀ {qs : List (Int × Int)} {rows : List (List Int)} {done : List (Int × Int)}, rows.length = n → (∀ p ∈ qs, 0 ≤ p.1 ∧ p.1 < p.2 ∧ p.2 < n) → (∀ p ∈ done, p.1 < p.2) → (∀ p ∈ qs, p ∉ done) → qs.Nodup → (∀ i v, v ∈ rows.getD i [] ↔ Lk2 done i v) → (∀ i, (rows.getD i []).Nodup) →
    (∀ i v, v ∈ (qs.foldl linkR rows).getD i [] ↔ Lk2 (done ++ qs) i v) ∧ ∀ i, ((qs.foldl linkR rows).getD i []).Nodup
  | [], rows, done, _, _, _, _, _, h1, h2 => by rw [List.append_nil]; exact ⟨h1, h2⟩
  | p :: qs, rows, done, hl, hq, hd, hn, nd, h1, h2 => by
    obtain ⟨b1, b2, b3⟩ := hq p List.mem_cons_self
    have nd' := List.nodup_cons.mp nd
    have l1 : p.1.toNat < rows.length := by omega
    have l2 : p.2.toNat < (appR rows p.1.toNat p.2).length := by rw [appR_len]; omega
    have ne : p.1.toNat ≠ p.2.toNat := by omega
    have row : ∀ j, (linkR rows p).getD j [] = if p.2.toNat = j then rows.getD j [] ++ [p.1] else if p.1.toNat = j then rows.getD j [] ++ [p.2] else rows.getD j [] := fun j => by
      unfold linkR
      rw [getD_app l2, getD_app l1]
      by_cases e2 : p.2.toNat = j
      · rw [if_pos e2, if_pos e2, if_neg (by omega)]
      · rw [if_neg e2, if_neg e2]
    have fresh : p ∉ done := hn p List.mem_cons_self
    have no : ∀ (j : Nat) (x : Int), ((j = p.2.toNat ∧ x = p.1) ∨ (j = p.1.toNat ∧ x = p.2)) → x ∉ rows.getD j [] := fun j x hx hm => by
      obtain ⟨q, qm, hq⟩ := (h1 j x).mp hm
      have q12 := hd q qm
      have : q = p := by
        have : q.1 = p.1 ∧ q.2 = p.2 := by omega
        exact Prod.ext this.1 this.2
      exact fresh (this ▸ qm)
    have ih := adj_spec (qs := qs) (rows := linkR rows p) (done := done ++ [p]) (by rw [linkR_len]; exact hl) (fun q h => hq q (List.mem_cons_of_mem _ h)) (fun q h => ?_) (fun q h hm => ?_) nd'.2 (fun j v => ?_) fun j => ?_
    · rw [List.append_assoc] at ih
      exact ih
    · rcases List.mem_append.mp h with h | h
      · exact hd q h
      · rw [List.mem_singleton.mp h]; exact b2
    · rcases List.mem_append.mp hm with hm | hm
      · exact hn q (List.mem_cons_of_mem _ h) hm
      · rw [List.mem_singleton.mp hm] at h
        exact nd'.1 h
    · have lk : Lk2 (done ++ [p]) j v ↔ Lk2 done j v ∨ ((p.1 = (j : Int) ∧ p.2 = v) ∨ (p.2 = (j : Int) ∧ p.1 = v)) := by
        constructor
        · rintro ⟨q, hm, hq⟩
          rcases List.mem_append.mp hm with hm | hm
          · exact .inl ⟨q, hm, hq⟩
          · rw [List.mem_singleton.mp hm] at hq
            exact .inr hq
        · rintro (⟨q, hm, hq⟩ | hq)
          · exact ⟨q, List.mem_append_left _ hm, hq⟩
          · exact ⟨p, List.mem_append_right _ (List.mem_singleton.mpr rfl), hq⟩
      rw [row j, lk, ← h1 j v]
      by_cases e2 : p.2.toNat = j
      · rw [if_pos e2, List.mem_append, List.mem_singleton]
        have : ((p.1 = (j : Int) ∧ p.2 = v) ∨ (p.2 = (j : Int) ∧ p.1 = v)) ↔ v = p.1 := by omega
        rw [this]
      · rw [if_neg e2]
        by_cases e1 : p.1.toNat = j
        · rw [if_pos e1, List.mem_append, List.mem_singleton]
          have : ((p.1 = (j : Int) ∧ p.2 = v) ∨ (p.2 = (j : Int) ∧ p.1 = v)) ↔ v = p.2 := by omega
          rw [this]
        · rw [if_neg e1]
          have : ¬ ((p.1 = (j : Int) ∧ p.2 = v) ∨ (p.2 = (j : Int) ∧ p.1 = v)) := by omega
          exact ⟨.inl, fun h => h.elim id fun h => absurd h this⟩
    · rw [row j]
      by_cases e2 : p.2.toNat = j
      · rw [if_pos e2, List.nodup_append]
        exact ⟨h2 j, List.pairwise_singleton _ _, fun a ha b hb e => no j p.1 (.inl ⟨e2.symm, rfl⟩) (by rw [List.mem_singleton.mp hb] at e; rw [← e]; exact ha)⟩
      · rw [if_neg e2]
        by_cases e1 : p.1.toNat = j
        · rw [if_pos e1, List.nodup_append]
          exact ⟨h2 j, List.pairwise_singleton _ _, fun a ha b hb e => no j p.2 (.inr ⟨e1.symm, rfl⟩) (by rw [List.mem_singleton.mp hb] at e; rw [← e]; exact ha)⟩
        · rw [if_neg e1]; exact h2 j
section
variable {n : Nat} {ps : List (Int × Int)}
theorem GoodNet.nodup (G : GoodNet n ps) : ps.Nodup := G.asc.imp fun h e => by
  rw [e] at h
  omega
theorem adj_all (G : GoodNet n ps) : (∀ i v, v ∈ (adjL n ps).getD i [] ↔ Lk2 ps i v) ∧ ∀ i, ((adjL n ps).getD i []).Nodup := by
  have rep : ∀ i, (List.replicate n ([] : List Int)).getD i [] = [] := fun i => by
    rw [List.getD_eq_getElem?_getD, List.getElem?_replicate]
    split <;> rfl
  have := adj_spec (n := n) (qs := ps) (rows := List.replicate n []) (done := []) (List.length_replicate ..) G.inn (fun _ h => absurd h List.not_mem_nil) (fun _ _ h => absurd h List.not_mem_nil) G.nodup (fun i v => by
    rw [rep i]
    exact ⟨fun h => absurd h List.not_mem_nil, fun ⟨_, h, _⟩ => absurd h List.not_mem_nil⟩) fun i => by rw [rep i]; exact List.nodup_nil
  rw [List.nil_append] at this
  exact this
theorem sortI_nil : sortI [] = [] := List.perm_nil.mp (sortI_perm [])
theorem nbA_of (p : Int) : nbA (nbOf n ps) p = sortI ((adjL n ps).getD p.toNat []) := by
  unfold nbA nbOf
  rw [List.getD_eq_getElem?_getD, List.getElem?_map, List.getD_eq_getElem?_getD]
  cases (adjL n ps)[p.toNat]? with
  | none => exact sortI_nil.symm
  | some r => rfl
theorem nbR_of (G : GoodNet n ps) (a b : Int) : nbR (nbOf n ps) a b ↔ ∃ q ∈ ps, (q.1 = a ∧ q.2 = b) ∨ (q.2 = a ∧ q.1 = b) := by
  unfold nbR
  rw [nbA_of, (sortI_perm _).mem_iff, (adj_all G).1]
  constructor
  · rintro ⟨h0, q, hq, h⟩
    exact ⟨q, hq, by omega⟩
  · rintro ⟨q, hq, h⟩
    have := G.inn q hq
    exact ⟨by omega, q, hq, by omega⟩
theorem GoodNet.nb (G : GoodNet n ps) : NbOk n (nbOf n ps) where
  len := by
    unfold nbOf adjL
    rw [List.length_map, foldl_link_len, List.length_replicate]
  few := G.few
  pos := G.pos
  sy := fun a b h => by
    obtain ⟨q, hq, h⟩ := (nbR_of G a b).mp h
    exact (nbR_of G b a).mpr ⟨q, hq, by omega⟩
  inn := fun a b h => by
    obtain ⟨q, hq, h⟩ := (nbR_of G a b).mp h
    have := G.inn q hq
    omega
  nd := fun a => by
    rw [nbA_of, (sortI_perm _).nodup_iff]
    exact (adj_all G).2 _
theorem GoodNet.okNet (G : GoodNet n ps) : OkNet n ps := ⟨by have := G.few; omega, by have := G.len; omega, fun p hp => by have := G.inn p hp; omega⟩
theorem pr_near : ∀ W ds Q, Fp_near W ds Q → ∃ x, ds = [x] ∧ T_near (En Q) [.im x, .no, .no, .no, .no, .no] := by
  rintro W ds Q ⟨n, ps, rfl, G, q⟩
  exact ⟨_, rfl, n, ps, rfl, G.okNet, q⟩
end
end NR
/-! Rims, flats, parts. -/
namespace NR
open PySem L2
theorem dIs_app (a b : List Int) : dIs (a ++ b) = dIs a ++ dIs b := List.map_append ..
theorem sortI_lt {ks : List Int} (nd : ks.Nodup) : (sortI ks).Pairwise (· < ·) := by
  have h1 := sortI_sorted ks
  have h2 : (sortI ks).Nodup := (sortI_perm ks).nodup_iff.mpr nd
  rw [List.nodup_iff_pairwise_ne] at h2
  exact List.Pairwise.imp₂ (fun a b h n => by omega) h1 h2
theorem putKs_nodup {ks : List Int} {k : Int} (nd : ks.Nodup) : (putKs ks k).Nodup := by
  unfold putKs
  split
  · exact nd
  · rename_i h
    rw [List.nodup_append]
    exact ⟨nd, List.pairwise_singleton _ _, fun a ha b hb e => h (by rw [← List.mem_singleton.mp hb, ← e]; exact ha)⟩
theorem mem_putKs {ks : List Int} {k q : Int} : q ∈ putKs ks k ↔ q ∈ ks ∨ q = k := by
  unfold putKs
  split
  · rename_i h
    exact ⟨.inl, fun z => z.elim id fun e => e ▸ h⟩
  · rw [List.mem_append, List.mem_singleton]
theorem take_mem {α : Type} {xs : List α} {i : Nat} {x : α} (h : xs[i]? = some x) {q : α} : q ∈ xs.take (i + 1) ↔ q ∈ xs.take i ∨ q = x := by
  rw [List.take_add_one, h, List.mem_append]
  simp
theorem dIs_get {xs : List Int} {i : Nat} {d : D} (h : (dIs xs)[i]? = some d) : ∃ x, xs[i]? = some x ∧ d = .int x := by
  unfold dIs at h
  rw [List.getElem?_map] at h
  cases e : xs[i]? with
  | none => rw [e] at h; cases h
  | some x => rw [e] at h; exact ⟨x, rfl, (Option.some.inj h).symm⟩
def pickF (b : Int → Bool) (f : Int → D) : D → Option D
  | .int x => if b x = true then some (f x) else none
  | _ => none
theorem pick_map (b : Int → Bool) (f : Int → D) : ∀ xs : List Int, (dIs xs).filterMap (pickF b f) = (xs.filter b).map f
  | [] => rfl
  | x :: xs => by
    show (D.int x :: dIs xs).filterMap (pickF b f) = _
    rw [List.filter_cons]
    by_cases h : b x = true
    · rw [if_pos h, List.map_cons, ← pick_map b f xs]
      exact List.filterMap_cons_some (show pickF b f (.int x) = some (f x) from if_pos h)
    · rw [if_neg h, ← pick_map b f xs]
      exact List.filterMap_cons_none (show pickF b f (.int x) = none from if_neg h)
/-- a comprehension over ints -/
theorem comp_ints {g : DG} {C : DT} {F : DE} {vs : List Nat} {ρ : List Sl} {Q : List D → Prop} {xs : List Int} (b : Int → Bool) (f : Int → D) (hl : xs.length ≤ 100000)
    (step : ∀ x ∈ xs, ∀ R : Option D → Prop, (if b x = true then R (some (f x)) else R none) → g (.int x) (wipeD ρ vs) fun ρ' => C ρ' fun b => if b = true then F ρ' fun y => R (some y) else R none) (h : Q ((xs.filter b).map f)) :
    (dIs xs).length ≤ 100000 ∧ ∃ P : Nat → List D → Prop, P 0 [] ∧ (∀ i d acc, (dIs xs)[i]? = some d → P i acc → g d (wipeD ρ vs) fun ρ' => C ρ' fun b => if b = true then F ρ' fun y => P (i + 1) (acc ++ [y]) else P (i + 1) acc) ∧ ∀ acc, P (dIs xs).length acc → Q acc := by
  refine comp_fmC (pickF b f) (by rw [dIs_len]; exact hl) (fun d hd R r => ?_) (by rw [pick_map]; exact h)
  obtain ⟨x, hx, rfl⟩ := List.mem_map.mp hd
  refine step x hx R ?_
  have r' : R (if b x = true then some (f x) else none) := r
  by_cases h : b x = true
  · rw [if_pos h] at r' ⊢; exact r'
  · rw [if_neg h] at r' ⊢; exact r'
theorem pr_rim_of : ∀ W ds Q, ds.length = 2 → Fp_rim W ds Q → T_rim_of W (En Q) (startD N_rim_of ds) := by
  rintro W ds Q _ ⟨n, nb, pts, rfl, G, hp, hl, q⟩
  have few := G.few
  let K : (Int → Prop) → List Int → Prop := fun S ks => ks.Nodup ∧ ∀ q, q ∈ ks ↔ S q
  have small : ∀ {S ks}, K S ks → (∀ q, S q → 0 ≤ q ∧ q < n) → ks.length ≤ 12 := fun h hs => by
    have := nodup_pts_len (n := n) h.1 fun q hq => hs q ((h.2 q).mp hq)
    omega
  let S : Nat → Int → Prop := fun i q => ∃ x ∈ pts.take i, q ∈ nbA nb x ∧ q ∉ pts
  have Sin : ∀ i q, S i q → 0 ≤ q ∧ q < n := fun i q ⟨x, hx, hq, _⟩ => G.inn x q ⟨(hp x (List.mem_of_mem_take hx)).1, hq⟩
  refine ⟨_, rfl, _, rfl, fun i ρ => ∃ a b ks, ρ = [.im (nearD nb), .im (rowT pts), .mk ks, a, b] ∧ K (S i) ks, ⟨.no, .no, [], rfl, List.nodup_nil, fun q => ⟨fun h => absurd h List.not_mem_nil, fun ⟨_, h, _⟩ => absurd h (by rw [List.take_zero]; exact List.not_mem_nil)⟩⟩, fun i d ρ hd ⟨a, b, ks, e, hk⟩ => ?_, fun ρ ⟨a, b, ks, e, hk⟩ => ?_⟩
  · subst e
    obtain ⟨x, hx, rfl⟩ := dIs_get hd
    have hxp := hp x (List.mem_of_getElem? hx)
    have S2 : ∀ q, S (i + 1) q ↔ S i q ∨ (q ∈ nbA nb x ∧ q ∉ pts) := fun q => by
      constructor
      · rintro ⟨y, hy, h⟩
        rcases (take_mem hx).mp hy with hy | rfl
        · exact .inl ⟨y, hy, h⟩
        · exact .inr h
      · rintro (⟨y, hy, h⟩ | h)
        · exact ⟨y, (take_mem hx).mpr (.inl hy), h⟩
        · exact ⟨x, (take_mem hx).mpr (.inr rfl), h⟩
    refine ⟨_, rfl, _, rfl, _, _, _, .inr rfl, rfl, ix_nb hxp.1 (by rw [G.len]; exact hxp.2), _, rfl, fun j ρ => ∃ b ks, ρ = [.im (nearD nb), .im (rowT pts), .mk ks, .im (.int x), b] ∧ K (fun q => S i q ∨ (q ∈ (nbA nb x).take j ∧ q ∉ pts)) ks,
      ⟨b, ks, rfl, hk.1, fun q => by rw [hk.2]; simp⟩, fun j d ρ hd ⟨b, ks, e, hk⟩ => ?_, fun ρ ⟨b, ks, e, hk⟩ => ?_⟩
    · subst e
      obtain ⟨y, hy, rfl⟩ := dIs_get hd
      refine ⟨_, rfl, _, rfl, y, pts, rfl, .inr rfl, _, rfl, ?_⟩
      by_cases hyp : y ∈ pts
      · rw [decide_eq_true hyp]
        refine ⟨_, ks, rfl, hk.1, fun q => ?_⟩
        rw [hk.2]
        refine ⟨fun h => h.imp_right fun h => ⟨(take_mem hy).mpr (.inl h.1), h.2⟩, fun h => h.imp_right fun h => ⟨((take_mem hy).mp h.1).resolve_right fun e => h.2 (e ▸ hyp), h.2⟩⟩
      · rw [decide_eq_false hyp]
        have sm := small hk fun q h => h.elim (Sin i q) fun h => G.inn x q ⟨hxp.1, List.mem_of_mem_take h.1⟩
        refine ⟨rfl, ks, rfl, by omega, _, rfl, y, rfl, _, _, rfl, putKs_nodup hk.1, fun q => ?_⟩
        rw [mem_putKs, hk.2]
        constructor
        · rintro ((h | h) | rfl)
          · exact .inl h
          · exact .inr ⟨(take_mem hy).mpr (.inl h.1), h.2⟩
          · exact .inr ⟨(take_mem hy).mpr (.inr rfl), hyp⟩
        · rintro (h | h)
          · exact .inl (.inl h)
          · rcases (take_mem hy).mp h.1 with h1 | h1
            · exact .inl (.inr ⟨h1, h.2⟩)
            · exact .inr h1
    · subst e
      refine ⟨_, b, ks, rfl, hk.1, fun q => ?_⟩
      rw [hk.2, S2, dIs_len, List.take_of_length_le (Nat.le_refl _)]
  · subst e
    have sm := small hk (Sin _)
    refine ⟨_, _, rfl, rfl, _, rfl, ks, rfl, by omega, q _ (sortI_lt hk.1) fun z => ?_⟩
    rw [(sortI_perm ks).mem_iff, hk.2, dIs_len]
    constructor
    · rintro ⟨x, hx, h1, h2⟩
      have hx := List.mem_of_mem_take hx
      exact ⟨x, hx, ⟨(hp x hx).1, h1⟩, h2⟩
    · rintro ⟨x, hx, ⟨_, h1⟩, h2⟩
      exact ⟨x, by rw [List.take_of_length_le (Nat.le_refl _)]; exact hx, h1, h2⟩
theorem pr_law_rim : ∀ W ds Q, ds.length = 2 → Fp_rim W ds Q → T__law_rim W (En Q) (startD N__law_rim ds) := by
  rintro W ds Q _ ⟨n, nb, pts, rfl, G, hp, hl, q⟩
  have few := G.few
  let S : Nat → Int → Prop := fun i q => ∃ x ∈ pts.take i, q ∈ nbA nb x ∧ q ∉ pts
  refine ⟨Nat.zero_le _, _, rfl, _, rfl, fun i ρ => ∃ a b fs, ρ = [.im (nearD nb), .im (rowT pts), .im (.lst (dIs fs)), a, b] ∧ fs.length ≤ 4 * i ∧ i ≤ pts.length ∧ ∀ q, q ∈ fs ↔ S i q, ⟨.no, .no, [], rfl, Nat.le_refl _, Nat.zero_le _, fun q => ⟨fun h => absurd h List.not_mem_nil, fun ⟨_, h, _⟩ => absurd h (by rw [List.take_zero]; exact List.not_mem_nil)⟩⟩, fun i d ρ hd ⟨a, b, fs, e, hf, hi, hk⟩ => ?_, fun ρ ⟨a, b, fs, e, hf, hi, hk⟩ => ?_⟩
  · subst e
    obtain ⟨x, hx, rfl⟩ := dIs_get hd
    have hxp := hp x (List.mem_of_getElem? hx)
    have sh := G.short x hxp.1
    have il := (List.getElem?_eq_some_iff.mp hx).1
    refine ⟨_, rfl, _, rfl, _, rfl, _, _, _, .inr rfl, rfl, ix_nb hxp.1 (by rw [G.len]; exact hxp.2), _, rfl, comp_ints (fun y => !decide (y ∈ pts)) .int (by omega) (fun y hy R r => ?_) ?_⟩
    · exact ⟨_, rfl, _, rfl, y, pts, rfl, .inr rfl, _, rfl, by
        by_cases h : y ∈ pts
        · rw [decide_eq_true h] at r ⊢; exact r
        · rw [decide_eq_false h] at r ⊢; exact ⟨_, rfl, r⟩⟩
    · have sl : ((nbA nb x).filter fun y => !decide (y ∈ pts)).length ≤ 4 := Nat.le_trans (List.length_filter_le _ _) (by omega)
      refine ⟨_, dIs ((nbA nb x).filter fun y => !decide (y ∈ pts)), rfl, rfl, by rw [dIs_len, dIs_len]; omega, .im (.int x), b, fs ++ (nbA nb x).filter fun y => !decide (y ∈ pts), ?_, by rw [List.length_append]; omega, il, fun z => ?_⟩
      · show _ = [Sl.im (nearD nb), .im (rowT pts), .im (.lst (dIs (fs ++ _))), .im (.int x), b]
        rw [dIs_app]
        rfl
      · rw [List.mem_append, hk, List.mem_filter]
        constructor
        · rintro (⟨y, hy, h⟩ | ⟨h1, h2⟩)
          · exact ⟨y, (take_mem hx).mpr (.inl hy), h⟩
          · exact ⟨x, (take_mem hx).mpr (.inr rfl), h1, by simpa using h2⟩
        · rintro ⟨y, hy, h⟩
          rcases (take_mem hx).mp hy with hy | rfl
          · exact .inl ⟨y, hy, h⟩
          · exact .inr ⟨h.1, by simpa using h.2⟩
  · subst e
    rw [dIs_len] at hf hk hi
    refine ⟨_, rfl, fs, .inr rfl, by omega, fun ys y1 y2 => q ys y1 fun z => ?_⟩
    rw [y2, hk]
    constructor
    · rintro ⟨x, hx, h1, h2⟩
      have hx := List.mem_of_mem_take hx
      exact ⟨x, hx, ⟨(hp x hx).1, h1⟩, h2⟩
    · rintro ⟨x, hx, ⟨_, h1⟩, h2⟩
      exact ⟨x, by rw [List.take_of_length_le (Nat.le_refl _)]; exact hx, h1, h2⟩
/-! ### a search: what is found, what is still to be looked at -/
structure Srch (N : Int → Int → Prop) (P : Int → Prop) (p : Int) (fs es : List Int) : Prop where
  nd : fs.Nodup
  st : p ∈ fs
  ok : ∀ q ∈ fs, Conn N P p q
  ed : ∀ q ∈ es, q ∈ fs
  cl : ∀ q ∈ fs, q ∈ es ∨ ∀ z, N q z → P z → z ∈ fs
theorem Srch.first {N : Int → Int → Prop} {P : Int → Prop} {p : Int} (hp : P p) : Srch N P p [p] [p] :=
  ⟨List.pairwise_singleton _ _, List.mem_singleton.mpr rfl, fun q hq => by rw [List.mem_singleton.mp hq]; exact .refl hp, fun q hq => hq, fun q hq => .inl hq⟩
theorem Srch.done {N : Int → Int → Prop} {P : Int → Prop} {p : Int} {fs : List Int} (s : Srch N P p fs []) : ∀ q, q ∈ fs ↔ Conn N P p q := fun q => by
  refine ⟨s.ok q, fun c => c.stays s.st fun a b ha n hb => ?_⟩
  rcases s.cl a ha with h | h
  · exact absurd h List.not_mem_nil
  · exact h b n hb
/-- the last of the edge, then all that lie near it -/
theorem Srch.turn {N : Int → Int → Prop} {P : Int → Prop} {p x : Int} {fs es fresh : List Int} (s : Srch N P p fs (es ++ [x])) (nd : fresh.Nodup) (h : ∀ z, z ∈ fresh ↔ (N x z ∧ P z) ∧ z ∉ fs) : Srch N P p (fs ++ fresh) (es ++ fresh) where
  nd := by
    rw [List.nodup_append]
    exact ⟨s.nd, nd, fun a ha b hb e => ((h b).mp hb).2 (e ▸ ha)⟩
  st := List.mem_append_left _ s.st
  ok := fun q hq => by
    rcases List.mem_append.mp hq with hq | hq
    · exact s.ok q hq
    · obtain ⟨⟨a, b⟩, _⟩ := (h q).mp hq
      exact .step (s.ok x (s.ed x (List.mem_append_right _ (List.mem_singleton.mpr rfl)))) a b
  ed := fun q hq => by
    rcases List.mem_append.mp hq with hq | hq
    · exact List.mem_append_left _ (s.ed q (List.mem_append_left _ hq))
    · exact List.mem_append_right _ hq
  cl := fun q hq => by
    by_cases e : q = x
    · subst e
      refine .inr fun z n pz => ?_
      by_cases hz : z ∈ fs
      · exact List.mem_append_left _ hz
      · exact List.mem_append_right _ ((h z).mpr ⟨⟨n, pz⟩, hz⟩)
    · rcases List.mem_append.mp hq with hq | hq
      · rcases s.cl q hq with hq | hq
        · rcases List.mem_append.mp hq with hq | hq
          · exact .inl (List.mem_append_left _ hq)
          · exact absurd (List.mem_singleton.mp hq) e
        · exact .inr fun z n pz => List.mem_append_left _ (hq z n pz)
      · exact .inl (List.mem_append_right _ hq)
theorem snoc_of {es : List Int} (h : es ≠ []) : ∃ r x, es = r ++ [x] := ⟨es.dropLast, es.getLast h, (List.dropLast_concat_getLast h).symm⟩
theorem dIs_empty (es : List Int) : (dIs es).isEmpty = es.isEmpty := by cases es <;> rfl
theorem pr_law_part : ∀ W ds Q, ds.length = 3 → Fp_law_part W ds Q → T__law_part W (En Q) (startD N__law_part ds) := by
  rintro W ds Q _ ⟨n, nb, kept, p, rfl, G, hk, hp, q⟩
  have few := G.few
  let P : Int → Prop := fun x => x ∈ kept
  have inn : ∀ z, Conn (nbR nb) P p z → 0 ≤ z ∧ z < n := fun z c => hk z c.r
  have lenF : ∀ {fs es}, Srch (nbR nb) P p fs es → fs.length ≤ n := fun s => nodup_pts_len s.nd fun z hz => inn z (s.ok z hz)
  let I : Nat → List Sl → Prop := fun i ρ => ∃ a b c d fs es, ρ = [.im (nearD nb), .im (.lst (dIs kept)), .im (.int p), a, .im (.lst (dIs fs)), .ml (dIs es), b, c, d] ∧ Srch (nbR nb) P p fs es ∧ fs.length = es.length + i
  let Fi : List Sl → Prop := fun ρ => ∃ a b c d e fs, ρ = [.im (nearD nb), .im (.lst (dIs kept)), .im (.int p), a, .im (.lst (dIs fs)), e, b, c, d] ∧ Srch (nbR nb) P p fs []
  have fin : ∀ ρ, Fi ρ → (dRet (dCB fTuple (aCons (dL (dCBL fSort (aCons (dVar 4) aNil))) aNil))) (En Q) ρ := by
    rintro ρ ⟨a, b, c, d, e, fs, rfl, s⟩
    refine ⟨_, rfl, fs, rfl, _, .inl rfl, ?_⟩
    exact q _ (sortI_lt s.nd) fun z => by rw [(sortI_perm fs).mem_iff]; exact s.done z
  refine ⟨_, rfl, by show 1 ≤ 100000; decide, _, rfl, by show 1 ≤ 100000; decide, ?_⟩
  refine ⟨999, rfl, by decide, by decide, I, ⟨.no, .no, .no, .no, [p], [p], rfl, .first hp, rfl⟩, fun i d ρ hd ⟨a, b, c, d', fs, es, e, s, l⟩ => ?_, fun ρ ⟨a, b, c, d', fs, es, e, s, l⟩ => ?_⟩
  · subst e
    refine ⟨_, rfl, okE_ints es, ?_⟩
    rw [dIs_empty]
    cases hes : es with
    | nil =>
      subst hes
      exact fin _ ⟨_, _, _, _, _, fs, rfl, s⟩
    | cons e0 es0 =>
      obtain ⟨r, x, hr⟩ := snoc_of (es := e0 :: es0) (List.cons_ne_nil _ _)
      rw [hes, hr] at s l
      rw [hr]
      have xin := inn x (s.ok x (s.ed x (List.mem_append_right _ (List.mem_singleton.mpr rfl))))
      have sh := G.short x xin.1
      have lf := lenF s
      rw [show (r ++ [x]).isEmpty = false by cases r <;> rfl]
      refine ⟨dIs r, .int x, by rw [dIs_app]; rfl, ?_⟩
      refine ⟨_, rfl, _, rfl, _, _, _, .inr rfl, rfl, ix_nb xin.1 (by rw [G.len]; exact xin.2), _, rfl, comp_ints (fun y => decide (y ∈ kept) && !decide (y ∈ fs)) .int (by omega) (fun y hy R rr => ?_) ?_⟩
      · refine ⟨_, rfl, _, rfl, y, kept, rfl, .inl rfl, _, rfl, ?_⟩
        by_cases h1 : y ∈ kept
        · rw [decide_eq_true h1] at rr ⊢
          refine ⟨_, rfl, _, rfl, y, fs, rfl, .inl rfl, _, rfl, ?_⟩
          by_cases h2 : y ∈ fs
          · rw [decide_eq_true h2] at rr ⊢; exact rr
          · rw [decide_eq_false h2] at rr ⊢; exact ⟨_, rfl, rr⟩
        · rw [decide_eq_false h1] at rr ⊢; exact rr
      · have fr : ∀ z, z ∈ ((nbA nb x).filter fun y => decide (y ∈ kept) && !decide (y ∈ fs)) ↔ (nbR nb x z ∧ P z) ∧ z ∉ fs := fun z => by
          rw [List.mem_filter]
          constructor
          · rintro ⟨h1, h2⟩
            have h3 := Bool.and_eq_true_iff.mp h2
            exact ⟨⟨⟨xin.1, h1⟩, of_decide_eq_true h3.1⟩, by simpa using h3.2⟩
          · rintro ⟨⟨⟨_, h1⟩, h2⟩, h3⟩
            exact ⟨h1, by rw [Bool.and_eq_true_iff]; exact ⟨decide_eq_true h2, by simpa using h3⟩⟩
        have s2 := s.turn ((G.nd x).filter _) fr
        have l2 := lenF s2
        rw [List.length_append] at l2
        have lr : r.length ≤ fs.length := by rw [List.length_append] at l; simp only [List.length_singleton] at l; omega
        refine ⟨_, rfl, _, rfl, _, _, rfl, rfl, by rw [dIs_len, List.length_map]; omega, _, rfl, _, rfl, _, rfl, by rw [dIs_len, List.length_map]; omega, ?_⟩
        refine ⟨.im d, .im (.int x), .im (.lst (dIs ((nbA nb x).filter fun y => decide (y ∈ kept) && !decide (y ∈ fs)))), d', _, _, ?_, s2, ?_⟩
        · simp only [dIs_app]
          rfl
        · rw [List.length_append, List.length_append]
          rw [List.length_append] at l
          simp only [List.length_singleton] at l
          omega
  · exfalso
    have := lenF s
    rw [rng_len] at l
    simp at l
    omega
end NR
/-! Flats, bumps. -/
namespace NR
open PySem L2
theorem putKs_new {ks : List Int} {k : Int} (h : k ∉ ks) : putKs ks k = ks ++ [k] := if_neg h
theorem nil_or_snoc (es : List Int) : es = [] ∨ ∃ r x, es = r ++ [x] := by
  by_cases h : es = []
  · exact .inl h
  · exact .inr (snoc_of h)
theorem pr_flat_with : ∀ W ds Q, ds.length = 3 → Fp_flat_with W ds Q → T_flat_with W (En Q) (startD N_flat_with ds) := by
  rintro W ds Q _ ⟨n, nb, h, p, rfl, G, hl, p0, p1, q⟩
  have few := G.few
  let P : Int → Prop := fun x => hF h x = hF h p
  have inn : ∀ z, Conn (nbR nb) P p z → 0 ≤ z ∧ z < n := fun z c => mem_pts.mp (circ_in G.gph (mem_pts.mpr ⟨p0, p1⟩) (c.mono fun _ _ => trivial))
  have lenF : ∀ {fs es}, Srch (nbR nb) P p fs es → fs.length ≤ n := fun s => nodup_pts_len s.nd fun z hz => inn z (s.ok z hz)
  refine ⟨_, rfl, p, rfl, _, rfl, by show 1 ≤ 100000; decide, ?_⟩
  refine ⟨fun m ρ => ∃ a b ks rs, ρ = [.im (nearD nb), .im (rowT h), .im (.int p), .mk ks, .ml (dIs rs), a, b] ∧ Srch (nbR nb) P p ks rs ∧ rs.length ≤ ks.length ∧ m = 2 * (n - ks.length) + rs.length, ⟨_, .no, .no, [p], [p], rfl, .first rfl, Nat.le_refl _, rfl⟩, ?_⟩
  rintro m ρ ⟨a, b, ks, rs, rfl, s, rl0, rfl⟩
  refine ⟨_, rfl, okE_ints rs, ?_⟩
  rw [dIs_empty]
  rcases nil_or_snoc rs with rfl | ⟨r, x, rfl⟩
  · exact ⟨_, _, rfl, rfl, _, rfl, q ks s.nd s.done⟩
  · have xdummy := ks
    have xks : x ∈ ks := s.ed x (List.mem_append_right _ (List.mem_singleton.mpr rfl))
    have xc := s.ok x xks
    have xin := inn x xc
    have xh : hF h x = hF h p := xc.r
    have sh := G.short x xin.1
    have lf := lenF s
    have hx1 : x < h.length := by omega
    have rl : r.length ≤ 1000 := by rw [List.length_append] at rl0; omega
    rw [show (r ++ [x]).isEmpty = false by cases r <;> rfl]
    refine ⟨dIs r, .int x, by rw [dIs_app]; rfl, ?_⟩
    let FR : Nat → List Int → Prop := fun j fr => fr.Nodup ∧ ∀ z, z ∈ fr ↔ (z ∈ (nbA nb x).take j ∧ P z) ∧ z ∉ ks
    have frl : ∀ {j fr}, FR j fr → fr.length ≤ n := fun f => nodup_pts_len f.1 fun z hz => G.inn x z ⟨xin.1, List.mem_of_mem_take ((f.2 z).mp hz).1.1⟩
    refine ⟨_, rfl, _, rfl, _, _, _, .inr rfl, rfl, ix_nb xin.1 (by rw [G.len]; exact xin.2), _, rfl, fun j ρ => ∃ b fr, ρ = [.im (nearD nb), .im (rowT h), .im (.int p), .mk (ks ++ fr), .ml (dIs (r ++ fr)), .im (.int x), b] ∧ FR j fr,
      ⟨b, [], by rw [List.append_nil, List.append_nil]; rfl, List.nodup_nil, fun z => by simp⟩, fun j d ρ hd ⟨b, fr, e, f⟩ => ?_, fun ρ ⟨b, fr, e, f⟩ => ?_⟩
    · subst e
      obtain ⟨y, hy, rfl⟩ := dIs_get hd
      have yin := G.inn x y ⟨xin.1, List.mem_of_getElem? hy⟩
      refine ⟨_, rfl, _, rfl, _, _, _, .inl rfl, rfl, ix_h yin.1 (by omega), _, rfl, _, rfl, _, _, _, .inl rfl, rfl, ix_h xin.1 hx1, .inl ⟨_, _, rfl, rfl, _, rfl, ?_⟩⟩
      have keep : ∀ (g : ¬ (P y ∧ y ∉ ks ++ fr)), ∃ b' fr', [Sl.im (nearD nb), .im (rowT h), .im (.int p), .mk (ks ++ fr), .ml (dIs (r ++ fr)), .im (.int x), .im (.int y)] = [.im (nearD nb), .im (rowT h), .im (.int p), .mk (ks ++ fr'), .ml (dIs (r ++ fr')), .im (.int x), b'] ∧ FR (j + 1) fr' := fun g => by
        refine ⟨_, fr, rfl, f.1, fun z => ?_⟩
        rw [f.2, take_mem hy]
        constructor
        · rintro ⟨⟨h1, h2⟩, h3⟩
          exact ⟨⟨.inl h1, h2⟩, h3⟩
        · rintro ⟨⟨h1 | rfl, h2⟩, h3⟩
          · exact ⟨⟨h1, h2⟩, h3⟩
          · have : z ∈ ks ++ fr := Classical.not_not.mp fun w => g ⟨h2, w⟩
            rcases List.mem_append.mp this with w | w
            · exact absurd w h3
            · exact (f.2 z).mp w
      by_cases e1 : hF h y = hF h x
      · simp only [Bool.false_eq_true, if_false]
        rw [decide_eq_true e1]
        refine ⟨_, rfl, y, ks ++ fr, rfl, rfl, ?_⟩
        by_cases e2 : y ∈ ks ++ fr
        · rw [decide_eq_true e2]
          exact keep fun g => g.2 e2
        · rw [decide_eq_false e2]
          have l1 := frl f
          have py : P y := e1.trans xh
          refine ⟨rfl, ks ++ fr, rfl, by rw [List.length_append]; omega, _, rfl, y, rfl, dIs (r ++ fr), rfl, by rw [dIs_len, List.length_append]; have := s.nd; have l3 : r.length ≤ 1000 := rl; omega, _, rfl, .im (.int y), fr ++ [y], ?_, ?_, fun z => ?_⟩
          · rw [putKs_new e2, List.append_assoc, ← List.append_assoc r, dIs_app (r ++ fr)]
            rfl
          · rw [List.nodup_append]
            exact ⟨f.1, List.pairwise_singleton _ _, fun a ha b hb e => e2 (List.mem_append_right _ (by rw [← List.mem_singleton.mp hb, ← e]; exact ha))⟩
          · rw [List.mem_append, List.mem_singleton, f.2, take_mem hy]
            constructor
            · rintro (⟨⟨h1, h2⟩, h3⟩ | rfl)
              · exact ⟨⟨.inl h1, h2⟩, h3⟩
              · exact ⟨⟨.inr rfl, py⟩, fun w => e2 (List.mem_append_left _ w)⟩
            · rintro ⟨⟨h1 | rfl, h2⟩, h3⟩
              · exact .inl ⟨⟨h1, h2⟩, h3⟩
              · exact .inr rfl
      · simp only [Bool.false_eq_true, if_false]
        rw [decide_eq_false e1]
        exact keep fun g => e1 (g.1.trans xh.symm)
    · subst e
      rw [dIs_len] at f
      have fx : (nbA nb x).take (nbA nb x).length = nbA nb x := List.take_of_length_le (Nat.le_refl _)
      have f : fr.Nodup ∧ ∀ z, z ∈ fr ↔ (z ∈ nbA nb x ∧ P z) ∧ z ∉ ks := ⟨f.1, fun z => by have := f.2 z; rw [fx] at this; exact this⟩
      have s2 := s.turn f.1 fun z => by rw [f.2 z]; exact ⟨fun ⟨⟨h1, h2⟩, h3⟩ => ⟨⟨⟨xin.1, h1⟩, h2⟩, h3⟩, fun ⟨⟨⟨_, h1⟩, h2⟩, h3⟩ => ⟨⟨h1, h2⟩, h3⟩⟩
      have l2 := lenF s2
      rw [List.length_append] at l2
      rw [List.length_append] at rl0
      simp only [List.length_singleton] at rl0
      refine ⟨_, ?_, .im (.int x), b, _, _, rfl, s2, ?_, rfl⟩
      · rw [List.length_append, List.length_append, List.length_append]
        simp only [List.length_singleton]
        omega
      · rw [List.length_append, List.length_append]
        omega
theorem mem_union : ∀ {more ks : List Int} {q : Int}, q ∈ unionKs ks more ↔ q ∈ ks ∨ q ∈ more
  | [], ks, q => ⟨.inl, fun h => h.elim id fun h => absurd h List.not_mem_nil⟩
  | k :: r, ks, q => by
    show q ∈ unionKs (putKs ks k) r ↔ _
    rw [mem_union, mem_putKs, List.mem_cons, or_assoc]
theorem union_nodup : ∀ {more ks : List Int}, ks.Nodup → (unionKs ks more).Nodup
  | [], ks, h => h
  | k :: r, ks, h => union_nodup (more := r) (putKs_nodup h)
theorem rng_at {n : Int} {i : Nat} {d : D} (h : (rng 0 n)[i]? = some d) : d = .int (i : Nat) ∧ (i : Int) < n := by
  have l := (List.getElem?_eq_some_iff.mp h).1
  rw [rng_len] at l
  have l' : i < (n - 0).toNat := l
  rw [rng_get l'] at h
  cases h
  refine ⟨?_, by omega⟩
  rw [Int.zero_add]
section
variable {n : Nat} {nb : List (List Int)} {h F : List Int}
theorem flat_in (G : NbOk n nb) {p q : Int} (p0 : 0 ≤ p) (p1 : p < n) {P : Int → Prop} (c : Conn (nbR nb) P p q) : 0 ≤ q ∧ q < n := mem_pts.mp (circ_in G.gph (mem_pts.mpr ⟨p0, p1⟩) (c.mono fun _ _ => trivial))
theorem IsFl.inn (G : NbOk n nb) (f : IsFl n nb h F) : ∀ q ∈ F, 0 ≤ q ∧ q < n := fun q hq => by
  obtain ⟨_, p, p0, p1, hm⟩ := f
  exact flat_in G p0 p1 ((hm q).mp hq)
theorem lt_nodup {F : List Int} (h : F.Pairwise (· < ·)) : F.Nodup := by
  rw [List.nodup_iff_pairwise_ne]
  exact h.imp fun h => by omega
theorem IsFl.len (G : NbOk n nb) (f : IsFl n nb h F) : F.length ≤ n := nodup_pts_len (lt_nodup f.1) (f.inn G)
/-- a flat is one of each of its points -/
theorem IsFl.of (G : NbOk n nb) (f : IsFl n nb h F) {x : Int} (hx : x ∈ F) : ∀ q, q ∈ F ↔ Flat (nbR nb) (hF h) x q := fun q => by
  obtain ⟨_, p, p0, p1, hm⟩ := f
  have cx := (hm x).mp hx
  have ex : hF h x = hF h p := cx.r
  have e : (fun q => hF h q = hF h x) = fun q => hF h q = hF h p := by rw [ex]
  show q ∈ F ↔ Conn (nbR nb) (fun q => hF h q = hF h x) x q
  rw [hm, e]
  exact ⟨fun c => (cx.symm G.sy).trans c, fun c => cx.trans c⟩
end
theorem pr_flats_of : ∀ W ds Q, ds.length = 2 → Fp_flats_of W ds Q → T_flats_of Fp_flat_with W (En Q) (startD N_flats_of ds) := by
  rintro W ds Q _ ⟨n, nb, h, rfl, G, hl, q⟩
  have few := G.few
  refine ⟨Nat.zero_le _, _, rfl, dIs h, .inl rfl, _, rfl, by rw [dIs_len]; omega, by rw [dIs_len]; omega, ?_⟩
  refine ⟨fun i ρ => ∃ a b fl ks, ρ = [.im (nearD nb), .im (rowT h), a, .ml (fl.map tupI), .mk ks, b] ∧ fl.length ≤ i ∧ i ≤ n ∧ (∀ F ∈ fl, IsFl n nb h F) ∧ ks.Nodup ∧ (∀ q, q ∈ ks ↔ ∃ F ∈ fl, q ∈ F) ∧ ∀ p : Int, 0 ≤ p → p < i → p ∈ ks,
    ⟨.no, .no, [], [], rfl, Nat.le_refl _, Nat.zero_le _, fun _ h => absurd h List.not_mem_nil, List.nodup_nil, fun q => ⟨fun h => absurd h List.not_mem_nil, fun ⟨_, h, _⟩ => absurd h List.not_mem_nil⟩, fun p h1 h2 => by omega⟩, fun i d ρ hd ⟨a, b, fl, ks, e, f1, f2, f3, f4, f5, f6⟩ => ?_, fun ρ ⟨a, b, fl, ks, e, f1, f2, f3, f4, f5, f6⟩ => ?_⟩
  · subst e
    obtain ⟨rfl, hi⟩ := rng_at hd
    rw [dIs_len, hl] at hi
    refine ⟨_, rfl, (i : Nat), ks, rfl, rfl, ?_⟩
    have kin : ∀ q ∈ ks, 0 ≤ q ∧ q < n := fun q hq => by
      obtain ⟨F, hF, hq⟩ := (f5 q).mp hq
      exact (f3 F hF).inn G q hq
    by_cases hk : ((i : Nat) : Int) ∈ ks
    · rw [decide_eq_true hk]
      refine ⟨_, b, fl, ks, rfl, by omega, by omega, f3, f4, f5, fun p h1 h2 => ?_⟩
      by_cases e : p = (i : Nat)
      · rw [e]; exact hk
      · exact f6 p h1 (by omega)
    · rw [decide_eq_false hk]
      refine ⟨_, rfl, _, rfl, _, rfl, rfl, n, nb, h, _, rfl, G, hl, by omega, hi, fun more m1 m2 => ?_⟩
      have fl1 : IsFl n nb h (sortI more) := ⟨sortI_lt m1, _, by omega, hi, fun z => by rw [(sortI_perm more).mem_iff]; exact m2 z⟩
      have ml : more.length ≤ n := nodup_pts_len m1 fun z hz => flat_in G (by omega) hi ((m2 z).mp hz)
      have kl : ks.length ≤ n := nodup_pts_len f4 kin
      refine ⟨_, rfl, by rw [List.length_map]; omega, _, rfl, more, rfl, by omega, _, .inl rfl, ks, rfl, _, rfl, more, rfl, by omega, .im (.int (i : Nat)), .im (.dk more), fl ++ [sortI more], unionKs ks more, ?_, ?_, by omega, fun F hF => ?_, union_nodup f4, fun z => ?_, fun p h1 h2 => ?_⟩
      · rw [List.map_append]
        rfl
      · rw [List.length_append]
        simp only [List.length_singleton]
        omega
      · rcases List.mem_append.mp hF with hF | hF
        · exact f3 F hF
        · rw [List.mem_singleton.mp hF]; exact fl1
      · rw [mem_union, f5]
        constructor
        · rintro (⟨F, hF, hz⟩ | hz)
          · exact ⟨F, List.mem_append_left _ hF, hz⟩
          · exact ⟨_, List.mem_append_right _ (List.mem_singleton.mpr rfl), (sortI_perm more).mem_iff.mpr hz⟩
        · rintro ⟨F, hF, hz⟩
          rcases List.mem_append.mp hF with hF | hF
          · exact .inl ⟨F, hF, hz⟩
          · rw [List.mem_singleton.mp hF] at hz
            exact .inr ((sortI_perm more).mem_iff.mp hz)
      · rw [mem_union]
        by_cases e : p = (i : Nat)
        · right
          rw [e, m2]
          exact .refl rfl
        · exact .inl (f6 p h1 (by omega))
  · subst e
    rw [rng_len, dIs_len, hl] at f6 f1
    refine ⟨_, _, rfl, rfl, _, rfl, q fl ⟨by omega, f3, fun p h1 h2 => (f5 p).mp (f6 p h1 (by omega))⟩⟩
end NR
/-! Bumps, cuts. -/
namespace NR
open PySem L2
theorem comp_enc {α : Type} {g : DG} {C : DT} {F : DE} {vs : List Nat} {ρ : List Sl} {Q : List D → Prop} {xs : List α} {enc : α → D} (b : α → Bool) (f : α → D) (hl : xs.length ≤ 100000)
    (step : ∀ x ∈ xs, ∀ R : Option D → Prop, (if b x = true then R (some (f x)) else R none) → g (enc x) (wipeD ρ vs) fun ρ' => C ρ' fun b => if b = true then F ρ' fun y => R (some y) else R none) (h : Q ((xs.filter b).map f)) :
    (xs.map enc).length ≤ 100000 ∧ ∃ P : Nat → List D → Prop, P 0 [] ∧ (∀ i d acc, (xs.map enc)[i]? = some d → P i acc → g d (wipeD ρ vs) fun ρ' => C ρ' fun b => if b = true then F ρ' fun y => P (i + 1) (acc ++ [y]) else P (i + 1) acc) ∧ ∀ acc, P (xs.map enc).length acc → Q acc := by
  refine ⟨by rw [List.length_map]; exact hl, fun i acc => acc = ((xs.take i).filter b).map f, by simp, fun i d acc hd e => ?_, fun acc e => ?_⟩
  · rw [List.getElem?_map] at hd
    cases hx : xs[i]? with
    | none => rw [hx] at hd; cases hd
    | some x =>
      rw [hx] at hd
      cases hd
      have q := step x (List.mem_of_getElem? hx) (fun o => (match o with | some y => acc ++ [y] | none => acc) = ((xs.take (i + 1)).filter b).map f) (by
        rw [List.take_add_one, hx, List.filter_append, List.map_append, ← e]
        by_cases hb : b x = true
        · rw [if_pos hb]
          simp [List.filter_cons, hb]
        · rw [if_neg hb]
          simp [List.filter_cons, hb])
      exact q
  · rw [e, List.length_map, List.take_of_length_le (Nat.le_refl _)]
    exact h
theorem comp_encM {α : Type} {g : DG} {F : DE} {vs : List Nat} {ρ : List Sl} {Q : List D → Prop} {xs : List α} {enc : α → D} (f : α → D) (hl : xs.length ≤ 100000)
    (step : ∀ x ∈ xs, ∀ R : D → Prop, R (f x) → g (enc x) (wipeD ρ vs) fun ρ' => F ρ' R) (h : Q (xs.map f)) :
    (xs.map enc).length ≤ 100000 ∧ ∃ P : Nat → List D → Prop, P 0 [] ∧ (∀ i d acc, (xs.map enc)[i]? = some d → P i acc → g d (wipeD ρ vs) fun ρ' => tYesD ρ' fun b => if b = true then F ρ' fun y => P (i + 1) (acc ++ [y]) else P (i + 1) acc) ∧ ∀ acc, P (xs.map enc).length acc → Q acc := by
  refine comp_enc (C := tYesD) (fun _ => true) f hl (fun x hx R r => ?_) (by rw [List.filter_eq_self.mpr fun _ _ => rfl]; exact h)
  have := step x hx (fun y => R (some y)) r
  show g (enc x) (wipeD ρ vs) fun ρ' => if true = true then F ρ' fun y => R (some y) else R none
  simpa using this
section
variable {n : Nat} {nb : List (List Int)} {h F : List Int} {s : Int}
theorem IsFl.ne (f : IsFl n nb h F) : F ≠ [] := fun e => by
  obtain ⟨_, p, _, _, hm⟩ := f
  rw [e] at hm
  exact absurd ((hm p).mpr (.refl rfl)) List.not_mem_nil
theorem IsFl.head (f : IsFl n nb h F) : F.getD 0 0 ∈ F := by
  cases F with
  | nil => exact absurd rfl f.ne
  | cons x r => exact List.mem_cons_self
open Classical in
theorem cnt_list {vs L : List Int} (nv : vs.Nodup) (nl : L.Nodup) (h : ∀ q ∈ L, q ∈ vs) {S : Int → Prop} (hs : ∀ q, q ∈ L ↔ S q) : cnt vs S = L.length := by
  unfold cnt
  have a := nodup_len (l := vs.filter fun q => decide (S q)) (m := L) (nv.filter _) fun x hx => (hs x).mpr (of_decide_eq_true (List.mem_filter.mp hx).2)
  have b := nodup_len (l := L) (m := vs.filter fun q => decide (S q)) nl fun x hx => List.mem_filter.mpr ⟨h x hx, decide_eq_true ((hs x).mp hx)⟩
  omega
/-- a flat that bumps: its points bump -/
theorem bump_iff (G : NbOk n nb) (f : IsFl n nb h F) {x : Int} (hx : x ∈ F) : Bump (ptsL n) (nbR nb) s (hF h) x ↔ (F.length : Int) ≤ s ∧ BumpF nb h F := by
  have e : Flat (nbR nb) (hF h) x = fun q => q ∈ F := funext fun q => propext (f.of G hx q).symm
  have c : cnt (ptsL n) (Flat (nbR nb) (hF h) x) = F.length := cnt_list (nodup_pts n) (lt_nodup f.1) (fun q hq => mem_pts.mpr (f.inn G q hq)) (f.of G hx)
  have hh : hF h (F.getD 0 0) = hF h x := ((f.of G hx _).mp f.head).r
  unfold Bump BumpF
  rw [c, e, hh]
end
theorem pr_is_bump : ∀ W ds Q, ds.length = 3 → Fp_is_bump W ds Q → T_is_bump Fp_rim W (En Q) (startD N_is_bump ds) := by
  rintro W ds Q _ ⟨n, nb, h, F, rfl, G, hl, f, q⟩
  have few := G.few
  have fl := f.len G
  have h0 := f.inn G _ f.head
  have ln : 0 < F.length := List.length_pos_iff.mpr f.ne
  refine ⟨_, rfl, _, rfl, rfl, n, nb, F, rfl, G, f.inn G, by omega, fun ys y1 y2 => ?_⟩
  have yin : ∀ y ∈ ys, 0 ≤ y ∧ y < n := fun y hy => by
    obtain ⟨x, hx, nx, _⟩ := (y2 y).mp hy
    exact G.inn x y nx
  have yl : ys.length ≤ n := nodup_pts_len (lt_nodup y1) yin
  refine ⟨_, rfl, by show 0 ≤ 100000; decide, _, rfl, rfl, okE_ints ys, _, rfl, ?_⟩
  rw [dIs_empty]
  cases ys with
  | nil => exact q false ⟨fun h => absurd h Bool.false_ne_true, fun ⟨⟨z, hz⟩, _⟩ => absurd ((y2 z).mpr hz) List.not_mem_nil⟩
  | cons y0 yr =>
    simp only [List.isEmpty_cons, Bool.not_false, if_true]
    refine ⟨_, rfl, _, rfl, comp_encM (xs := y0 :: yr) (enc := D.int) (fun y => .int (hF h y)) (by omega) (fun y hy R r => ?_) ?_⟩
    · have := yin y hy
      exact ⟨_, rfl, _, rfl, _, _, _, .inl rfl, rfl, ix_h this.1 (by omega), r⟩
    · refine ⟨(y0 :: yr).map (hF h), by unfold dIs; rw [List.map_map]; rfl, by simp, _, rfl, _, rfl, _, _, _, .inl rfl, rfl, ix_h (Int.le_refl _) (by omega), _, _, _, .inl rfl, rfl, ix_h h0.1 (by rw [hl]; exact h0.2), _, _, rfl, rfl, trivial, ?_⟩
      refine q _ ?_
      rw [decide_eq_true_iff]
      show maxI ((y0 :: yr).map (hF h)) < hF h (hF F 0) ↔ _
      have e0 : hF F 0 = F.getD 0 0 := rfl
      rw [e0]
      constructor
      · intro lt
        refine ⟨⟨y0, (y2 y0).mp List.mem_cons_self⟩, fun z hz => ?_⟩
        have := le_maxI (List.mem_map.mpr ⟨z, (y2 z).mpr hz, rfl⟩ : hF h z ∈ (y0 :: yr).map (hF h))
        omega
      · rintro ⟨_, lt⟩
        obtain ⟨z, hz, e⟩ := List.mem_map.mp (maxI_mem (ns := (y0 :: yr).map (hF h)) (by simp))
        rw [← e]
        exact lt z ((y2 z).mp hz)
open Classical in
theorem pr_bumps_of : ∀ W ds Q, ds.length = 3 → Fp_bumps_of W ds Q → T_bumps_of Fp_flats_of Fp_is_bump W (En Q) (startD N_bumps_of ds) := by
  rintro W ds Q _ ⟨n, nb, h, s, rfl, G, hl, q⟩
  refine ⟨_, rfl, _, rfl, rfl, n, nb, h, rfl, G, hl, fun fl ⟨f1, f2, f3⟩ => ?_⟩
  refine ⟨_, rfl, comp_enc (xs := fl) (enc := tupI) (fun F => decide ((F.length : Int) ≤ s) && decide (BumpF nb h F)) tupI (by omega) (fun F hF' R r => ?_) ?_⟩
  · refine ⟨_, rfl, dIs F, .inl rfl, _, rfl, _, _, rfl, rfl, trivial, _, rfl, ?_⟩
    rw [dIs_len]
    by_cases h1 : (F.length : Int) ≤ s
    · rw [decide_eq_true h1] at r ⊢
      refine ⟨_, rfl, _, rfl, _, rfl, rfl, n, nb, h, F, rfl, G, hl, f2 F hF', fun b hb => ⟨_, rfl, ?_⟩⟩
      have e : b = decide (BumpF nb h F) := by
        rw [Bool.eq_iff_iff, decide_eq_true_iff]; exact hb
      rw [e]
      by_cases h2 : BumpF nb h F
      · rw [decide_eq_true h2] at r ⊢; exact ⟨_, rfl, r⟩
      · rw [decide_eq_false h2] at r ⊢; exact r
    · rw [decide_eq_false h1] at r ⊢; exact r
  · refine q _ ⟨Nat.le_trans (List.length_filter_le _ _) f1, fun F hF' => ?_, fun p p0 p1 hb => ?_⟩
    · obtain ⟨m1, m2⟩ := List.mem_filter.mp hF'
      have m3 := Bool.and_eq_true_iff.mp m2
      exact ⟨f2 F m1, fun p hp => (bump_iff G (f2 F m1) hp).mpr ⟨of_decide_eq_true m3.1, of_decide_eq_true m3.2⟩⟩
    · obtain ⟨F, m, hp⟩ := f3 p p0 p1
      obtain ⟨b1, b2⟩ := (bump_iff G (f2 F m) hp).mp hb
      exact ⟨F, List.mem_filter.mpr ⟨m, by rw [decide_eq_true b1, decide_eq_true b2]; rfl⟩, hp⟩
end NR
/-! The cut. -/
namespace NR
open PySem L2
theorem low_of {h : Int → Int} (S : Int → Prop) (vs : List Int) (e : ∃ q ∈ vs, S q) : ∃ m ∈ vs, S m ∧ ∀ q ∈ vs, S q → h m ≤ h q := by
  obtain ⟨m, hm, sm, k⟩ := top_of (h := fun q => -h q) S vs e
  exact ⟨m, hm, sm, fun q hq sq => by have : -h q ≤ -h m := k q hq sq; omega⟩
section
variable {n : Nat} {nb : List (List Int)} {h : List Int} {s : Int}
theorem hF_mem {p : Int} (h0 : 0 ≤ p) (h1 : p < h.length) : hF h p ∈ h := by
  unfold hF
  rw [List.getD_eq_getElem?_getD, List.getElem?_eq_getElem (show p.toNat < h.length by omega)]
  exact List.getElem_mem _
theorem hF_map {f : Int → Int} {p : Int} (h0 : 0 ≤ p) (h1 : p < n) : hF ((ptsL n).map f) p = f p := by
  unfold hF ptsL
  rw [List.getD_eq_getElem?_getD, List.getElem?_map, List.getElem?_map, List.getElem?_range (by omega)]
  show f ((p.toNat : Nat) : Int) = f p
  rw [show ((p.toNat : Nat) : Int) = p by omega]
theorem row_ext {a b : List Int} (ha : a.length = n) (hb : b.length = n) (e : ∀ p : Int, 0 ≤ p → p < n → hF a p = hF b p) : a = b := by
  apply List.ext_getElem (by omega)
  intro i h1 h2
  have := e i (by omega) (by omega)
  unfold hF at this
  rw [Int.toNat_natCast, List.getD_eq_getElem?_getD, List.getD_eq_getElem?_getD, List.getElem?_eq_getElem h1, List.getElem?_eq_getElem h2] at this
  exact this
theorem cutL_len : (cutL n nb s h).length = n := by unfold cutL; rw [List.length_map, pts_len]
theorem cut_is (G : NbOk n nb) (hl : h.length = n) : IsCut (ptsL n) (nbR nb) s (hF h) (hF (cutL n nb s h)) := by
  classical
  have at_ : ∀ p ∈ ptsL n, hF (cutL n nb s h) p = maxI (h.filter fun L => decide (L ≤ hF h p ∧ Big (ptsL n) (nbR nb) s (hF h) p L)) := fun p hp => by
    obtain ⟨p0, p1⟩ := mem_pts.mp hp
    unfold cutL
    rw [hF_map p0 p1]
  have val : ∀ q ∈ ptsL n, hF h q ∈ h := fun q hq => by
    obtain ⟨q0, q1⟩ := mem_pts.mp hq
    exact hF_mem q0 (by omega)
  have ne : ∀ p ∈ ptsL n, (h.filter fun L => decide (L ≤ hF h p ∧ Big (ptsL n) (nbR nb) s (hF h) p L)) ≠ [] := fun p hp e => by
    obtain ⟨m, hm, cm, low⟩ := low_of (h := hF h) (Circ (nbR nb) p) (ptsL n) ⟨p, hp, .refl trivial⟩
    have : hF h m ∈ h.filter fun L => decide (L ≤ hF h p ∧ Big (ptsL n) (nbR nb) s (hF h) p L) :=
      List.mem_filter.mpr ⟨val m hm, decide_eq_true ⟨low p hp (.refl trivial), .inr fun q c => low q (circ_in G.gph hp c) c⟩⟩
    rw [e] at this
    exact absurd this List.not_mem_nil
  have mem : ∀ p ∈ ptsL n, hF (cutL n nb s h) p ≤ hF h p ∧ Big (ptsL n) (nbR nb) s (hF h) p (hF (cutL n nb s h) p) := fun p hp => by
    have m := maxI_mem (ne p hp)
    rw [← at_ p hp] at m
    exact of_decide_eq_true (List.mem_filter.mp m).2
  refine ⟨fun p hp => (mem p hp).1, fun p hp => (mem p hp).2, fun p hp L hL b => ?_⟩
  have up : ∃ L', L ≤ L' ∧ L' ∈ h ∧ L' ≤ hF h p ∧ Big (ptsL n) (nbR nb) s (hF h) p L' := by
    rcases b with b | b
    · obtain ⟨m, hm, cm, low⟩ := low_of (h := hF h) (Comp (nbR nb) (hF h) p L) (ptsL n) ⟨p, hp, .refl hL⟩
      refine ⟨hF h m, cm.r, val m hm, low p hp (.refl hL), .inl (Int.lt_of_lt_of_le b (Int.ofNat_le.mpr (cnt_mono fun q _ c => Conn.self c fun y cy => low y (circ_in G.gph hp (comp_circ cy)) cy)))⟩
    · obtain ⟨m, hm, cm, low⟩ := low_of (h := hF h) (Circ (nbR nb) p) (ptsL n) ⟨p, hp, .refl trivial⟩
      exact ⟨hF h m, b m cm, val m hm, low p hp (.refl trivial), .inr fun q c => low q (circ_in G.gph hp c) c⟩
  obtain ⟨L', l1, l2, l3, l4⟩ := up
  have := le_maxI (List.mem_filter.mpr ⟨l2, decide_eq_true ⟨l3, l4⟩⟩ : L' ∈ h.filter fun L => decide (L ≤ hF h p ∧ Big (ptsL n) (nbR nb) s (hF h) p L))
  rw [← at_ p hp] at this
  omega
/-- a row that is the greatest one is the cut -/
theorem cut_eq (G : NbOk n nb) (hl : h.length = n) {r : List Int} (rl : r.length = n) (le : ∀ p ∈ ptsL n, hF r p ≤ hF h p) (b : Bumpless (ptsL n) (nbR nb) s (hF r))
    (most : ∀ t : Int → Int, Bumpless (ptsL n) (nbR nb) s t → (∀ q ∈ ptsL n, t q ≤ hF h q) → ∀ p ∈ ptsL n, t p ≤ hF r p) : r = cutL n nb s h :=
  row_ext rl cutL_len fun p p0 p1 => isCut_of G.gph le b most (cut_is G hl) p (mem_pts.mpr ⟨p0, p1⟩)
end
end NR
/-! The program's cut. -/
namespace NR
open PySem L2
theorem ixN_of {n : Nat} {i : Int} (h0 : 0 ≤ i) (h1 : i < n) : ixN n i = some i.toNat := by
  unfold ixN
  rw [if_pos h0, if_pos h1]
theorem hF_set {L : List Int} {p q m : Int} (p0 : 0 ≤ p) (p1 : p < L.length) (q0 : 0 ≤ q) : hF (L.set p.toNat m) q = if q = p then m else hF L q := by
  unfold hF
  by_cases e : q = p
  · subst e
    rw [if_pos rfl, List.getD_eq_getElem?_getD, List.getElem?_set_self (by omega)]
    rfl
  · rw [if_neg e, List.getD_eq_getElem?_getD, List.getElem?_set_ne (by omega), ← List.getD_eq_getElem?_getD]
def msr (n : Nat) (lo : Int) (r : List Int) : Nat := ((ptsL n).map fun p => (hF r p - lo).toNat).sum
theorem sum_le : ∀ (vs : List Int) {f g : Int → Nat}, (∀ p ∈ vs, f p ≤ g p) → (vs.map f).sum ≤ (vs.map g).sum
  | [], _, _, _ => Nat.le_refl _
  | v :: vs, f, g, h => by
    have a := h v List.mem_cons_self
    have b := sum_le vs (f := f) (g := g) fun p hp => h p (List.mem_cons_of_mem _ hp)
    rw [List.map_cons, List.map_cons, List.sum_cons, List.sum_cons]
    omega
theorem sum_lt : ∀ (vs : List Int) {f g : Int → Nat}, (∀ p ∈ vs, f p ≤ g p) → (∃ p ∈ vs, f p < g p) → (vs.map f).sum < (vs.map g).sum
  | [], _, _, _, ⟨_, h, _⟩ => absurd h List.not_mem_nil
  | v :: vs, f, g, h, ⟨p, hp, lt⟩ => by
    have a := h v List.mem_cons_self
    rw [List.map_cons, List.map_cons, List.sum_cons, List.sum_cons]
    rcases List.mem_cons.mp hp with rfl | hp
    · have b := sum_le vs (f := f) (g := g) fun p hp => h p (List.mem_cons_of_mem _ hp)
      omega
    · have b := sum_lt vs (f := f) (g := g) (fun p hp => h p (List.mem_cons_of_mem _ hp)) ⟨p, hp, lt⟩
      omega
/-- what a turn keeps: L lies between every row without bumps below h and r -/
structure Keep (n : Nat) (nb : List (List Int)) (s lo : Int) (h r L : List Int) : Prop where
  len : L.length = n
  le : ∀ p ∈ ptsL n, hF L p ≤ hF r p
  lo : ∀ p ∈ ptsL n, lo ≤ hF L p
  most : ∀ t : Int → Int, Bumpless (ptsL n) (nbR nb) s t → (∀ q ∈ ptsL n, t q ≤ hF h q) → ∀ p ∈ ptsL n, t p ≤ hF L p
theorem pr_cut_of : ∀ W ds Q, ds.length = 3 → Fp_cut_of W ds Q → T_cut_of Fp_bumps_of Fp_rim W (En Q) (startD N_cut_of ds) := by
  rintro W ds Q _ ⟨n, nb, h, s, rfl, G, hl, q⟩
  have few := G.few
  let lo := minI h
  have k0 : Keep n nb s lo h h h := ⟨hl, fun _ _ => Int.le_refl _, fun p hp => by
    obtain ⟨p0, p1⟩ := mem_pts.mp hp
    exact minI_le (hF_mem p0 (by omega)), fun t _ ht => ht⟩
  refine ⟨fun m ρ => ∃ r a b c d e, ρ = [.im (nearD nb), .im (rowT r), .im (.int s), a, b, c, d, e] ∧ Keep n nb s lo h h r ∧ m = msr n lo r, ⟨_, h, .no, .no, .no, .no, .no, rfl, k0, rfl⟩, ?_⟩
  rintro m ρ ⟨r, a, b, c, d, e, rfl, k, rfl⟩
  have rl := k.len
  refine ⟨true, rfl, _, rfl, _, rfl, _, rfl, rfl, n, nb, r, s, rfl, G, rl, fun bs ⟨b1, b2, b3⟩ => ?_⟩
  refine ⟨_, rfl, by show 0 ≤ 100000; decide, _, rfl, rfl, okE_tups bs, _, rfl, ?_⟩
  cases bs with
  | nil =>
    refine ⟨_, rfl, ?_⟩
    have e : r = cutL n nb s h := by
      refine cut_eq G hl rl k.le (bumpless_of G.gph fun p hp hb => ?_) k.most
      obtain ⟨p0, p1⟩ := mem_pts.mp hp
      obtain ⟨F, hF, _⟩ := b3 p p0 p1 hb
      exact absurd hF List.not_mem_nil
    rw [← e] at q
    exact q
  | cons B0 br =>
    refine ⟨_, rfl, dIs r, .inr rfl, ?_⟩
    -- flat by flat
    refine ⟨_, rfl, _, rfl, fun i ρ => ∃ L c d e, ρ = [.im (nearD nb), .im (rowT r), .im (.int s), .im (.lst ((B0 :: br).map tupI)), .ml (dIs L), c, d, e] ∧ Keep n nb s lo h r L ∧ (0 < i → ∃ p ∈ ptsL n, hF L p < hF r p),
      ⟨r, c, d, e, rfl, ⟨rl, fun _ _ => Int.le_refl _, k.lo, k.most⟩, fun h => absurd h (Nat.lt_irrefl _)⟩, fun i D ρ hd ⟨L, c, d, e, eρ, kL, _⟩ => ?_, fun ρ ⟨L, c, d, e, eρ, kL, lt⟩ => ?_⟩
    · subst eρ
      rw [List.getElem?_map] at hd
      cases hF0 : (B0 :: br)[i]? with
      | none => rw [hF0] at hd; cases hd
      | some F =>
        rw [hF0] at hd
        cases hd
        have Fm : F ∈ B0 :: br := List.mem_of_getElem? hF0
        obtain ⟨f, fb⟩ := b2 F Fm
        have fl := f.len G
        have fin := f.inn G
        obtain ⟨_, ⟨z0, hz0⟩, zlt⟩ := (bump_iff G f f.head).mp (fb _ f.head)
        refine ⟨_, rfl, _, rfl, rfl, n, nb, F, rfl, G, fin, by omega, fun ys y1 y2 => ?_⟩
        have yin : ∀ y ∈ ys, 0 ≤ y ∧ y < n := fun y hy => by
          obtain ⟨x, hx, nx, _⟩ := (y2 y).mp hy
          exact G.inn x y nx
        have yl : ys.length ≤ n := nodup_pts_len (lt_nodup y1) yin
        have yne : ys.map (hF r) ≠ [] := fun e => by
          rw [List.map_eq_nil_iff] at e
          have := (y2 z0).mpr hz0
          rw [e] at this
          exact absurd this List.not_mem_nil
        refine ⟨_, rfl, comp_encM (xs := ys) (enc := D.int) (fun y => .int (hF r y)) (by omega) (fun y hy R rr => ?_) ?_⟩
        · have := yin y hy
          exact ⟨_, rfl, _, rfl, _, _, _, .inl rfl, rfl, ix_h this.1 (by omega), rr⟩
        · refine ⟨ys.map (hF r), by unfold dIs; rw [List.map_map]; rfl, yne, ?_⟩
          have mx : ∀ q, RimS (nbR nb) (fun x => x ∈ F) q → hF r q ≤ maxI (ys.map (hF r)) := fun q hq => le_maxI (List.mem_map.mpr ⟨q, (y2 q).mpr hq, rfl⟩)
          obtain ⟨zm, hzm, em⟩ := List.mem_map.mp (maxI_mem yne)
          generalize maxI (ys.map (hF r)) = M at mx em ⊢
          have zr := (y2 zm).mp hzm
          have zin := yin zm hzm
          have Mlo : lo ≤ M := by rw [← em]; exact k.lo zm (mem_pts.mpr zin)
          have hlt : ∀ p ∈ F, M < hF r p := fun p hp => by
            have := zlt zm zr
            have e2 : hF r (F.getD 0 0) = hF r p := ((f.of G hp _).mp f.head).r
            omega
          have tle : ∀ t : Int → Int, Bumpless (ptsL n) (nbR nb) s t → (∀ q ∈ ptsL n, t q ≤ hF h q) → ∀ p ∈ F, t p ≤ M := fun t bt ht p hp => by
            have e3 : Flat (nbR nb) (hF r) p = fun q => q ∈ F := funext fun q => propext (f.of G hp q).symm
            exact lower_ok G.gph (mem_pts.mpr (fin p hp)) (fb p hp) (fun q hq => mx q (by rw [e3] at hq; exact hq)) (k.most t bt ht) bt
          refine ⟨_, rfl, _, rfl, fun j ρ => ∃ L2 e, ρ = [.im (nearD nb), .im (rowT r), .im (.int s), .im (.lst ((B0 :: br).map tupI)), .ml (dIs L2), .im (tupI F), .im (.int M), e] ∧ Keep n nb s lo h r L2 ∧ ∀ p ∈ F.take j, hF L2 p = M,
            ⟨L, e, rfl, kL, fun p hp => absurd hp (by rw [List.take_zero]; exact List.not_mem_nil)⟩, fun j D ρ hd ⟨L2, e, eρ, k2, m2⟩ => ?_, fun ρ ⟨L2, e, eρ, k2, m2⟩ => ?_⟩
          · subst eρ
            obtain ⟨p, hp, rfl⟩ := dIs_get hd
            have pF : p ∈ F := List.mem_of_getElem? hp
            obtain ⟨p0, p1⟩ := fin p pF
            have l2 := k2.len
            refine ⟨_, rfl, dIs L2, rfl, _, rfl, p, p.toNat, rfl, ixN_of p0 (by rw [dIs_len]; omega), L2.set p.toNat M, .im (.int p), ?_, ?_, ?_⟩
            · show [_, _, _, _, Sl.ml ((dIs L2).set p.toNat (.int M)), _, _, _] = _
              unfold dIs
              rw [List.map_set]
            · have st : ∀ q ∈ ptsL n, hF (L2.set p.toNat M) q = if q = p then M else hF L2 q := fun q hq => hF_set p0 (by omega) (mem_pts.mp hq).1
              refine ⟨by rw [List.length_set]; exact l2, fun q hq => ?_, fun q hq => ?_, fun t bt ht q hq => ?_⟩
              · rw [st q hq]
                split
                · rename_i e; rw [e]; have := hlt p pF; omega
                · exact k2.le q hq
              · rw [st q hq]
                split
                · exact Mlo
                · exact k2.lo q hq
              · rw [st q hq]
                split
                · rename_i e; rw [e]; exact tle t bt ht p pF
                · exact k2.most t bt ht q hq
            · intro q hq
              have qF : q ∈ F := List.mem_of_mem_take hq
              rw [hF_set p0 (by omega) (fin q qF).1]
              split
              · rfl
              · rename_i ne
                exact m2 q (((take_mem hp).mp hq).resolve_right ne)
          · subst eρ
            refine ⟨L2, _, _, _, rfl, k2, fun _ => ⟨F.getD 0 0, mem_pts.mpr (fin _ f.head), ?_⟩⟩
            rw [m2 _ (by rw [dIs_len, List.take_of_length_le (Nat.le_refl _)]; exact f.head)]
            exact hlt _ f.head
    · subst eρ
      refine ⟨_, _, rfl, rfl, _, rfl, _, .inl rfl, ?_⟩
      refine ⟨msr n lo L, ?_, L, _, _, _, _, _, rfl, ⟨kL.len, fun p hp => Int.le_trans (kL.le p hp) (k.le p hp), kL.lo, kL.most⟩, rfl⟩
      obtain ⟨p, hp, lt⟩ := lt (by simp)
      refine sum_lt (ptsL n) (fun p hp => ?_) ⟨p, hp, ?_⟩
      · have := kL.le p hp; omega
      · have := kL.lo p hp; omega
end NR
/-! The law's own parts, flats, bumps. -/
namespace NR
open PySem L2
theorem pr_law_parts : ∀ W ds Q, ds.length = 2 → Fp_law_parts W ds Q → T__law_parts Fp_law_part W (En Q) (startD N__law_parts ds) := by
  rintro W ds Q _ ⟨n, nb, kept, rfl, G, hk, kl, q⟩
  have few := G.few
  have sl : (sortI kept).length = kept.length := (sortI_perm kept).length_eq
  refine ⟨Nat.zero_le _, Nat.zero_le _, ?_⟩
  refine ⟨_, rfl, kept, rfl, _, rfl, fun i ρ => ∃ a b L dn, ρ = [.im (nearD nb), .im (.lst (dIs kept)), a, .im (.lst (L.map tupI)), .im (.lst (dIs dn)), b] ∧ L.length ≤ i ∧ dn.length ≤ 4 * i ∧ i ≤ kept.length ∧
      (∀ F ∈ L, F.Pairwise (· < ·) ∧ ∃ p ∈ kept, ∀ q, q ∈ F ↔ Conn (nbR nb) (fun x => x ∈ kept) p q) ∧ (∀ q, q ∈ dn ↔ ∃ F ∈ L, q ∈ F) ∧ ∀ p ∈ (sortI kept).take i, p ∈ dn,
    ⟨.no, .no, [], [], rfl, Nat.le_refl _, Nat.le_refl _, Nat.zero_le _, fun _ h => absurd h List.not_mem_nil, fun q => ⟨fun h => absurd h List.not_mem_nil, fun ⟨_, h, _⟩ => absurd h List.not_mem_nil⟩, fun p h => absurd h (by rw [List.take_zero]; exact List.not_mem_nil)⟩,
    fun i d ρ hd ⟨a, b, L, dn, e, f1, f2, f3, f4, f5, f6⟩ => ?_, fun ρ ⟨a, b, L, dn, e, f1, f2, f3, f4, f5, f6⟩ => ?_⟩
  · subst e
    obtain ⟨x, hx, rfl⟩ := dIs_get hd
    have il := (List.getElem?_eq_some_iff.mp hx).1
    have xk : x ∈ kept := (sortI_perm kept).mem_iff.mp (List.mem_of_getElem? hx)
    refine ⟨_, rfl, _, rfl, x, dn, rfl, .inl rfl, _, rfl, ?_⟩
    by_cases hxd : x ∈ dn
    · rw [decide_eq_true hxd]
      refine ⟨_, b, L, dn, rfl, by omega, by omega, by omega, f4, f5, fun p hp => ?_⟩
      rcases (take_mem hx).mp hp with hp | rfl
      · exact f6 p hp
      · exact hxd
    · rw [decide_eq_false hxd]
      refine ⟨_, rfl, _, rfl, _, rfl, rfl, n, nb, kept, x, rfl, G, hk, xk, fun ys y1 y2 => ?_⟩
      have yl : ys.length ≤ n := nodup_pts_len (lt_nodup y1) fun z hz => hk z ((y2 z).mp hz).r
      refine ⟨_, rfl, _, rfl, by show 1 ≤ 100000; decide, _, _, rfl, rfl, by rw [List.length_map]; show L.length + 1 ≤ 100000; omega, _, rfl, _, rfl, dIs ys, .inr rfl, _, _, rfl, rfl, by rw [dIs_len, dIs_len]; omega, ?_⟩
      refine ⟨.im (.int x), .im (rowT ys), L ++ [ys], dn ++ ys, ?_, by rw [List.length_append]; show L.length + 1 ≤ i + 1; omega, by rw [List.length_append]; omega, by omega, fun F hF => ?_, fun z => ?_, fun p hp => ?_⟩
      · rw [List.map_append, dIs_app]
        rfl
      · rcases List.mem_append.mp hF with hF | hF
        · exact f4 F hF
        · rw [List.mem_singleton.mp hF]; exact ⟨y1, x, xk, y2⟩
      · rw [List.mem_append, f5]
        constructor
        · rintro (⟨F, hF, hz⟩ | hz)
          · exact ⟨F, List.mem_append_left _ hF, hz⟩
          · exact ⟨ys, List.mem_append_right _ (List.mem_singleton.mpr rfl), hz⟩
        · rintro ⟨F, hF, hz⟩
          rcases List.mem_append.mp hF with hF | hF
          · exact .inl ⟨F, hF, hz⟩
          · rw [List.mem_singleton.mp hF] at hz
            exact .inr hz
      · rcases (take_mem hx).mp hp with hp | rfl
        · exact List.mem_append_left _ (f6 p hp)
        · exact List.mem_append_right _ ((y2 _).mpr (.refl xk))
  · subst e
    rw [dIs_len, sl] at f1 f6
    refine ⟨_, rfl, q L ⟨f1, f4, fun p hp => (f5 p).mp (f6 p ?_)⟩⟩
    rw [List.take_of_length_le (by omega)]
    exact (sortI_perm kept).mem_iff.mpr hp
theorem ints_of (n : Nat) : rng 0 (n : Nat) = dIs (ptsL n) := by
  unfold rng dIs ptsL
  rw [List.map_map]
  show List.map _ (List.range ((n : Int) - 0).toNat) = _
  rw [show ((n : Int) - 0).toNat = n by omega]
  exact List.map_congr_left fun i _ => by show D.int (0 + (i : Int)) = D.int (i : Int); rw [Int.zero_add]
theorem pr_law_flats : ∀ W ds Q, ds.length = 2 → Fp_law_flats W ds Q → T__law_flats Fp_near Fp_law_parts W (En Q) (startD N__law_flats ds) := by
  rintro W ds Q _ ⟨n, ps, h, rfl, GN, hl, q⟩
  have G := GN.nb
  have few := G.few
  refine ⟨_, rfl, rfl, n, ps, rfl, GN, Nat.zero_le _, ?_⟩
  generalize nbOf n ps = nb at G q ⊢
  refine ⟨_, rfl, h, .inl rfl, by omega, fun ys y1 y2 => ⟨_, rfl, ?_⟩⟩
  have yl : ys.length ≤ n := by
    have := nodup_len (lt_nodup y1) fun z hz => (y2 z).mp hz
    omega
  refine ⟨fun i ρ => ∃ a b fl, ρ = [.im (netD n ps), .im (rowT h), a, .im (nearD nb), .im (.lst (fl.map tupI)), b] ∧ fl.length ≤ 4 * i ∧ i ≤ ys.length ∧ (∀ F ∈ fl, IsFl n nb h F) ∧ ∀ p : Int, 0 ≤ p → p < n → hF h p ∈ ys.take i → ∃ F ∈ fl, p ∈ F,
    ⟨.no, .no, [], rfl, Nat.le_refl _, Nat.zero_le _, fun _ h => absurd h List.not_mem_nil, fun p _ _ h => absurd h (by rw [List.take_zero]; exact List.not_mem_nil)⟩, fun i d ρ hd ⟨a, b, fl, e, f1, f2, f3, f4⟩ => ?_, fun ρ ⟨a, b, fl, e, f1, f2, f3, f4⟩ => ?_⟩
  · subst e
    obtain ⟨v, hv, rfl⟩ := dIs_get hd
    have il := (List.getElem?_eq_some_iff.mp hv).1
    refine ⟨_, rfl, _, rfl, _, rfl, _, _, _, .inl rfl, rfl, ix0, n, rfl, by omega, by omega, ?_⟩
    rw [ints_of]
    refine comp_ints (xs := ptsL n) (fun p => decide (hF h p = v)) .int (by rw [pts_len]; omega) (fun p hp R r => ?_) ?_
    · obtain ⟨p0, p1⟩ := mem_pts.mp hp
      refine ⟨_, rfl, _, rfl, _, _, _, .inl rfl, rfl, ix_h p0 (by omega), _, rfl, .inl ⟨_, _, rfl, rfl, _, rfl, ?_⟩⟩
      simp only [Bool.false_eq_true, if_false]
      by_cases e : hF h p = v
      · rw [decide_eq_true e] at r ⊢; exact ⟨_, rfl, r⟩
      · rw [decide_eq_false e] at r ⊢; exact r
    · have km : ∀ z, z ∈ (ptsL n).filter (fun p => decide (hF h p = v)) ↔ (0 ≤ z ∧ z < n) ∧ hF h z = v := fun z => by
        rw [List.mem_filter, mem_pts, decide_eq_true_iff]
      have kl : ((ptsL n).filter (fun p => decide (hF h p = v))).length ≤ 4 := Nat.le_trans (List.length_filter_le _ _) (by rw [pts_len]; omega)
      refine ⟨rfl, n, nb, (ptsL n).filter fun p => decide (hF h p = v), rfl, G, fun z hz => ((km z).mp hz).1, kl, fun L ⟨l1, l2, l3⟩ => ?_⟩
      refine ⟨_, _, rfl, rfl, by rw [List.length_map, List.length_map]; omega, ?_⟩
      refine ⟨.im (.int v), b, fl ++ L, ?_, by rw [List.length_append]; omega, by omega, fun F hF' => ?_, fun p p0 p1 hp => ?_⟩
      · rw [List.map_append]
        rfl
      · rcases List.mem_append.mp hF' with hF' | hF'
        · exact f3 F hF'
        · obtain ⟨s1, p, pk, hm⟩ := l2 F hF'
          obtain ⟨⟨p0, p1⟩, pv⟩ := (km p).mp pk
          refine ⟨s1, p, p0, p1, fun z => ?_⟩
          rw [hm]
          constructor
          · exact Conn.mono fun z hz => by rw [((km z).mp hz).2, pv]
          · exact fun c => Conn.self c fun z cz => (km z).mpr ⟨flat_in G p0 p1 cz, by rw [← pv]; exact cz.r⟩
      · rcases (take_mem hv).mp hp with hp | hp
        · obtain ⟨F, hF', hpF⟩ := f4 p p0 p1 hp
          exact ⟨F, List.mem_append_left _ hF', hpF⟩
        · obtain ⟨F, hF', hpF⟩ := l3 p ((km p).mpr ⟨⟨p0, p1⟩, hp⟩)
          exact ⟨F, List.mem_append_right _ hF', hpF⟩
  · subst e
    rw [dIs_len] at f1 f4 f2
    refine ⟨_, rfl, fl, rfl, fun k hk => (f3 k hk).ne, by omega, fun cs c1 _ => q cs ⟨by rw [c1.length_eq]; omega, fun F hF' => f3 F (c1.mem_iff.mp hF'), fun p p0 p1 => ?_⟩⟩
    obtain ⟨F, hF', hp⟩ := f4 p p0 p1 (by rw [List.take_of_length_le (Nat.le_refl _), y2]; exact hF_mem p0 (by omega))
    exact ⟨F, c1.mem_iff.mpr hF', hp⟩
end NR
/-! The law's own bumps, cut, fill; the program's fill. -/
namespace NR
open PySem L2
theorem pr_law_bumps : ∀ W ds Q, ds.length = 3 → Fp_law_bumps W ds Q → T__law_bumps Fp_near Fp_law_flats Fp_rim W (En Q) (startD N__law_bumps ds) := by
  rintro W ds Q _ ⟨n, ps, h, s, rfl, GN, hl, q⟩
  have G := GN.nb
  have few := G.few
  refine ⟨_, rfl, rfl, n, ps, rfl, GN, Nat.zero_le _, ?_⟩
  refine ⟨_, rfl, _, rfl, rfl, n, ps, h, rfl, GN, hl, fun fl ⟨f1, f2, f3⟩ => ⟨_, rfl, ?_⟩⟩
  generalize nbOf n ps = nb at G q f2 f3 ⊢
  refine ⟨fun i ρ => ∃ (a b c : Sl) (bs : List (List Int)), ρ = [.im (netD n ps), .im (rowT h), .im (.int s), a, .im (nearD nb), .ml (bs.map tupI), b, c] ∧ bs.length ≤ i ∧ i ≤ fl.length ∧ (∀ F ∈ bs, IsFl n nb h F ∧ ∀ p ∈ F, Bump (ptsL n) (nbR nb) s (hF h) p) ∧ ∀ F ∈ fl.take i, (F.length : Int) ≤ s ∧ BumpF nb h F → F ∈ bs,
    ⟨.no, .no, .no, [], rfl, Nat.le_refl _, Nat.zero_le _, fun _ h => absurd h List.not_mem_nil, fun F h => absurd h (by rw [List.take_zero]; exact List.not_mem_nil)⟩, fun i d ρ hd ⟨a, b, c, bs, e, g1, g2, g3, g4⟩ => ?_, fun ρ ⟨a, b, c, bs, e, g1, g2, g3, g4⟩ => ?_⟩
  · subst e
    rw [List.getElem?_map] at hd
    cases hF0 : fl[i]? with
    | none => rw [hF0] at hd; cases hd
    | some F =>
      rw [hF0] at hd
      cases hd
      have il := (List.getElem?_eq_some_iff.mp hF0).1
      have f := f2 F (List.mem_of_getElem? hF0)
      have fln := f.len G
      have h0 := f.inn G _ f.head
      have ln : 0 < F.length := List.length_pos_iff.mpr f.ne
      refine ⟨_, rfl, _, rfl, rfl, n, nb, F, rfl, G, f.inn G, by omega, fun ys y1 y2 => ?_⟩
      have yin : ∀ y ∈ ys, 0 ≤ y ∧ y < n := fun y hy => by
        obtain ⟨x, hx, nx, _⟩ := (y2 y).mp hy
        exact G.inn x y nx
      have yl : ys.length ≤ n := nodup_pts_len (lt_nodup y1) yin
      have skip : ∀ x y : Sl, ¬ ((F.length : Int) ≤ s ∧ BumpF nb h F) → ∃ (a b c : Sl) (bs' : List (List Int)), [Sl.im (netD n ps), .im (rowT h), .im (.int s), .im (tupI F), .im (nearD nb), .ml (bs.map tupI), x, y] = [.im (netD n ps), .im (rowT h), .im (.int s), a, .im (nearD nb), .ml (bs'.map tupI), b, c] ∧ bs'.length ≤ i + 1 ∧ i + 1 ≤ fl.length ∧ (∀ F ∈ bs', IsFl n nb h F ∧ ∀ p ∈ F, Bump (ptsL n) (nbR nb) s (hF h) p) ∧ ∀ F ∈ fl.take (i + 1), (F.length : Int) ≤ s ∧ BumpF nb h F → F ∈ bs' := fun x y no =>
        ⟨_, _, _, bs, rfl, by omega, il, g3, fun F' hF' hb => by
          rcases (take_mem hF0).mp hF' with h1 | rfl
          · exact g4 F' h1 hb
          · exact absurd hb no⟩
      refine ⟨_, rfl, comp_encM (xs := ys) (enc := D.int) (fun y => .int (hF h y)) (by omega) (fun y hy R r => ?_) ?_⟩
      · have := yin y hy
        exact ⟨_, rfl, _, rfl, _, _, _, .inl rfl, rfl, ix_h this.1 (by omega), r⟩
      · have em : ys.map (fun y => D.int (hF h y)) = dIs (ys.map (hF h)) := by unfold dIs; rw [List.map_map]; rfl
        rw [em]
        refine ⟨_, rfl, dIs F, .inl rfl, _, rfl, _, _, rfl, rfl, trivial, _, rfl, ?_⟩
        rw [dIs_len]
        by_cases h1 : (F.length : Int) ≤ s
        · rw [decide_eq_true h1]
          refine ⟨_, rfl, by show 0 ≤ 100000; decide, _, rfl, rfl, okE_ints _, _, rfl, ?_⟩
          rw [dIs_empty]
          cases ys with
          | nil => exact skip _ _ fun ⟨_, ⟨z, hz⟩, _⟩ => absurd ((y2 z).mpr hz) List.not_mem_nil
          | cons y0 yr =>
            have yne : (y0 :: yr).map (hF h) ≠ [] := by simp
            refine ⟨_, rfl, (y0 :: yr).map (hF h), rfl, yne, _, rfl, _, rfl, _, _, _, .inl rfl, rfl, ix_h (Int.le_refl _) (by omega), _, _, _, .inl rfl, rfl, ix_h h0.1 (by rw [hl]; exact h0.2), _, _, rfl, rfl, trivial, _, rfl, ?_⟩
            have e0 : hF F 0 = F.getD 0 0 := rfl
            have bi : maxI ((y0 :: yr).map (hF h)) < hF h (hF F 0) ↔ BumpF nb h F := by
              rw [e0]
              constructor
              · intro lt
                refine ⟨⟨y0, (y2 y0).mp List.mem_cons_self⟩, fun z hz => ?_⟩
                have := le_maxI (List.mem_map.mpr ⟨z, (y2 z).mpr hz, rfl⟩ : hF h z ∈ (y0 :: yr).map (hF h))
                omega
              · rintro ⟨_, lt⟩
                obtain ⟨z, hz, e⟩ := List.mem_map.mp (maxI_mem yne)
                rw [← e]
                exact lt z ((y2 z).mp hz)
            by_cases h2 : maxI ((y0 :: yr).map (hF h)) < hF h (hF F 0)
            · rw [decide_eq_true h2]
              have bf := bi.mp h2
              refine ⟨_, rfl, by rw [List.length_map]; omega, _, rfl, .im (tupI F), .im (.lst (dIs ((y0 :: yr).map (hF h)))), c, bs ++ [F], ?_, by rw [List.length_append]; show bs.length + 1 ≤ i + 1; omega, il, fun F' hF' => ?_, fun F' hF' hb => ?_⟩
              · rw [List.map_append]
                rfl
              · rcases List.mem_append.mp hF' with hF' | hF'
                · exact g3 F' hF'
                · rw [List.mem_singleton.mp hF']
                  exact ⟨f, fun p hp => (bump_iff G f hp).mpr ⟨h1, bf⟩⟩
              · rcases (take_mem hF0).mp hF' with h3 | rfl
                · exact List.mem_append_left _ (g4 F' h3 hb)
                · exact List.mem_append_right _ (List.mem_singleton.mpr rfl)
            · rw [decide_eq_false h2]
              exact skip _ _ fun ⟨_, b⟩ => h2 (bi.mpr b)
        · rw [decide_eq_false h1]
          exact skip _ _ fun ⟨b, _⟩ => h1 b
  · subst e
    rw [List.length_map] at g1 g4
    refine ⟨_, _, rfl, rfl, _, rfl, q bs ⟨by omega, g3, fun p p0 p1 hb => ?_⟩⟩
    obtain ⟨F, m, hp⟩ := f3 p p0 p1
    exact ⟨F, g4 F (by rw [List.take_of_length_le (Nat.le_refl _)]; exact m) ((bump_iff G (f2 F m) hp).mp hb), hp⟩
theorem neg_len (h : List Int) : (negL h).length = h.length := List.length_map ..
theorem pr_turned : ∀ W ds Q, ds.length = 1 → Fp_turned W ds Q → T_turned W (En Q) (startD N_turned ds) := by
  rintro W ds Q _ ⟨h, rfl, hl, q⟩
  refine ⟨_, rfl, _, rfl, comp_encM (xs := h) (enc := D.int) (fun y => .int (-y)) (by omega) (fun y hy R r => ⟨_, rfl, _, rfl, r⟩) ?_⟩
  refine ⟨_, .inl rfl, ?_⟩
  have e : rowT (negL h) = .tup (h.map fun y => .int (-y)) := by unfold rowT negL dIs; rw [List.map_map]; rfl
  rw [← e]; exact q
theorem pr_law_down : ∀ W ds Q, ds.length = 1 → Fp_turned W ds Q → T__law_down W (En Q) (startD N__law_down ds) := by
  rintro W ds Q _ ⟨h, rfl, hl, q⟩
  refine ⟨_, rfl, _, rfl, comp_encM (xs := h) (enc := D.int) (fun y => .int (0 - y)) (by omega) (fun y hy R r => ⟨_, rfl, _, _, rfl, rfl, trivial, r⟩) ?_⟩
  refine ⟨_, .inl rfl, ?_⟩
  have e : rowT (negL h) = .tup (h.map fun y => .int (0 - y)) := by
    unfold rowT negL dIs
    rw [List.map_map]
    congr 1
    exact List.map_congr_left fun y _ => by show D.int (-y) = D.int (0 - y); rw [Int.zero_sub]
  rw [← e]; exact q
theorem pr_fill_of : ∀ W ds Q, ds.length = 3 → Fp_fill_of W ds Q → T_fill_of Fp_turned Fp_cut_of W (En Q) (startD N_fill_of ds) := by
  rintro W ds Q _ ⟨n, nb, h, s, rfl, G, hl, q⟩
  have few := G.few
  exact ⟨_, rfl, _, rfl, rfl, h, rfl, by omega, _, rfl, rfl, n, nb, negL h, s, rfl, G, by rw [neg_len]; exact hl, rfl, cutL n nb s (negL h), rfl, by rw [cutL_len]; omega, q⟩
theorem pr_law_fill : ∀ W ds Q, ds.length = 3 → Fp_law_fill W ds Q → T__law_fill Fp_turned Fp_law_cut W (En Q) (startD N__law_fill ds) := by
  rintro W ds Q _ ⟨n, ps, h, s, rfl, G, hl, q⟩
  have few := G.few
  exact ⟨_, rfl, _, rfl, rfl, h, rfl, by omega, _, rfl, rfl, n, ps, negL h, s, rfl, G, by rw [neg_len]; exact hl, rfl, cutL n (nbOf n ps) s (negL h), rfl, by rw [cutL_len]; omega, q⟩
end NR
/-! The law's own cut. -/
namespace NR
open PySem L2
section
variable {n : Nat} {nb : List (List Int)} {h : List Int} {s : Int}
theorem big_up (G : NbOk n nb) (hl : h.length = n) {p L : Int} (hp : p ∈ ptsL n) (hL : L ≤ hF h p) (b : Big (ptsL n) (nbR nb) s (hF h) p L) : (∃ L', L ≤ L' ∧ L' ∈ h ∧ L' ≤ hF h p ∧ s < cnt (ptsL n) (Comp (nbR nb) (hF h) p L')) ∨ ∀ q, Circ (nbR nb) p q → L ≤ hF h q := by
  rcases b with b | b
  · obtain ⟨m, hm, cm, low⟩ := low_of (h := hF h) (Comp (nbR nb) (hF h) p L) (ptsL n) ⟨p, hp, .refl hL⟩
    obtain ⟨m0, m1⟩ := mem_pts.mp hm
    exact .inl ⟨hF h m, cm.r, hF_mem m0 (by omega), low p hp (.refl hL), Int.lt_of_lt_of_le b (Int.ofNat_le.mpr (cnt_mono fun q _ c => Conn.self c fun y cy => low y (circ_in G.gph hp (comp_circ cy)) cy))⟩
  · exact .inr b
theorem cut_at (G : NbOk n nb) (hl : h.length = n) {p b : Int} (hp : p ∈ ptsL n) (b1 : b ≤ hF h p) (b2 : Big (ptsL n) (nbR nb) s (hF h) p b) (b3 : ∀ L ∈ h, L ≤ hF h p → s < cnt (ptsL n) (Comp (nbR nb) (hF h) p L) → L ≤ b) (b4 : ∀ L, (∀ q, Circ (nbR nb) p q → L ≤ hF h q) → L ≤ b) :
    hF (cutL n nb s h) p = b := by
  have C := cut_is (s := s) G hl
  have h1 := C.top p hp b b1 b2
  have h2 : hF (cutL n nb s h) p ≤ b := by
    rcases big_up G hl hp (C.le p hp) (C.big p hp) with ⟨L', l1, l2, l3, l4⟩ | c
    · exact Int.le_trans l1 (b3 L' l2 l3 l4)
    · exact b4 _ c
  omega
end
theorem pr_law_cut : ∀ W ds Q, ds.length = 3 → Fp_law_cut W ds Q → T__law_cut Fp_near Fp_law_part W (En Q) (startD N__law_cut ds) := by
  rintro W ds Q _ ⟨n, ps, h, s, rfl, GN, hl, q⟩
  have G := GN.nb
  have few := G.few
  refine ⟨_, rfl, rfl, n, ps, rfl, GN, Nat.zero_le _, ?_⟩
  generalize nbOf n ps = nb at G q ⊢
  refine ⟨_, rfl, _, _, _, .inl rfl, rfl, ix0, n, rfl, by omega, by omega, ?_⟩
  rw [ints_of]
  refine ⟨fun i ρ => ∃ a b c d e f, ρ = [.im (netD n ps), .im (rowT h), .im (.int s), a, .im (nearD nb), .ml (dIs ((cutL n nb s h).take i)), b, c, d, e, f], ⟨.no, .no, .no, .no, .no, .no, rfl⟩, fun i d ρ hd ⟨a, b, c, d', e, f, eρ⟩ => ?_, fun ρ ⟨a, b, c, d', e, f, eρ⟩ => ?_⟩
  · subst eρ
    obtain ⟨p, hp, rfl⟩ := dIs_get hd
    have pm : p ∈ ptsL n := List.mem_of_getElem? hp
    obtain ⟨p0, p1⟩ := mem_pts.mp pm
    have il : i < n := by have := (List.getElem?_eq_some_iff.mp hp).1; rwa [pts_len] at this
    have pe : p = (i : Int) := by
      have : (ptsL n)[i]? = some ((i : Nat) : Int) := by unfold ptsL; rw [List.getElem?_map, List.getElem?_range il]; rfl
      rw [this] at hp
      exact (Option.some.inj hp).symm
    have nxt : ∀ z, hF (cutL n nb s h) p = z → (cutL n nb s h).take i ++ [z] = (cutL n nb s h).take (i + 1) := fun z hz => by
      have : (cutL n nb s h)[i]? = some z := by
        rw [← hz, pe]
        unfold hF
        rw [Int.toNat_natCast, List.getD_eq_getElem?_getD, List.getElem?_eq_getElem (by rw [cutL_len]; exact il)]
        rfl
      rw [List.take_add_one, this]
      rfl
    refine ⟨_, rfl, _, rfl, _, _, _, .inl rfl, rfl, ix0, n, rfl, by omega, by omega, ?_⟩
    rw [ints_of]
    refine ⟨_, rfl, rfl, n, nb, ptsL n, p, rfl, G, fun z hz => mem_pts.mp hz, pm, fun cs c1 c2 => ?_⟩
    have cm : ∀ z, z ∈ cs ↔ Circ (nbR nb) p z := fun z => by
      rw [c2]
      exact ⟨Conn.mono fun _ _ => trivial, fun c => Conn.self c fun y cy => circ_in G.gph pm cy⟩
    have cin : ∀ z ∈ cs, 0 ≤ z ∧ z < n := fun z hz => mem_pts.mp (circ_in G.gph pm ((cm z).mp hz))
    have cl : cs.length ≤ n := nodup_pts_len (lt_nodup c1) cin
    have pc : p ∈ cs := (cm p).mpr (.refl trivial)
    have cne : cs.map (hF h) ≠ [] := fun e => by
      rw [List.map_eq_nil_iff] at e
      rw [e] at pc
      exact absurd pc List.not_mem_nil
    refine ⟨_, rfl, _, rfl, comp_encM (xs := cs) (enc := D.int) (fun y => .int (hF h y)) (by omega) (fun y hy R r => ?_) ?_⟩
    · have := cin y hy
      exact ⟨_, rfl, _, rfl, _, _, _, .inl rfl, rfl, ix_h this.1 (by omega), r⟩
    · refine ⟨cs.map (hF h), by unfold dIs; rw [List.map_map]; rfl, cne, ?_⟩
      obtain ⟨zm, hzm, em⟩ := List.mem_map.mp (minI_mem cne)
      have mle : ∀ q, Circ (nbR nb) p q → minI (cs.map (hF h)) ≤ hF h q := fun q c => minI_le (List.mem_map.mpr ⟨q, (cm q).mpr c, rfl⟩)
      generalize minI (cs.map (hF h)) = M at em mle ⊢
      refine ⟨_, rfl, h, .inl rfl, by omega, fun ys y1 y2 => ⟨_, rfl, ?_⟩⟩
      refine ⟨fun k ρ => ∃ a b c best, ρ = [.im (netD n ps), .im (rowT h), .im (.int s), .im (.int p), .im (nearD nb), .ml (dIs ((cutL n nb s h).take i)), .im (rowT cs), .im (.int best), a, b, c] ∧ best ≤ hF h p ∧ Big (ptsL n) (nbR nb) s (hF h) p best ∧ M ≤ best ∧ ∀ L ∈ ys.take k, L ≤ hF h p → s < cnt (ptsL n) (Comp (nbR nb) (hF h) p L) → L ≤ best,
        ⟨d', e, f, M, rfl, mle p (.refl trivial), .inr mle, Int.le_refl _, fun L hL => absurd hL (by rw [List.take_zero]; exact List.not_mem_nil)⟩, fun k d ρ hd ⟨a, b, c, best, eρ, g1, g2, g3, g4⟩ => ?_, fun ρ ⟨a, b, c, best, eρ, g1, g2, g3, g4⟩ => ?_⟩
      · subst eρ
        obtain ⟨v, hv, rfl⟩ := dIs_get hd
        refine ⟨_, rfl, _, rfl, comp_ints (xs := cs) (fun z => decide (v ≤ hF h z)) .int (by omega) (fun z hz R r => ?_) ?_⟩
        · have := cin z hz
          refine ⟨_, rfl, _, rfl, _, _, _, .inl rfl, rfl, ix_h this.1 (by omega), _, rfl, _, _, rfl, rfl, trivial, _, rfl, ?_⟩
          by_cases e : v ≤ hF h z
          · rw [decide_eq_true e] at r ⊢; exact ⟨_, rfl, r⟩
          · rw [decide_eq_false e] at r ⊢; exact r
        · have km : ∀ z, z ∈ cs.filter (fun z => decide (v ≤ hF h z)) ↔ Circ (nbR nb) p z ∧ v ≤ hF h z := fun z => by rw [List.mem_filter, cm, decide_eq_true_iff]
          have kn : (cs.filter fun z => decide (v ≤ hF h z)).length ≤ 1000 := Nat.le_trans (List.length_filter_le _ _) (by omega)
          have kin : ∀ z ∈ cs.filter (fun z => decide (v ≤ hF h z)), 0 ≤ z ∧ z < n := fun z hz => cin z (List.mem_filter.mp hz).1
          have keep : (v ≤ hF h p → s < cnt (ptsL n) (Comp (nbR nb) (hF h) p v) → v ≤ best) → ∀ L ∈ ys.take (k + 1), L ≤ hF h p → s < cnt (ptsL n) (Comp (nbR nb) (hF h) p L) → L ≤ best := fun no L hL h1 h2 => by
            rcases (take_mem hv).mp hL with hL | rfl
            · exact g4 L hL h1 h2
            · exact no h1 h2
          refine ⟨_, rfl, _, rfl, p, cs.filter fun z => decide (v ≤ hF h z), rfl, .inl rfl, _, rfl, ?_⟩
          by_cases hk : p ∈ cs.filter fun z => decide (v ≤ hF h z)
          · rw [decide_eq_true hk]
            have vp := ((km p).mp hk).2
            refine ⟨_, rfl, _, rfl, _, rfl, rfl, n, nb, _, p, rfl, G, kin, hk, fun zs z1 z2 => ?_⟩
            have zm : ∀ z, z ∈ zs ↔ Comp (nbR nb) (hF h) p v z := fun z => by
              rw [z2]
              exact ⟨Conn.mono fun y hy => ((km y).mp hy).2, fun c => Conn.self c fun y cy => (km y).mpr ⟨comp_circ cy, cy.r⟩⟩
            have zin : ∀ z ∈ zs, 0 ≤ z ∧ z < n := fun z hz => mem_pts.mp (circ_in G.gph pm (comp_circ ((zm z).mp hz)))
            have zc : cnt (ptsL n) (Comp (nbR nb) (hF h) p v) = zs.length := cnt_list (nodup_pts n) (lt_nodup z1) (fun z hz => mem_pts.mpr (zin z hz)) zm
            refine ⟨dIs zs, .inl rfl, _, rfl, _, _, rfl, rfl, trivial, _, rfl, ?_⟩
            rw [dIs_len]
            by_cases hs : s < (zs.length : Int)
            · rw [decide_eq_true hs]
              refine ⟨_, rfl, _, rfl, best, v, rfl, .im (.int v), .im (.lst (dIs (cs.filter fun z => decide (v ≤ hF h z)))), c, max best v, rfl, by omega, ?_, by omega, fun L hL h1 h2 => ?_⟩
              · by_cases le : best ≤ v
                · rw [Int.max_eq_right le]
                  exact .inl (by rw [zc]; exact hs)
                · rw [Int.max_eq_left (by omega)]
                  exact g2
              · rcases (take_mem hv).mp hL with hL | rfl
                · have := g4 L hL h1 h2; omega
                · omega
            · rw [decide_eq_false hs]
              exact ⟨.im (.int v), .im (.lst (dIs (cs.filter fun z => decide (v ≤ hF h z)))), c, best, rfl, g1, g2, g3, keep fun _ h2 => absurd (by rw [zc] at h2; exact h2) hs⟩
          · rw [decide_eq_false hk]
            exact ⟨.im (.int v), .im (.lst (dIs (cs.filter fun z => decide (v ≤ hF h z)))), c, best, rfl, g1, g2, g3, keep fun h1 _ => absurd ((km p).mpr ⟨.refl trivial, h1⟩) hk⟩
      · subst eρ
        have cb : hF (cutL n nb s h) p = best := by
          refine cut_at G hl pm g1 g2 (fun L hL h1 h2 => g4 L (by rw [dIs_len, List.take_of_length_le (Nat.le_refl _), y2]; exact hL) h1 h2) fun L hL => ?_
          have := hL zm ((cm zm).mp hzm)
          omega
        refine ⟨_, rfl, by rw [dIs_len]; have := List.length_take_le i (cutL n nb s h); omega, _, rfl, .im (.int p), .im (rowT cs), .im (.int best), a, b, c, ?_⟩
        rw [← nxt best cb, dIs_app]
        rfl
  · subst eρ
    rw [dIs_len, pts_len, List.take_of_length_le (by rw [cutL_len]; exact Nat.le_refl _)]
    exact ⟨_, _, rfl, rfl, _, rfl, _, .inl rfl, q⟩
end NR
/-! The deepest drop, the least change, the nearest row. -/
namespace NR
open PySem L2
section
variable {n : Nat} {nb : List (List Int)} {h : List Int} {s : Int}
theorem zip_pts {a b : List Int} (ha : a.length = n) (hb : b.length = n) (f : Int → Int → Int) : zipI f a b = (ptsL n).map fun p => f (hF a p) (hF b p) := by
  refine row_ext (n := n) (by unfold zipI; rw [List.length_map, List.length_zip, ha, hb, Nat.min_self]) (by rw [List.length_map, pts_len]) fun p p0 p1 => ?_
  rw [hF_map p0 p1]
  unfold hF zipI
  have h1 : p.toNat < a.length := by omega
  have h2 : p.toNat < b.length := by omega
  rw [List.getD_eq_getElem?_getD, List.getElem?_map, List.getElem?_zip_eq_some (z := (a[p.toNat], b[p.toNat])) |>.mpr ⟨List.getElem?_eq_getElem h1, List.getElem?_eq_getElem h2⟩, List.getD_eq_getElem?_getD, List.getD_eq_getElem?_getD, List.getElem?_eq_getElem h1, List.getElem?_eq_getElem h2]
  rfl
theorem zipD_ints (a b : List Int) : zipD (dIs a) (dIs b) = (a.zip b).map pairD := by
  unfold zipD dIs
  rw [List.zip_map, List.map_map]
  rfl
theorem zipI_D (f : Int → Int → Int) (a b : List Int) : (a.zip b).map (fun p => D.int (f p.1 p.2)) = dIs (zipI f a b) := by
  unfold zipI dIs
  rw [List.map_map]
  rfl
theorem drop_len : (dropL n nb s h).length = n := by unfold dropL; rw [List.length_map, pts_len]
theorem drop_zip (hl : h.length = n) : zipI (fun x y => x - y) h (cutL n nb s h) = dropL n nb s h := zip_pts hl cutL_len _
theorem first_ok {xs : List Int} {m : Int} (hm : m ∈ xs) : xs[firstAt xs m]? = some m ∧ ∀ j, j < firstAt xs m → xs[j]? ≠ some m := by
  have lt : xs.findIdx (fun x => decide (x = m)) < xs.length := List.findIdx_lt_length_of_exists ⟨m, hm, decide_eq_true rfl⟩
  refine ⟨?_, fun j hj e => ?_⟩
  · have := List.findIdx_getElem (w := lt)
    unfold firstAt
    rw [List.getElem?_eq_getElem lt]
    exact congrArg some (of_decide_eq_true this)
  · have := List.not_of_lt_findIdx hj
    obtain ⟨l, e'⟩ := List.getElem?_eq_some_iff.mp e
    rw [e', decide_eq_true rfl] at this
    exact absurd this (by simp)
end
theorem pr_worst_of : ∀ W ds Q, ds.length = 3 → Fp_worst_of W ds Q → T_worst_of Fp_cut_of W (En Q) (startD N_worst_of ds) := by
  rintro W ds Q _ ⟨n, nb, h, s, rfl, G, hl, q⟩
  have few := G.few
  have pos := G.pos
  have ne : dropL n nb s h ≠ [] := fun e => by
    have := drop_len (n := n) (nb := nb) (s := s) (h := h)
    rw [e] at this
    simp at this
    omega
  refine ⟨_, rfl, _, rfl, _, rfl, rfl, n, nb, h, s, rfl, G, hl, ?_⟩
  refine ⟨_, rfl, _, rfl, dIs h, dIs (cutL n nb s h), rfl, by rw [dIs_len, dIs_len, cutL_len, hl], ?_⟩
  rw [zipD_ints]
  refine comp_encM (fun p => .int (p.1 - p.2)) (by rw [List.length_zip, cutL_len, hl]; omega) (fun p _ R r => ⟨_, _, rfl, _, rfl, _, rfl, _, _, rfl, rfl, trivial, r⟩) ?_
  rw [zipI_D fun x y => x - y, drop_zip hl]
  obtain ⟨f1, f2⟩ := first_ok (maxI_mem ne)
  exact ⟨_, rfl, _, rfl, ne, _, rfl, _, rfl, _, rfl, _, rfl, ne, _, _, rfl, f1, f2, by show 2 ≤ 100000; decide, q⟩
theorem pr_worst_point : ∀ W ds Q, ds.length = 3 → Fp_worst_point W ds Q → T_worst_point Fp_need_row Fp_need_size Fp_worst_of Fp_near W (En Q) (startD N_worst_point ds) := by
  rintro W ds Q _ ⟨n, ps, h, s, rfl, ⟨GN, hr, s0, s1⟩, q⟩
  exact ⟨_, rfl, _, rfl, rfl, n, ps, h, rfl, GN, hr, _, rfl, _, rfl, rfl, n, ps, s, rfl, s0, s1, _, rfl, rfl, n, ps, rfl, GN, _, rfl, _, rfl, rfl, n, _, h, s, rfl, GN.nb, hr.1, q⟩
theorem pr_least_change : ∀ W ds Q, ds.length = 3 → Fp_least_change W ds Q → T_least_change Fp_need_row Fp_need_size Fp_worst_of Fp_near W (En Q) (startD N_least_change ds) := by
  rintro W ds Q _ ⟨n, ps, h, s, rfl, ⟨GN, hr, s0, s1⟩, q⟩
  exact ⟨_, rfl, _, rfl, rfl, n, ps, h, rfl, GN, hr, _, rfl, _, rfl, rfl, n, ps, s, rfl, s0, s1, _, rfl, rfl, n, ps, rfl, GN, _, rfl, _, rfl, rfl, n, _, h, s, rfl, GN.nb, hr.1, _, _, _, .inl rfl, rfl, ix0, _, _, rfl, rfl, trivial, _, _, rfl, rfl, ⟨by decide, by decide⟩, q⟩
theorem pr_near_row : ∀ W ds Q, ds.length = 3 → Fp_near_row W ds Q → T_near_row Fp_need_row Fp_need_size Fp_near Fp_worst_of Fp_cut_of W (En Q) (startD N_near_row ds) := by
  rintro W ds Q _ ⟨n, ps, h, s, rfl, ⟨GN, hr, s0, s1⟩, q⟩
  have few := GN.few
  refine ⟨_, rfl, _, rfl, rfl, n, ps, h, rfl, GN, hr, _, rfl, _, rfl, rfl, n, ps, s, rfl, s0, s1, _, rfl, rfl, n, ps, rfl, GN, ?_⟩
  refine ⟨_, rfl, _, rfl, _, rfl, rfl, n, _, h, s, rfl, GN.nb, hr.1, _, _, _, .inl rfl, rfl, ix0, _, _, rfl, rfl, ⟨by decide, by decide⟩, ?_⟩
  refine ⟨_, rfl, _, rfl, _, rfl, rfl, n, _, h, s, rfl, GN.nb, hr.1, _, rfl, ?_⟩
  refine comp_encM (xs := cutL n (nbOf n ps) s h) (enc := D.int) (fun y => .int (min 99 (y + deepI n (nbOf n ps) s h / 2))) (by rw [cutL_len]; omega) (fun y _ R r => ⟨_, rfl, _, rfl, _, _, rfl, rfl, trivial, _, _, rfl, r⟩) ?_
  refine ⟨_, .inl rfl, ?_⟩
  have e : rowT (nearL n (nbOf n ps) s h) = .tup ((cutL n (nbOf n ps) s h).map fun y => .int (min 99 (y + deepI n (nbOf n ps) s h / 2))) := by unfold rowT nearL dIs; rw [List.map_map]; rfl
  rw [← e]; exact q
theorem pr_between : ∀ W ds Q, ds.length = 3 → Fp_between W ds Q → T_between_cuts Fp_need_row Fp_need_size Fp_near Fp_cut_of Fp_fill_of W (En Q) (startD N_between_cuts ds) := by
  rintro W ds Q _ ⟨n, ps, h, s, rfl, ⟨GN, hr, s0, s1⟩, q⟩
  exact ⟨_, rfl, _, rfl, rfl, n, ps, h, rfl, GN, hr, _, rfl, _, rfl, rfl, n, ps, s, rfl, s0, s1, _, rfl, rfl, n, ps, rfl, GN,
    _, rfl, _, rfl, _, rfl, rfl, n, _, h, s, rfl, GN.nb, hr.1, _, rfl, _, rfl, _, rfl, rfl, n, _, h, s, rfl, GN.nb, hr.1, by show 2 ≤ 100000; decide, q⟩
theorem pr_higher : ∀ W ds Q, ds.length = 3 → Fp_higher W ds Q → T_higher Fp_need_row Fp_need_row W (En Q) (startD N_higher ds) := by
  rintro W ds Q _ ⟨n, ps, a, b, rfl, GN, ha, hb, q⟩
  have few := GN.few
  refine ⟨_, rfl, _, rfl, rfl, n, ps, a, rfl, GN, ha, _, rfl, _, rfl, rfl, n, ps, b, rfl, GN, hb, _, rfl, _, rfl, dIs a, dIs b, rfl, by rw [dIs_len, dIs_len, ha.1, hb.1], ?_⟩
  rw [zipD_ints]
  refine comp_encM (fun p => .int (max p.1 p.2)) (by rw [List.length_zip, ha.1, hb.1]; omega) (fun p _ R r => ⟨_, rfl, _, _, rfl, r⟩) ?_
  rw [zipI_D max]
  exact ⟨_, .inl rfl, q⟩
theorem pr_lower : ∀ W ds Q, ds.length = 3 → Fp_lower W ds Q → T_lower Fp_need_row Fp_need_row W (En Q) (startD N_lower ds) := by
  rintro W ds Q _ ⟨n, ps, a, b, rfl, GN, ha, hb, q⟩
  have few := GN.few
  refine ⟨_, rfl, _, rfl, rfl, n, ps, a, rfl, GN, ha, _, rfl, _, rfl, rfl, n, ps, b, rfl, GN, hb, _, rfl, _, rfl, dIs a, dIs b, rfl, by rw [dIs_len, dIs_len, ha.1, hb.1], ?_⟩
  rw [zipD_ints]
  refine comp_encM (fun p => .int (min p.1 p.2)) (by rw [List.length_zip, ha.1, hb.1]; omega) (fun p _ R r => ⟨_, rfl, _, _, rfl, r⟩) ?_
  rw [zipI_D min]
  exact ⟨_, .inl rfl, q⟩
theorem pr_apart : ∀ W ds Q, ds.length = 3 → Fp_apart W ds Q → T_apart Fp_need_row Fp_need_row W (En Q) (startD N_apart ds) := by
  rintro W ds Q _ ⟨n, ps, a, b, rfl, GN, ha, hb, q⟩
  have few := GN.few
  have pos := GN.pos
  have zl : (zipI (fun x y => absI (x - y)) a b).length = n := by unfold zipI; rw [List.length_map, List.length_zip, ha.1, hb.1, Nat.min_self]
  refine ⟨_, rfl, _, rfl, rfl, n, ps, a, rfl, GN, ha, _, rfl, _, rfl, rfl, n, ps, b, rfl, GN, hb, _, rfl, _, rfl, dIs a, dIs b, rfl, by rw [dIs_len, dIs_len, ha.1, hb.1], ?_⟩
  rw [zipD_ints]
  refine comp_encM (fun p => .int (absI (p.1 - p.2))) (by rw [List.length_zip, ha.1, hb.1]; omega) (fun p _ R r => ⟨_, _, rfl, _, rfl, _, rfl, _, _, rfl, rfl, trivial, _, rfl, r⟩) ?_
  rw [zipI_D fun x y => absI (x - y)]
  exact ⟨_, rfl, fun e => by rw [e] at zl; simp at zl; omega, q⟩
end NR
/-! Whether a value shows a nearest row. -/
namespace NR
open PySem L2
def allIn (xs : List D) : Bool := xs.all fun d => isIn d (-99) 99
def getI : D → Int
  | .int i => i
  | _ => 0
theorem in_ints : ∀ {xs : List D}, allIn xs = true → xs = dIs (xs.map getI) ∧ ∀ x ∈ xs.map getI, -99 ≤ x ∧ x ≤ 99
  | [], _ => ⟨rfl, fun _ h => absurd h List.not_mem_nil⟩
  | d :: xs, h => by
    have h' : (isIn d (-99) 99 && allIn xs) = true := h
    obtain ⟨h1, h2⟩ := Bool.and_eq_true_iff.mp h'
    obtain ⟨e, k⟩ := in_ints h2
    cases d with
    | int i =>
      rw [isIn_eq] at h1
      obtain ⟨a, b⟩ := Bool.and_eq_true_iff.mp h1
      refine ⟨?_, fun x hx => ?_⟩
      · show D.int i :: xs = D.int i :: dIs (xs.map getI)
        rw [← e]
      · rcases List.mem_cons.mp hx with rfl | hx
        · exact ⟨of_decide_eq_true a, of_decide_eq_true b⟩
        · exact k x hx
    | _ => cases h1
theorem all_dIs {r : List Int} (h : ∀ x ∈ r, -99 ≤ x ∧ x ≤ 99) : allIn (dIs r) = true := by
  unfold allIn
  rw [List.all_eq_true]
  intro d hd
  obtain ⟨x, hx, rfl⟩ := List.mem_map.mp hd
  exact isIn_int (h x hx).1 (h x hx).2
theorem dIs_inj : ∀ {a b : List Int}, dIs a = dIs b → a = b
  | [], [], _ => rfl
  | [], _ :: _, h => by cases h
  | _ :: _, [], h => by cases h
  | x :: a, y :: b, h => by
    have h' : D.int x :: dIs a = D.int y :: dIs b := h
    injection h' with h1 h2
    injection h1 with h1
    rw [h1, dIs_inj h2]
section
variable {n : Nat} {nb : List (List Int)} {h : List Int} {s : Int}
/-- no bump is told, no bump stands -/
theorem bumps_nil (G : NbOk n nb) {r : List Int} {bs : List (List Int)} (b : IsBumps n nb r s bs) : bs.isEmpty = true ↔ Bumpless (ptsL n) (nbR nb) s (hF r) := by
  obtain ⟨_, b2, b3⟩ := b
  constructor
  · intro e
    have e : bs = [] := List.isEmpty_iff.mp e
    refine bumpless_of G.gph fun p hp hb => ?_
    obtain ⟨p0, p1⟩ := mem_pts.mp hp
    obtain ⟨F, hF, _⟩ := b3 p p0 p1 hb
    rw [e] at hF
    exact absurd hF List.not_mem_nil
  · intro bl
    cases bs with
    | nil => rfl
    | cons F r' =>
      obtain ⟨f, fb⟩ := b2 F List.mem_cons_self
      exact absurd (fb _ f.head) (bl.no_bump G.gph (mem_pts.mpr (f.inn G _ f.head)))
theorem map_empty {α β : Type} (f : α → β) (xs : List α) : (xs.map f).isEmpty = xs.isEmpty := by cases xs <;> rfl
def nearB (e : Int) (a b : List Int) : Bool := (a.zip b).all fun p => decide (absI (p.1 - p.2) ≤ e)
theorem absI_le {x e : Int} : absI x ≤ e ↔ x ≤ e ∧ -x ≤ e := by
  unfold absI
  split <;> omega
theorem nearB_iff {a b : List Int} {e : Int} (ha : a.length = n) (hb : b.length = n) : nearB e a b = true ↔ ∀ p : Int, 0 ≤ p → p < n → hF a p - hF b p ≤ e ∧ hF b p - hF a p ≤ e := by
  unfold nearB
  rw [List.all_eq_true]
  constructor
  · intro k p p0 p1
    have h1 : p.toNat < a.length := by omega
    have h2 : p.toNat < b.length := by omega
    have hm : (a[p.toNat], b[p.toNat]) ∈ a.zip b := List.mem_of_getElem? (i := p.toNat) (List.getElem?_zip_eq_some.mpr ⟨List.getElem?_eq_getElem h1, List.getElem?_eq_getElem h2⟩)
    have := absI_le.mp (of_decide_eq_true (k _ hm))
    unfold hF
    rw [List.getD_eq_getElem?_getD, List.getD_eq_getElem?_getD, List.getElem?_eq_getElem h1, List.getElem?_eq_getElem h2]
    show a[p.toNat] - b[p.toNat] ≤ e ∧ b[p.toNat] - a[p.toNat] ≤ e
    have this : a[p.toNat] - b[p.toNat] ≤ e ∧ -(a[p.toNat] - b[p.toNat]) ≤ e := this
    omega
  · intro k x hx
    obtain ⟨i, hi⟩ := List.mem_iff_getElem?.mp hx
    obtain ⟨h1, h2⟩ := List.getElem?_zip_eq_some.mp hi
    have il := (List.getElem?_eq_some_iff.mp h1).1
    have := k (i : Nat) (by omega) (by omega)
    unfold hF at this
    rw [Int.toNat_natCast, List.getD_eq_getElem?_getD, List.getD_eq_getElem?_getD, h1, h2] at this
    have this : x.1 - x.2 ≤ e ∧ x.2 - x.1 ≤ e := this
    exact decide_eq_true (absI_le.mpr (by omega))
end
theorem bools_of {α : Type} (f : α → Bool) (xs : List α) : xs.map (fun x => D.bl (f x)) = (xs.map f).map D.bl := by rw [List.map_map]; rfl
theorem all_map_id {α : Type} (f : α → Bool) (xs : List α) : (xs.map f).all id = xs.all f := by rw [List.all_map]; rfl
theorem pr_shows : ∀ W ds Q, ds.length = 4 → Fp_shows W ds Q → T_shows_near Fp_need_row Fp_need_size Fp_near Fp_tuple_of Fp_within Fp_worst_of Fp_bumps_of W (En Q) (startD N_shows_near ds) := by
  rintro W ds Q _ ⟨n, ps, h, s, v, rfl, ⟨GN, hr, s0, s1⟩, sv, q⟩
  have few := GN.few
  have pos := GN.pos
  have G := GN.nb
  refine ⟨_, rfl, _, rfl, rfl, n, ps, h, rfl, GN, hr, _, rfl, _, rfl, rfl, n, ps, s, rfl, s0, s1, _, rfl, rfl, n, ps, rfl, GN, ?_⟩
  refine ⟨_, rfl, _, _, _, .inl rfl, rfl, ix0, ?_⟩
  have vt : v.tyn ≠ "" := by
    cases v with
    | tup xs => exact tup_ty xs
    | _ => exact sv
  refine ⟨_, rfl, _, rfl, _, rfl, rfl, v, _, _, rfl, vt, _, rfl, ?_⟩
  generalize nbOf n ps = nb at G q ⊢
  by_cases ht : isTu v n n = true
  · rw [ht]
    cases v with
    | tup xs =>
      have xl : xs.length = n := by
        rw [isTu_eq] at ht
        obtain ⟨a, b⟩ := Bool.and_eq_true_iff.mp ht
        have a := of_decide_eq_true a
        have b := of_decide_eq_true b
        omega
      refine ⟨_, rfl, xs, rfl, comp_mapC (fun d => .bl (isIn d (-99) 99)) (by omega) (fun d hd R r => ⟨d, rfl, _, rfl, rfl, d, _, _, rfl, sv d hd, r⟩) ?_⟩
      rw [bools_of fun d => isIn d (-99) 99]
      refine ⟨_, rfl, _, rfl, ?_⟩
      rw [all_map_id]
      by_cases ha : allIn xs = true
      · have ha' : (xs.all fun d => isIn d (-99) 99) = true := ha
        rw [ha']
        obtain ⟨e, k⟩ := in_ints ha
        generalize xs.map getI = r at e k
        subst e
        rw [dIs_len] at xl
        have rv : D.tup (dIs r) = rowT r := rfl
        refine ⟨_, rfl, _, rfl, _, rfl, rfl, n, nb, h, s, rfl, G, hr.1, _, _, _, .inl rfl, rfl, ix0, _, _, rfl, rfl, trivial, _, _, rfl, rfl, ⟨by decide, by decide⟩, ?_⟩
        refine ⟨_, rfl, _, rfl, _, rfl, rfl, n, nb, r, s, rfl, G, xl, fun bs hb => ⟨by show 0 ≤ 100000; decide, _, rfl, rfl, okE_tups bs, _, rfl, ?_⟩⟩
        rw [map_empty]
        have bn := bumps_nil G hb
        cases hbs : bs.isEmpty with
        | true =>
          have bl := bn.mp hbs
          refine ⟨_, rfl, _, rfl, dIs h, dIs r, rfl, by rw [dIs_len, dIs_len, hr.1, xl], ?_⟩
          rw [zipD_ints]
          refine comp_encM (fun p => .bl (decide (absI (p.1 - p.2) ≤ (deepI n nb s h + 1) / 2))) (by rw [List.length_zip, hr.1, xl]; omega) (fun p _ R r => ⟨_, _, rfl, _, rfl, _, rfl, _, _, rfl, rfl, trivial, _, rfl, _, rfl, _, _, rfl, rfl, trivial, r⟩) ?_
          rw [bools_of fun p : Int × Int => decide (absI (p.1 - p.2) ≤ (deepI n nb s h + 1) / 2)]
          refine ⟨_, rfl, q _ ?_⟩
          rw [all_map_id]
          show nearB ((deepI n nb s h + 1) / 2) h r = true ↔ _
          rw [nearB_iff hr.1 xl]
          constructor
          · exact fun k' => ⟨r, rfl, ⟨xl, k⟩, bl, k'⟩
          · rintro ⟨r', e', _, _, k'⟩
            have : dIs r = dIs r' := by injection e'
            rw [dIs_inj this]
            exact k'
        | false =>
          refine q false ⟨fun h => absurd h Bool.false_ne_true, fun ⟨r', e', _, bl, _⟩ => ?_⟩
          have : dIs r = dIs r' := by injection e'
          rw [← dIs_inj this] at bl
          have := bn.mpr bl
          rw [hbs] at this
          exact this
      · have ha' : (xs.all fun d => isIn d (-99) 99) = false := by
          cases hx : (xs.all fun d => isIn d (-99) 99) with
          | true => exact absurd hx ha
          | false => rfl
        rw [ha']
        refine q false ⟨fun h => absurd h Bool.false_ne_true, fun ⟨r', e', ⟨_, k⟩, _⟩ => ?_⟩
        have : xs = dIs r' := by injection e'
        rw [this] at ha
        exact absurd (all_dIs k) ha
    | _ => cases ht
  · have ht' : isTu v n n = false := by
      cases hx : isTu v n n with
      | true => exact absurd hx ht
      | false => rfl
    rw [ht']
    refine q false ⟨fun h => absurd h Bool.false_ne_true, fun ⟨r', e', ⟨rl, k⟩, _⟩ => ?_⟩
    rw [e'] at ht
    exact absurd (isTu_row (by omega) (by omega)) ht
end NR
/-! What the law draws; likeness. -/
namespace NR
open PySem L2
def WOk (K : PySem.W.Frag) (W : Wc) (row : Addr) : Prop := ∃ (scr : Addr) (ns : List Int) (b : Prop), W = Wrow K scr row ns b ∧ (b → scr ≠ row) ∧ ns.length ≤ 1000
theorem taken_ok {K : PySem.W.Frag} {W : Wc} {row : Addr} {n : Int} {Q : D → Prop} (w : WOk K W row) (h0 : 0 < n) (h1 : n ≤ 100000) (q : ∀ r : Int, 0 ≤ r → r < n → Q (.int r)) : FpTaken K W [.raw row, .int n] Q := by
  obtain ⟨scr, ns, b, e, h2, h3⟩ := w
  exact ⟨scr, row, ns, b, e, h2, h3, n, rfl, h0, h1, q⟩
def Fp_law_net (K : PySem.W.Frag) : FT := fun W ds Q => ∃ row, ds = [.raw row, .int 4] ∧ WOk K W row ∧ ∀ (n : Nat) (ps : List (Int × Int)), GoodNet n ps → Q (netD n ps)
def GoodRows (n : Nat) (L : List (List Int)) : Prop := L.length ≤ 625 ∧ ∀ r, r ∈ L ↔ r.length = n ∧ ∀ x ∈ r, 0 ≤ x ∧ x ≤ 4
def Fp_law_rows : FT := fun _ ds Q => ∃ n : Nat, ds = [.int n, .int 4] ∧ n ≤ 4 ∧ ∀ L, GoodRows n L → Q (.lst (L.map rowT))
def Fp_law_pick (K : PySem.W.Frag) : FT := fun W ds Q => ∃ row xs, ds = [.raw row, .lst xs] ∧ WOk K W row ∧ xs ≠ [] ∧ xs.length ≤ 100000 ∧ ∀ x ∈ xs, Q x
def Fp_law_heights (K : PySem.W.Frag) : FT := fun W ds Q => ∃ row, ∃ n : Nat, ds = [.raw row, .int n, .int 99] ∧ WOk K W row ∧ n ≤ 4 ∧ ∀ h, GoodRow n h → Q (rowT h)
def Nest : Nat → D → Prop
  | _, .int _ => True
  | _, .bl _ => True
  | k + 1, .tup xs => xs.length ≤ 1000 ∧ ∀ x ∈ xs, Nest k x
  | k + 1, .lst xs => xs.length ≤ 1000 ∧ ∀ x ∈ xs, Nest k x
  | _, _ => False
def Fp_alike (k : Nat) : FT := fun _ ds Q => ∃ d, ds = [d, d] ∧ Nest k d ∧ Q (.bl true)
def Fp_none : FT := fun _ _ _ => False
section
variable {K : PySem.W.Frag}
theorem pr_law_pick : ∀ W ds Q, ds.length = 2 → Fp_law_pick K W ds Q → T__law_pick (FpTaken K) W (En Q) (startD N__law_pick ds) := by
  rintro W ds Q _ ⟨row, xs, rfl, w, ne, hl, q⟩
  have pos : 0 < xs.length := List.length_pos_iff.mpr ne
  refine ⟨_, rfl, _, rfl, _, rfl, xs, .inr rfl, rfl, taken_ok w (by omega) (by omega) fun r r0 r1 => ?_⟩
  have l : r.toNat < xs.length := by omega
  have e : atI xs r = some xs[r.toNat] := by
    have : atI xs ((r.toNat : Nat) : Int) = some xs[r.toNat] := atI_nat (List.getElem?_eq_getElem l)
    rwa [show ((r.toNat : Nat) : Int) = r by omega] at this
  exact ⟨xs, r, xs[r.toNat], .inr rfl, rfl, e, q _ (List.getElem_mem l)⟩
theorem pr_law_heights : ∀ W ds Q, ds.length = 3 → Fp_law_heights K W ds Q → T__law_heights (Fp_law_pick K) (FpTaken K) W (En Q) (startD N__law_heights ds) := by
  rintro W ds Q _ ⟨row, n, rfl, w, few, q⟩
  refine ⟨_, rfl, _, rfl, _, _, rfl, rfl, ⟨by decide, by decide⟩, _, _, rfl, rfl, trivial, by show 3 ≤ 100000; decide, rfl, row, _, rfl, w, by simp, by show 3 ≤ 100000; decide, fun x hx => ?_⟩
  have : ∃ l : Int, x = .int l ∧ -49 ≤ l ∧ l ≤ 0 := by
    simp only [List.mem_cons, List.not_mem_nil, or_false] at hx
    rcases hx with rfl | rfl | rfl
    · exact ⟨0, rfl, by decide, by decide⟩
    · exact ⟨0, rfl, by decide, by decide⟩
    · exact ⟨_, rfl, by decide, by decide⟩
  obtain ⟨l, rfl, l0, l1⟩ := this
  refine ⟨_, rfl, n, rfl, by omega, by omega, ?_⟩
  rw [ints_of]
  refine ⟨by rw [dIs_len, pts_len]; omega, fun i acc => ∃ zs : List Int, acc = dIs zs ∧ zs.length = i ∧ ∀ z ∈ zs, -99 ≤ z ∧ z ≤ 99, ⟨[], rfl, rfl, fun _ h => absurd h List.not_mem_nil⟩, fun i d acc hd ⟨zs, e, zl, zb⟩ => ?_, fun acc ⟨zs, e, zl, zb⟩ => ?_⟩
  · subst e
    refine ⟨_, rfl, _, rfl, _, _, rfl, rfl, trivial, rfl, taken_ok w (by decide) (by decide) fun r r0 r1 => ⟨_, rfl, _, _, rfl, rfl, trivial, zs ++ [r + l], ?_, by rw [List.length_append, zl]; rfl, fun z hz => ?_⟩⟩
    · rw [dIs_app]; rfl
    · rcases List.mem_append.mp hz with hz | hz
      · exact zb z hz
      · rw [List.mem_singleton.mp hz]; omega
  · subst e
    rw [dIs_len, pts_len] at zl
    exact ⟨_, .inl rfl, q zs ⟨zl, zb⟩⟩
theorem pow5 (n : Nat) (h : n ≤ 4) : 5 ^ n ≤ 625 := by
  rcases n with _ | _ | _ | _ | _ | n
  · decide
  · decide
  · decide
  · decide
  · decide
  · omega
theorem pr_law_rows : ∀ W ds Q, ds.length = 2 → Fp_law_rows W ds Q → T__law_rows W (En Q) (startD N__law_rows ds) := by
  rintro W ds Q _ ⟨n, rfl, few, q⟩
  refine ⟨by show 0 ≤ 100000; decide, by show 1 ≤ 100000; decide, _, rfl, n, rfl, by omega, by omega, ?_⟩
  rw [ints_of]
  refine ⟨fun i ρ => ∃ a b c d L, ρ = [.im (.int n), .im (.int 4), .im (.lst (L.map rowT)), a, b, c, d] ∧ i ≤ n ∧ L.length ≤ 5 ^ i ∧ ∀ r : List Int, r ∈ L ↔ r.length = i ∧ ∀ x ∈ r, 0 ≤ x ∧ x ≤ 4, ⟨.no, .no, .no, .no, [[]], rfl, Nat.zero_le _, by decide, fun r => ?_⟩, fun i d ρ hd ⟨a, b, c, d', L, e, il, Ll, Lm⟩ => ?_, fun ρ ⟨a, b, c, d', L, e, il, Ll, Lm⟩ => ?_⟩
  · rw [List.mem_singleton]
    constructor
    · rintro rfl
      exact ⟨rfl, fun x h => absurd h List.not_mem_nil⟩
    · rintro ⟨h, _⟩
      exact List.eq_nil_of_length_eq_zero h
  · subst e
    obtain ⟨p, hp, rfl⟩ := dIs_get hd
    have il2 : i < n := by have := (List.getElem?_eq_some_iff.mp hp).1; rwa [pts_len] at this
    have p5 : 5 ^ i * 5 ≤ 625 := by have := pow5 (i + 1) (by omega); rwa [Nat.pow_succ] at this
    refine ⟨Nat.zero_le _, _, rfl, _, rfl, fun j ρ => ∃ c d M, ρ = [.im (.int n), .im (.int 4), .im (.lst (L.map rowT)), .im (.int p), .im (.lst (M.map rowT)), c, d] ∧ M.length ≤ 5 * j ∧ j ≤ L.length ∧ ∀ r : List Int, r ∈ M ↔ ∃ t ∈ L.take j, ∃ x : Int, r = t ++ [x] ∧ 0 ≤ x ∧ x ≤ 4,
      ⟨c, d', [], rfl, Nat.zero_le _, Nat.zero_le _, fun r => ⟨fun h => absurd h List.not_mem_nil, fun ⟨t, h, _⟩ => absurd h (by rw [List.take_zero]; exact List.not_mem_nil)⟩⟩, fun j d ρ hd ⟨c, d', M, e, Ml, jl, Mm⟩ => ?_, fun ρ ⟨c, d', M, e, Ml, jl, Mm⟩ => ?_⟩
    · subst e
      rw [List.getElem?_map] at hd
      cases ht : L[j]? with
      | none => rw [ht] at hd; cases hd
      | some t =>
        rw [ht] at hd
        cases hd
        have jl2 := (List.getElem?_eq_some_iff.mp ht).1
        have tl : t.length = i := ((Lm t).mp (List.mem_of_getElem? ht)).1
        refine ⟨_, rfl, _, rfl, _, _, rfl, rfl, trivial, 5, rfl, by decide, by decide, ?_⟩
        rw [show rng 0 5 = dIs (ptsL 5) from ints_of 5]
        refine comp_encM (xs := ptsL 5) (enc := D.int) (fun x => rowT (t ++ [x])) (by rw [pts_len]; decide) (fun x hx R r => ⟨_, rfl, _, rfl, by show 1 ≤ 100000; decide, dIs t, [.int x], rfl, rfl, by rw [dIs_len]; show t.length + 1 ≤ 100000; omega, by
          have : rowT (t ++ [x]) = .tup (dIs t ++ [.int x]) := by unfold rowT; rw [dIs_app]; rfl
          rw [this] at r; exact r⟩) ?_
        have em : (ptsL 5).map (fun x => rowT (t ++ [x])) = ((ptsL 5).map fun x => t ++ [x]).map rowT := by rw [List.map_map]; rfl
        rw [em]
        refine ⟨_, _, rfl, rfl, by rw [List.length_map, List.length_map, List.length_map, pts_len]; omega, ?_⟩
        refine ⟨.im (rowT t), d', M ++ (ptsL 5).map (fun x => t ++ [x]), ?_, by rw [List.length_append, List.length_map, pts_len]; omega, jl2, fun r => ?_⟩
        · rw [List.map_append]
          rfl
        · rw [List.mem_append, Mm]
          constructor
          · rintro (⟨u, hu, h⟩ | h)
            · exact ⟨u, (take_mem ht).mpr (.inl hu), h⟩
            · obtain ⟨x, hx, rfl⟩ := List.mem_map.mp h
              have := mem_pts.mp hx
              exact ⟨t, (take_mem ht).mpr (.inr rfl), x, rfl, this.1, by omega⟩
          · rintro ⟨u, hu, x, rfl, x0, x1⟩
            rcases (take_mem ht).mp hu with hu | rfl
            · exact .inl ⟨u, hu, x, rfl, x0, x1⟩
            · exact .inr (List.mem_map.mpr ⟨x, mem_pts.mpr ⟨x0, by omega⟩, rfl⟩)
    · subst e
      rw [List.length_map] at Ml Mm
      refine ⟨_, rfl, .im (.int p), _, c, d', M, rfl, by omega, by rw [Nat.pow_succ]; omega, fun r => ?_⟩
      rw [Mm]
      constructor
      · rintro ⟨t, ht, x, rfl, x0, x1⟩
        obtain ⟨t1, t2⟩ := (Lm t).mp (List.mem_of_mem_take ht)
        refine ⟨by rw [List.length_append, t1]; rfl, fun y hy => ?_⟩
        rcases List.mem_append.mp hy with hy | hy
        · exact t2 y hy
        · rw [List.mem_singleton.mp hy]; exact ⟨x0, x1⟩
      · rintro ⟨rl, rb⟩
        rcases nil_or_snoc r with rfl | ⟨t, x, rfl⟩
        · simp at rl
        · rw [List.length_append] at rl
          simp only [List.length_singleton] at rl
          have xb := rb x (List.mem_append_right _ (List.mem_singleton.mpr rfl))
          refine ⟨t, ?_, x, rfl, xb.1, xb.2⟩
          rw [List.take_of_length_le (Nat.le_refl _)]
          exact (Lm t).mpr ⟨by omega, fun y hy => rb y (List.mem_append_left _ hy)⟩
  · subst e
    rw [dIs_len, pts_len] at Ll Lm
    exact ⟨_, rfl, q L ⟨Nat.le_trans Ll (pow5 n few), Lm⟩⟩
end
end NR
/-! Likeness; the net drawn. -/
namespace NR
open PySem L2
theorem nest_ty {k : Nat} {d : D} (h : Nest k d) : d.tyn ≠ "" := by
  cases d with
  | raw a => cases k <;> exact h.elim
  | ty n => cases k <;> exact h.elim
  | tup xs => exact tup_ty xs
  | int i => exact int_ty i
  | _ => simp [D.tyn]
theorem atI_at {xs : List D} {i : Nat} (h : i < xs.length) : atI xs (i : Nat) = some xs[i] := atI_nat (List.getElem?_eq_getElem h)
/-- the sequences' road: R says the parts are alike -/
theorem alike_seq {W : Wc} {F : FT} {d : D} {xs : List D} {Q : D → Prop} (hd : d = .tup xs ∨ d = .lst xs) (hl : xs.length ≤ 1000) (hx : ∀ (x : D), x ∈ xs → ∀ R : D → Prop, R (.bl true) → F W [x, x] R) (q : Q (.bl true)) : T__law_alike F W (En Q) [.im d, .im d, .no] := by
  have dt : d.tyn ≠ "" := by
    rcases hd with rfl | rfl
    · exact tup_ty xs
    · show "list" ≠ ""; decide
  have hd1 : [d] = [D.tup xs] ∨ [d] = [D.lst xs] := hd.imp (congrArg fun z => [z]) (congrArg fun z => [z])
  have is1 : (d.isa "tuple" || d.isa "list") = true := by
    rcases hd with rfl | rfl <;> rfl
  refine ⟨_, rfl, by show 2 ≤ 100000; decide, d, dt, .inr ⟨"tuple", "list", rfl, tyIn3, tyIn4, _, rfl, ?_⟩⟩
  rw [is1]
  refine ⟨_, rfl, by show 2 ≤ 100000; decide, d, dt, .inr ⟨"tuple", "list", rfl, tyIn3, tyIn4, _, rfl, ?_⟩⟩
  rw [is1]
  refine ⟨_, rfl, d, dt, .inl ⟨"list", rfl, tyIn4, _, rfl, d, dt, .inl ⟨"list", rfl, tyIn4, .inr ⟨_, _, rfl, rfl, _, rfl, ?_⟩⟩⟩⟩
  rw [decide_eq_true rfl]
  refine ⟨_, rfl, xs, hd1, _, rfl, xs, hd1, .inl ⟨_, _, rfl, rfl, _, rfl, ?_⟩⟩
  rw [decide_eq_true rfl]
  refine ⟨_, rfl, xs, hd1, xs.length, rfl, by omega, by omega, ?_⟩
  rw [ints_of]
  refine comp_ints (xs := ptsL xs.length) (fun _ => false) .int (by rw [pts_len]; omega) (fun p hp R r => ?_) ?_
  · obtain ⟨p0, p1⟩ := mem_pts.mp hp
    have l : p.toNat < xs.length := by omega
    have e : atI xs p = some xs[p.toNat] := by
      have := atI_at l
      rwa [show ((p.toNat : Nat) : Int) = p by omega] at this
    refine ⟨d, rfl, _, rfl, xs, p, _, hd, rfl, e, d, rfl, _, rfl, xs, p, _, hd, rfl, e, rfl, hx _ (List.getElem_mem l) _ ⟨_, rfl, ?_⟩⟩
    exact r
  · rw [List.filter_eq_nil_iff.mpr fun _ _ => Bool.false_ne_true]
    exact ⟨by show 0 ≤ 100000; decide, _, rfl, rfl, okE_ints [], q⟩
theorem alike_flat {W : Wc} {F : FT} {d : D} {Q : D → Prop} (hd : (∃ i, d = .int i) ∨ ∃ b, d = .bl b) (q : Q (.bl true)) : T__law_alike F W (En Q) [.im d, .im d, .no] := by
  have dt : d.tyn ≠ "" := by
    rcases hd with ⟨i, rfl⟩ | ⟨b, rfl⟩
    · exact int_ty i
    · show "bool" ≠ ""; decide
  have is1 : (d.isa "tuple" || d.isa "list") = false := by
    rcases hd with ⟨i, rfl⟩ | ⟨b, rfl⟩ <;> rfl
  have is2 : d.isNon = false := by
    rcases hd with ⟨i, rfl⟩ | ⟨b, rfl⟩ <;> rfl
  have is3 : d.isa "str" = false := by
    rcases hd with ⟨i, rfl⟩ | ⟨b, rfl⟩ <;> rfl
  have is4 : d.isa "int" = true := by
    rcases hd with ⟨i, rfl⟩ | ⟨b, rfl⟩ <;> rfl
  refine ⟨_, rfl, by show 2 ≤ 100000; decide, d, dt, .inr ⟨"tuple", "list", rfl, tyIn3, tyIn4, _, rfl, ?_⟩⟩
  rw [is1]
  refine ⟨d, rfl, rfl, _, rfl, ?_⟩
  rw [is2]
  refine ⟨_, rfl, d, dt, .inl ⟨"str", rfl, tyIn5, _, rfl, ?_⟩⟩
  rw [is3]
  refine ⟨d, rfl, d, dt, .inl ⟨"int", rfl, tyIn1, _, rfl, ?_⟩⟩
  rw [is4]
  refine ⟨d, rfl, d, dt, .inl ⟨"bool", rfl, tyIn2, d, rfl, d, dt, .inl ⟨"bool", rfl, tyIn2, .inr ⟨_, _, rfl, rfl, _, rfl, ?_⟩⟩⟩⟩
  rw [decide_eq_true rfl]
  refine ⟨d, rfl, d, rfl, ?_⟩
  rcases hd with ⟨i, rfl⟩ | ⟨b, rfl⟩
  · refine .inl ⟨i, i, rfl, rfl, ?_⟩
    rw [decide_eq_true rfl]; exact q
  · refine .inr ⟨b, b, rfl, rfl, ?_⟩
    rw [decide_eq_true rfl]; exact q
theorem pr_alike0 : ∀ W ds Q, ds.length = 2 → Fp_alike 0 W ds Q → T__law_alike Fp_none W (En Q) (startD N__law_alike ds) := by
  rintro W ds Q _ ⟨d, rfl, h, q⟩
  cases d with
  | int i => exact alike_flat (.inl ⟨i, rfl⟩) q
  | bl b => exact alike_flat (.inr ⟨b, rfl⟩) q
  | _ => exact h.elim
theorem pr_alikeS (k : Nat) : ∀ W ds Q, ds.length = 2 → Fp_alike (k + 1) W ds Q → T__law_alike (Fp_alike k) W (En Q) (startD N__law_alike ds) := by
  rintro W ds Q _ ⟨d, rfl, h, q⟩
  cases d with
  | int i => exact alike_flat (.inl ⟨i, rfl⟩) q
  | bl b => exact alike_flat (.inr ⟨b, rfl⟩) q
  | tup xs => exact alike_seq (.inl rfl) h.1 (fun x hx R r => ⟨x, rfl, h.2 x hx, r⟩) q
  | lst xs => exact alike_seq (.inr rfl) h.1 (fun x hx R r => ⟨x, rfl, h.2 x hx, r⟩) q
  | _ => exact h.elim
end NR
/-! The net drawn. -/
namespace NR
open PySem L2
def KsOk (n : Nat) (ks : List (List Int)) : Prop := ks.Nodup ∧ ∀ k ∈ ks, ∃ x y : Int, k = [x, y] ∧ 0 ≤ x ∧ x < y ∧ y < n
theorem ksOk_put {n : Nat} {ks : List (List Int)} {x y : Int} (h : KsOk n ks) (h0 : 0 ≤ x) (h1 : x < y) (h2 : y < n) : KsOk n (putKs ks [x, y]) := by
  unfold putKs
  split
  · exact h
  · rename_i nm
    refine ⟨?_, fun k hk => ?_⟩
    · rw [List.nodup_append]
      exact ⟨h.1, List.pairwise_singleton _ _, fun a ha b hb e => nm (by rw [← List.mem_singleton.mp hb, ← e]; exact ha)⟩
    · rcases List.mem_append.mp hk with hk | hk
      · exact h.2 k hk
      · exact ⟨x, y, List.mem_singleton.mp hk, h0, h1, h2⟩
theorem ksOk_len {n : Nat} {ks : List (List Int)} (h : KsOk n ks) (few : n ≤ 4) : ks.length ≤ 16 := by
  have nd : (ks.map fun k => 4 * k.getD 0 0 + k.getD 1 0).Nodup := by
    rw [List.nodup_iff_pairwise_ne, List.pairwise_map]
    refine List.Pairwise.imp_of_mem (fun {a b} ha hb ne e => ?_) (List.nodup_iff_pairwise_ne.mp h.1)
    obtain ⟨x, y, rfl, x0, x1, x2⟩ := h.2 a ha
    obtain ⟨z, w, rfl, z0, z1, z2⟩ := h.2 b hb
    have e : 4 * x + y = 4 * z + w := e
    have h1 : x = z := by omega
    have h2 : y = w := by omega
    exact ne (by rw [h1, h2])
  have := nodup_pts_len (n := 16) nd fun v hv => by
    obtain ⟨k, hk, rfl⟩ := List.mem_map.mp hv
    obtain ⟨x, y, rfl, x0, x1, x2⟩ := h.2 k hk
    show 0 ≤ 4 * x + y ∧ 4 * x + y < 16
    omega
  rwa [List.length_map] at this
theorem le_pair {a b c d : Int} (h : [a, b] ≤ [c, d]) : a < c ∨ (a = c ∧ b ≤ d) := by
  have h' : ¬ [c, d] < [a, b] := List.not_lt.mpr h
  rw [List.cons_lt_cons_iff, List.cons_lt_cons_iff] at h'
  have : ¬ ([] : List Int) < [] := List.not_lt_nil _
  omega
theorem net_of {n : Nat} {cs : List (List Int)} (pos : 1 ≤ n) (few : n ≤ 4) (h : KsOk n cs) (s : cs.Pairwise (· ≤ ·)) : ∃ ps, GoodNet n ps ∧ netD n ps = .tup [.int n, .tup (cs.map tupI)] := by
  refine ⟨cs.map fun k => (k.getD 0 0, k.getD 1 0), ⟨pos, few, fun p hp => ?_, ?_, ?_⟩, ?_⟩
  · obtain ⟨k, hk, rfl⟩ := List.mem_map.mp hp
    obtain ⟨x, y, rfl, x0, x1, x2⟩ := h.2 k hk
    exact ⟨x0, x1, x2⟩
  · rw [List.pairwise_map]
    have both : cs.Pairwise fun a b => a ≤ b ∧ a ≠ b := List.Pairwise.imp₂ (fun _ _ h1 h2 => ⟨h1, h2⟩) s (List.nodup_iff_pairwise_ne.mp h.1)
    refine List.Pairwise.imp_of_mem (fun {a b} ha hb ⟨le, ne⟩ => ?_) both
    obtain ⟨x, y, rfl, x0, x1, x2⟩ := h.2 a ha
    obtain ⟨z, w, rfl, z0, z1, z2⟩ := h.2 b hb
    have := le_pair le
    show x < z ∨ (x = z ∧ y < w)
    rcases this with h1 | ⟨h1, h2⟩
    · exact .inl h1
    · refine .inr ⟨h1, ?_⟩
      have : y ≠ w := fun e => ne (by rw [h1, e])
      omega
  · rw [List.length_map]
    have := ksOk_len h few
    omega
  · unfold netD
    rw [List.map_map]
    have e : cs.map (pairD ∘ fun k => (k.getD 0 0, k.getD 1 0)) = cs.map tupI := List.map_congr_left fun k hk => by
      obtain ⟨x, y, rfl, _⟩ := h.2 k hk
      rfl
    rw [e]
theorem rng1_at {n : Int} {i : Nat} {d : D} (h : (rng 1 n)[i]? = some d) : d = .int (1 + (i : Nat)) ∧ 1 + (i : Int) < n := by
  have l := (List.getElem?_eq_some_iff.mp h).1
  rw [rng_len] at l
  rw [rng_get l] at h
  cases h
  exact ⟨rfl, by omega⟩
section
variable {K : PySem.W.Frag}
theorem pr_law_net : ∀ W ds Q, ds.length = 2 → Fp_law_net K W ds Q → T__law_net (FpTaken K) W (En Q) (startD N__law_net ds) := by
  rintro W ds Q _ ⟨row, rfl, w, q⟩
  refine ⟨_, rfl, _, rfl, rfl, taken_ok w (by decide) (by decide) fun r r0 r1 => ⟨_, _, rfl, rfl, trivial, ?_⟩⟩
  obtain ⟨n, hn⟩ : ∃ n : Nat, 1 + r = n := ⟨(1 + r).toNat, by omega⟩
  have pos : 1 ≤ n := by omega
  have few : n ≤ 4 := by omega
  let I : Nat → List Sl → Prop := fun _ ρ => ∃ a b c d ks, ρ = [.im (.raw row), .im (.int 4), a, b, .im (.int (1 + r)), .mt ks, c, d] ∧ KsOk n ks
  refine ⟨_, rfl, 1, 1 + r, rfl, ⟨by decide, by decide, by omega, by omega⟩, I, ⟨.no, .no, .no, .no, [], rfl, List.nodup_nil, fun _ h => absurd h List.not_mem_nil⟩, fun i d ρ hd ⟨a, b, c, d', ks, e, hk⟩ => ?_, fun ρ ⟨a, b, c, d', ks, e, hk⟩ => ?_⟩
  · subst e
    obtain ⟨rfl, hi⟩ := rng1_at hd
    have kl := ksOk_len hk few
    refine ⟨_, rfl, rfl, taken_ok w (by decide) (by decide) fun r3 r30 r31 => ⟨_, _, rfl, rfl, trivial, _, rfl, ?_⟩⟩
    by_cases h : 0 < r3
    · rw [decide_eq_true h]
      have put : ∀ o : Int, 0 ≤ o → o < 1 + (i : Nat) → dPutT 5 (dTup (aCons (dVar 6) (aCons (dVar 2) aNil))) (dC (.bl true)) { nx := I (i + 1), rt := (En Q).rt, bk := fun _ => False, ct := I (i + 1) } [.im (.raw row), .im (.int 4), .im (.int (1 + (i : Nat))), b, .im (.int (1 + r)), .mt ks, .im (.int o), d'] := fun o o0 o1 =>
        ⟨rfl, ks, rfl, by omega, _, rfl, _, rfl, by show 2 ≤ 100000; decide, [o, 1 + (i : Nat)], rfl, _, _, _, _, _, rfl, ksOk_put hk o0 o1 (by omega)⟩
      refine ⟨_, rfl, rfl, taken_ok w (by decide) (by decide) fun r2 r20 r21 => .inl ⟨_, _, rfl, rfl, _, rfl, ?_⟩⟩
      simp only [Bool.false_eq_true, if_false]
      by_cases h2 : r2 = 0
      · rw [decide_eq_true h2]
        exact ⟨_, rfl, _, _, rfl, rfl, trivial, put _ (by omega) (by omega)⟩
      · rw [decide_eq_false h2]
        exact ⟨_, rfl, _, rfl, rfl, taken_ok w (by omega) (by omega) fun o o0 o1 => put o o0 o1⟩
    · rw [decide_eq_false h]
      exact ⟨_, _, _, _, _, rfl, hk⟩
  · subst e
    have fin : ∀ ρ, (∃ a b c d ks, ρ = [.im (.raw row), .im (.int 4), a, b, .im (.int (1 + r)), .mt ks, c, d] ∧ KsOk n ks) → (dFreeze 5 (dRet (dTup (aCons (dVar 4) (aCons (dCB fTuple (aCons (dL (dCBL fSortDT (aCons (dVar 5) aNil))) aNil)) aNil))))) (En Q) ρ := by
      rintro ρ ⟨a, b, c, d, ks, rfl, hk⟩
      have kl := ksOk_len hk few
      refine ⟨_, _, rfl, rfl, _, rfl, _, rfl, ks, rfl, fun k hk' => ?_, by omega, fun cs c1 c2 => ⟨_, .inl rfl, by show 2 ≤ 100000; decide, ?_⟩⟩
      · obtain ⟨x, y, rfl, _⟩ := hk.2 k hk'
        exact List.cons_ne_nil _ _
      · obtain ⟨ps, G, e⟩ := net_of pos few ⟨c1.nodup_iff.mpr hk.1, fun k hk' => hk.2 k (c1.mem_iff.mp hk')⟩ c2
        have q' := q n ps G
        rw [e, ← hn] at q'
        exact q'
    have loop : ∀ m : Int, 0 ≤ m → m ≤ 4 → ∃ P : Nat → List Sl → Prop, P 0 [.im (.raw row), .im (.int 4), a, b, .im (.int (1 + r)), .mt ks, c, d'] ∧ (∀ i d ρ', (rng 0 m)[i]? = some d → P i ρ' → gdN 3 d ρ' fun ρ'' => (dSeq (dPar 7 6 (xE (dCall 2 (FpTaken K) W (aCons (dVar 0) (aCons (dVar 4) aNil)))) (xE (dCall 2 (FpTaken K) W (aCons (dVar 0) (aCons (dVar 4) aNil)))))
        (dIfS (dTest (dOp2 (fEqS true) (dVar 7) (dVar 6))) (dPutT 5 (dTup (aCons (dCB fMin2 (aCons (dVar 7) (aCons (dVar 6) aNil))) (aCons (dCB fMax2 (aCons (dVar 7) (aCons (dVar 6) aNil))) aNil))) (dC (.bl true))) dNext)) { nx := P (i + 1), rt := (En Q).rt, bk := (dFreeze 5 (dRet (dTup (aCons (dVar 4) (aCons (dCB fTuple (aCons (dL (dCBL fSortDT (aCons (dVar 5) aNil))) aNil)) aNil))))) (En Q), ct := P (i + 1) } ρ'') ∧ ∀ ρ', P (rng 0 m).length ρ' → (dFreeze 5 (dRet (dTup (aCons (dVar 4) (aCons (dCB fTuple (aCons (dL (dCBL fSortDT (aCons (dVar 5) aNil))) aNil)) aNil))))) (En Q) ρ' := by
      intro m m0 m1
      refine ⟨I, ⟨a, b, c, d', ks, rfl, hk⟩, fun i d ρ hd ⟨a, b, c, d', ks, e, hk⟩ => ?_, fun ρ h => fin ρ h⟩
      subst e
      have kl := ksOk_len hk few
      refine ⟨_, rfl, _, rfl, rfl, taken_ok w (by omega) (by omega) fun x x0 x1 => ⟨_, rfl, _, rfl, rfl, taken_ok w (by omega) (by omega) fun y y0 y1 => ⟨_, rfl, _, rfl, .inl ⟨x, y, rfl, rfl, _, rfl, ?_⟩⟩⟩⟩
      by_cases h : x = y
      · rw [decide_eq_true h]
        exact ⟨_, _, _, _, _, rfl, hk⟩
      · rw [decide_eq_false h]
        exact ⟨rfl, ks, rfl, by omega, _, rfl, _, rfl, x, y, rfl, _, rfl, _, rfl, x, y, rfl, by show 2 ≤ 100000; decide, [min x y, max x y], rfl, _, _, _, _, _, rfl, ksOk_put hk (by omega) (by omega) (by omega)⟩
    refine ⟨_, rfl, _, _, rfl, rfl, trivial, _, rfl, ?_⟩
    by_cases h : (2 : Int) < 1 + r
    · rw [decide_eq_true h]
      refine ⟨_, rfl, _, rfl, rfl, taken_ok w (by omega) (by omega) fun m m0 m1 => ⟨m, rfl, by omega, by omega, loop m m0 (by omega)⟩⟩
    · rw [decide_eq_false h]
      exact ⟨0, rfl, by decide, by decide, loop 0 (by decide) (by decide)⟩
end
end NR
/-! The law's own maths: the least of the gaps. -/
namespace NR
open PySem L2
def farP (n : Nat) (a b : List Int) : Int := maxI ((ptsL n).map fun p => absI (hF a p - hF b p))
section
variable {n : Nat} {nb : List (List Int)} {h : List Int} {s : Int}
theorem pts_ne (pos : 1 ≤ n) {f : Int → Int} : (ptsL n).map f ≠ [] := fun e => by
  have := congrArg List.length e
  rw [List.length_map, pts_len] at this
  simp at this
  omega
theorem far_le (pos : 1 ≤ n) {a b : List Int} {e : Int} : farP n a b ≤ e ↔ ∀ p : Int, 0 ≤ p → p < n → hF a p - hF b p ≤ e ∧ hF b p - hF a p ≤ e := by
  unfold farP
  constructor
  · intro k p p0 p1
    have h1 := le_maxI (List.mem_map.mpr ⟨p, mem_pts.mpr ⟨p0, p1⟩, rfl⟩ : absI (hF a p - hF b p) ∈ (ptsL n).map fun p => absI (hF a p - hF b p))
    have := absI_le.mp (Int.le_trans h1 k)
    omega
  · intro k
    obtain ⟨p, hp, e'⟩ := List.mem_map.mp (maxI_mem (pts_ne pos (f := fun p => absI (hF a p - hF b p))))
    obtain ⟨p0, p1⟩ := mem_pts.mp hp
    have := k p p0 p1
    rw [← e']
    exact absI_le.mpr (by omega)
theorem far_zip {a b : List Int} (ha : a.length = n) (hb : b.length = n) : farI a b = farP n a b := by
  unfold farI farP
  rw [zip_pts ha hb]
/-- a row of the law's own -/
def Low (n : Nat) (h : List Int) : Prop := h.length = n ∧ ∀ x ∈ h, 0 ≤ x ∧ x ≤ 4
theorem Low.at_ (l : Low n h) {p : Int} (p0 : 0 ≤ p) (p1 : p < n) : 0 ≤ hF h p ∧ hF h p ≤ 4 := l.2 _ (hF_mem p0 (by rw [l.1]; exact p1))
theorem deep_ok (G : NbOk n nb) (l : Low n h) : 0 ≤ deepI n nb s h ∧ (∀ p : Int, 0 ≤ p → p < n → 0 ≤ hF (cutL n nb s h) p ∧ hF (cutL n nb s h) p ≤ hF h p ∧ hF h p - hF (cutL n nb s h) p ≤ deepI n nb s h) ∧ ∃ p : Int, 0 ≤ p ∧ p < n ∧ hF h p - hF (cutL n nb s h) p = deepI n nb s h := by
  have C := cut_is (s := s) G l.1
  have at_ : ∀ p : Int, 0 ≤ p → p < n → 0 ≤ hF (cutL n nb s h) p ∧ hF (cutL n nb s h) p ≤ hF h p ∧ hF h p - hF (cutL n nb s h) p ≤ deepI n nb s h := fun p p0 p1 => by
    have pm := mem_pts.mpr ⟨p0, p1⟩
    refine ⟨C.top p pm 0 (l.at_ p0 p1).1 (.inr fun q c => ?_), C.le p pm, le_maxI (List.mem_map.mpr ⟨p, pm, rfl⟩)⟩
    obtain ⟨q0, q1⟩ := mem_pts.mp (circ_in G.gph pm c)
    exact (l.at_ q0 q1).1
  obtain ⟨p, hp, e⟩ := List.mem_map.mp (maxI_mem (pts_ne G.pos (f := fun p => hF h p - hF (cutL n nb s h) p)))
  obtain ⟨p0, p1⟩ := mem_pts.mp hp
  have e : hF h p - hF (cutL n nb s h) p = deepI n nb s h := e
  exact ⟨by have := at_ p p0 p1; omega, at_, p, p0, p1, e⟩
noncomputable abbrev least (n : Nat) (nb : List (List Int)) (s : Int) (h : List Int) : Int := (deepI n nb s h + 1) / 2
theorem least_low (G : NbOk n nb) (l : Low n h) {r : List Int} (b : Bumpless (ptsL n) (nbR nb) s (hF r)) : least n nb s h ≤ farP n r h := by
  obtain ⟨_, _, p, p0, p1, e⟩ := deep_ok (s := s) G l
  have k := (far_le G.pos (a := r) (b := h)).mp (Int.le_refl _)
  have := half_low G.gph (cut_is (s := s) G l.1) (mem_pts.mpr ⟨p0, p1⟩) e b (e := farP n r h) fun q hq => by
    obtain ⟨q0, q1⟩ := mem_pts.mp hq
    exact k q q0 q1
  unfold least
  omega
/-- a row above the cut by half of the drop -/
theorem raised (G : NbOk n nb) (l : Low n h) {k : Int} (hk : 4 ≤ k) {r : List Int} (hr : ∀ p : Int, 0 ≤ p → p < n → hF r p = min k (hF (cutL n nb s h) p + deepI n nb s h / 2)) : Bumpless (ptsL n) (nbR nb) s (hF r) ∧ farP n r h ≤ least n nb s h := by
  obtain ⟨d0, at_, _⟩ := deep_ok (s := s) G l
  refine ⟨Bumpless.congr (fun q hq => ?_) G.gph (((cut_is (s := s) G l.1).bumpless G.gph).shift (deepI n nb s h / 2) |>.clip k), (far_le G.pos).mpr fun p p0 p1 => ?_⟩
  · obtain ⟨q0, q1⟩ := mem_pts.mp hq
    rw [hr q q0 q1]
  · rw [hr p p0 p1]
    obtain ⟨a, b, c⟩ := at_ p p0 p1
    have := l.at_ p0 p1
    unfold least
    omega
theorem near_at (G : NbOk n nb) {p : Int} (p0 : 0 ≤ p) (p1 : p < n) : hF (nearL n nb s h) p = min 99 (hF (cutL n nb s h) p + deepI n nb s h / 2) := by
  have l : p.toNat < (cutL n nb s h).length := by rw [cutL_len]; omega
  unfold hF nearL
  rw [List.getD_eq_getElem?_getD, List.getElem?_map, List.getD_eq_getElem?_getD, List.getElem?_eq_getElem l]
  rfl
theorem near_len : (nearL n nb s h).length = n := by unfold nearL; rw [List.length_map, cutL_len]
open Classical in
theorem least_is (G : NbOk n nb) (l : Low n h) {L : List (List Int)} (gl : GoodRows n L) :
    minI ((L.filter fun r => decide (Bumpless (ptsL n) (nbR nb) s (hF r))).map fun r => farP n r h) = least n nb s h := by
  symm
  have low : ∀ y ∈ (L.filter fun r => decide (Bumpless (ptsL n) (nbR nb) s (hF r))).map (fun r => farP n r h), least n nb s h ≤ y := fun y hy => by
    obtain ⟨r, hr, rfl⟩ := List.mem_map.mp hy
    exact least_low G l (of_decide_eq_true (List.mem_filter.mp hr).2)
  obtain ⟨d0, at_, _⟩ := deep_ok (s := s) G l
  let r0 : List Int := (ptsL n).map fun p => min 4 (hF (cutL n nb s h) p + deepI n nb s h / 2)
  have hr0 : ∀ p : Int, 0 ≤ p → p < n → hF r0 p = min 4 (hF (cutL n nb s h) p + deepI n nb s h / 2) := fun p p0 p1 => hF_map p0 p1
  obtain ⟨b0, f0⟩ := raised G l (Int.le_refl 4) hr0
  have m0 : r0 ∈ L := (gl.2 r0).mpr ⟨by show ((ptsL n).map _).length = n; rw [List.length_map, pts_len], fun x hx => by
    obtain ⟨p, hp, rfl⟩ := List.mem_map.mp hx
    obtain ⟨p0, p1⟩ := mem_pts.mp hp
    have := at_ p p0 p1
    omega⟩
  have mem : farP n r0 h ∈ (L.filter fun r => decide (Bumpless (ptsL n) (nbR nb) s (hF r))).map (fun r => farP n r h) := List.mem_map.mpr ⟨r0, List.mem_filter.mpr ⟨m0, decide_eq_true b0⟩, rfl⟩
  have e : least n nb s h = farP n r0 h := by
    have := low _ mem
    omega
  exact minI_eq (by rw [e]; exact mem) low
theorem some_ne (G : NbOk n nb) (l : Low n h) {L : List (List Int)} (gl : GoodRows n L) : ∃ r ∈ L, Bumpless (ptsL n) (nbR nb) s (hF r) := by
  obtain ⟨d0, at_, _⟩ := deep_ok (s := s) G l
  let r0 : List Int := (ptsL n).map fun p => min 4 (hF (cutL n nb s h) p + deepI n nb s h / 2)
  have hr0 : ∀ p : Int, 0 ≤ p → p < n → hF r0 p = min 4 (hF (cutL n nb s h) p + deepI n nb s h / 2) := fun p p0 p1 => hF_map p0 p1
  obtain ⟨b0, f0⟩ := raised G l (Int.le_refl 4) hr0
  refine ⟨r0, (gl.2 r0).mpr ⟨by show ((ptsL n).map _).length = n; rw [List.length_map, pts_len], fun x hx => ?_⟩, b0⟩
  obtain ⟨p, hp, rfl⟩ := List.mem_map.mp hx
  obtain ⟨p0, p1⟩ := mem_pts.mp hp
  have := at_ p p0 p1
  omega
end
end NR
/-! The law's text: its end. -/
namespace NR
open PySem L2
abbrev EnL : DEnds := { nx := fun _ => False, rt := fun d => d = .bl true }
theorem far_eval {n : Nat} {a b : List Int} {Q : List D → Prop} {g : DG} {F : DE} {vs : List Nat} {ρ : List Sl} (few : n ≤ 4)
    (step : ∀ p : Int, 0 ≤ p → p < n → ∀ R : D → Prop, R (.int (absI (hF a p - hF b p))) → g (.int p) (wipeD ρ vs) fun ρ' => F ρ' R) (h : Q (dIs ((ptsL n).map fun p => absI (hF a p - hF b p)))) :
    (dIs (ptsL n)).length ≤ 100000 ∧ ∃ P : Nat → List D → Prop, P 0 [] ∧ (∀ i d acc, (dIs (ptsL n))[i]? = some d → P i acc → g d (wipeD ρ vs) fun ρ' => tYesD ρ' fun b => if b = true then F ρ' fun y => P (i + 1) (acc ++ [y]) else P (i + 1) acc) ∧ ∀ acc, P (dIs (ptsL n)).length acc → Q acc := by
  refine comp_encM (xs := ptsL n) (enc := D.int) (fun p => .int (absI (hF a p - hF b p))) (by rw [pts_len]; omega) (fun p hp R r => step p (mem_pts.mp hp).1 (mem_pts.mp hp).2 R r) ?_
  have e : (ptsL n).map (fun p => D.int (absI (hF a p - hF b p))) = dIs ((ptsL n).map fun p => absI (hF a p - hF b p)) := by unfold dIs; rw [List.map_map]; rfl
  rw [e]
  exact h
theorem nest_row {k : Nat} {r : List Int} (h : r.length ≤ 1000) : Nest (k + 1) (rowT r) := ⟨by rw [dIs_len]; exact h, fun x hx => by
  obtain ⟨i, _, rfl⟩ := List.mem_map.mp hx
  cases k <;> exact True.intro⟩
theorem nest_int {k : Nat} {i : Int} : Nest k (.int i) := by cases k <;> exact True.intro
theorem nest_bl {k : Nat} {b : Bool} : Nest k (.bl b) := by cases k <;> exact True.intro
theorem nest_tup2 {k : Nat} {a b : D} (ha : Nest k a) (hb : Nest k b) : Nest (k + 1) (.tup [a, b]) := ⟨show 2 ≤ 1000 by decide, fun x hx => by
  rcases List.mem_cons.mp hx with rfl | hx
  · exact ha
  · rw [List.mem_singleton.mp hx]; exact hb⟩
theorem nest_lst2 {k : Nat} {a b : D} (ha : Nest k a) (hb : Nest k b) : Nest (k + 1) (.lst [a, b]) := nest_tup2 ha hb
/-- behind the loop -/
theorem law_end {K : PySem.W.Frag} {W : Wc} {row : Addr} {n : Nat} {ps : List (Int × Int)} {h : List Int} {x0 x3 x4 x5 x6 x7 x8 x9 x10 x12 x14 x15 x16 x17 x18 x19 x20 x21 x22 x23 x24 x25 : Sl} (w : WOk K W row) (GN : GoodNet n ps) (gr : GoodRow n h) :
    T_lawC (Fp_law_net K) (FpTaken K) Fp_law_rows Fp_law_bumps (Fp_alike 3) Fp_least_change Fp_law_cut Fp_law_fill Fp_between Fp_worst_point Fp_near_row (Fp_law_pick K) Fp_shows (Fp_law_heights K) Fp_higher Fp_lower Fp_apart W EnL
      [x0, .im (.raw row), .im (netD n ps), x3, x4, x5, x6, x7, x8, x9, x10, .im (.int n), x12, .im (rowT h), x14, x15, x16, x17, x18, x19, x20, x21, x22, x23, x24, x25] := by
  have few := GN.few
  have pos := GN.pos
  have zip_len : ∀ {f : Int → Int → Int} {b : List Int}, b.length = n → (zipI f h b).length ≤ 1000 := fun hb => by unfold zipI; rw [List.length_map, List.length_zip, gr.1, hb]; omega
  refine ⟨_, rfl, _, rfl, rfl, row, n, rfl, w, few, fun B gB => ?_⟩
  refine ⟨_, rfl, _, rfl, dIs h, dIs B, rfl, by rw [dIs_len, dIs_len, gr.1, gB.1], ?_⟩
  rw [zipD_ints]
  refine comp_encM (fun p => .int (max p.1 p.2)) (by rw [List.length_zip, gr.1, gB.1]; omega) (fun p _ R r => ⟨_, rfl, _, _, rfl, r⟩) ?_
  rw [zipI_D max]
  refine ⟨_, .inl rfl, _, rfl, _, rfl, dIs h, dIs B, rfl, by rw [dIs_len, dIs_len, gr.1, gB.1], ?_⟩
  rw [zipD_ints]
  refine comp_encM (fun p => .int (min p.1 p.2)) (by rw [List.length_zip, gr.1, gB.1]; omega) (fun p _ R r => ⟨_, rfl, _, _, rfl, r⟩) ?_
  rw [zipI_D min]
  refine ⟨_, .inl rfl, ?_⟩
  refine ⟨_, rfl, _, rfl, _, rfl, rfl, n, ps, h, B, rfl, GN, gr, gB, _, rfl, _, rfl, _, rfl, rfl, n, ps, h, B, rfl, GN, gr, gB, by show 2 ≤ 100000; decide, _, rfl, _, rfl, by show 2 ≤ 100000; decide, ?_⟩
  refine ⟨rfl, _, rfl, nest_lst2 (nest_row (zip_len gB.1)) (nest_row (zip_len gB.1)), _, rfl, ?_⟩
  refine ⟨_, rfl, _, rfl, _, rfl, rfl, n, ps, h, B, rfl, GN, gr, gB, _, rfl, n, rfl, by omega, by omega, ?_⟩
  rw [ints_of]
  refine far_eval (a := h) (b := B) few (fun p p0 p1 R r' => ⟨_, rfl, _, rfl, _, _, _, .inl rfl, rfl, ix_h p0 (by rw [gr.1]; exact p1), _, rfl, _, rfl, _, _, _, .inl rfl, rfl, ix_h p0 (by rw [gB.1]; exact p1), _, _, rfl, rfl, trivial, _, rfl, r'⟩) ?_
  have e : farI h B = maxI ((ptsL n).map fun p => absI (hF h p - hF B p)) := far_zip gr.1 gB.1
  refine ⟨_, rfl, pts_ne pos, rfl, .int (farI h B), by rw [← e], nest_int, rfl⟩
end NR
/-! The law's loop over values. -/
namespace NR
open PySem L2
/-- a value that the law shows -/
def VOk (v : D) : Prop := v.tyn ≠ "" ∧ ∀ xs, v = .tup xs → xs.length ≤ 1000 ∧ ∀ d ∈ xs, d.flat = true
theorem flat_ty {d : D} (h : d.flat = true) : d.tyn ≠ "" := by
  cases d with
  | int i => exact int_ty i
  | raw a => cases h
  | ty n => cases h
  | tup xs => cases h
  | lst xs => cases h
  | dk ks => cases h
  | dt ks => cases h
  | _ => simp [D.tyn]
theorem VOk.simple {v : D} (h : VOk v) : Simple v := by
  cases v with
  | tup xs => exact fun d hd => flat_ty ((h.2 xs rfl).2 d hd)
  | _ => exact h.1
def badF (d : D) : Option D := if isIn d (-99) 99 = true then none else some d
theorem bad_flat {xs : List D} (h : ∀ d ∈ xs, d.flat = true) : ∀ d ∈ xs.filterMap badF, d.flat = true := fun d hd => by
  obtain ⟨x, hx, e⟩ := List.mem_filterMap.mp hd
  unfold badF at e
  split at e
  · cases e
  · rw [← Option.some.inj e]; exact h x hx
theorem bad_nil : ∀ xs : List D, (xs.filterMap badF).isEmpty = allIn xs
  | [] => rfl
  | d :: xs => by
    have h : allIn (d :: xs) = (isIn d (-99) 99 && allIn xs) := rfl
    rw [h, ← bad_nil xs]
    cases e : isIn d (-99) 99 with
    | true =>
      rw [List.filterMap_cons_none (show badF d = none by unfold badF; rw [e]; rfl)]
      rfl
    | false =>
      rw [List.filterMap_cons_some (show badF d = some d by unfold badF; rw [e]; rfl)]
      rfl
theorem law_turn {K : PySem.W.Frag} {W : Wc} {n : Nat} {ps : List (Int × Int)} {h GP : List Int} {s : Int} {v : D} {E : DEnds} {x0 x1 x3 x5 x6 x7 x8 x10 x12 x15 x16 x17 x18 x19 x20 x21 x22 x23 x24 x25 : Sl} (gd : Gd n ps h s) (gne : GP ≠ []) (lst : minI GP = least n (nbOf n ps) s h) (vo : VOk v)
    (k : ∀ g : Bool, E.nx [x0, x1, .im (netD n ps), x3, .im (.lst (dIs GP)), x5, x6, x7, x8, .im v, x10, .im (.int n), x12, .im (rowT h), .im (.int s), x15, x16, x17, x18, .im (.bl g), x20, x21, x22, x23, x24, x25]) :
    T_lawL (Fp_law_net K) (FpTaken K) Fp_law_rows Fp_law_bumps (Fp_alike 3) Fp_least_change Fp_law_cut Fp_law_fill Fp_between Fp_worst_point Fp_near_row (Fp_law_pick K) Fp_shows (Fp_law_heights K) Fp_higher Fp_lower Fp_apart W E
      [x0, x1, .im (netD n ps), x3, .im (.lst (dIs GP)), x5, x6, x7, x8, .im v, x10, .im (.int n), x12, .im (rowT h), .im (.int s), x15, x16, x17, x18, x19, x20, x21, x22, x23, x24, x25] := by
  have GN := gd.1
  have few := GN.few
  have pos := GN.pos
  have G := GN.nb
  have hl := gd.2.1.1
  -- the end of the turn
  have fin : ∀ g : Bool, (g = true ↔ ShowsOk n (nbOf n ps) s h (least n (nbOf n ps) s h) v) → (dIfS (dNot (dTest (dCall 2 (Fp_alike 3) W (aCons (dCall 4 Fp_shows W (aCons (dVar 2) (aCons (dVar 13) (aCons (dVar 14) (aCons (dVar 9) aNil))))) (aCons (dVar 19) aNil))))) (dRet (dC (.bl false))) dNext) E
      [x0, x1, .im (netD n ps), x3, .im (.lst (dIs GP)), x5, x6, x7, x8, .im v, x10, .im (.int n), x12, .im (rowT h), .im (.int s), x15, x16, x17, x18, .im (.bl g), x20, x21, x22, x23, x24, x25] := fun g hg => by
    refine ⟨_, rfl, _, rfl, _, rfl, _, rfl, rfl, n, ps, h, s, v, rfl, gd, vo.simple, fun b hb => ⟨_, rfl, rfl, .bl b, ?_, nest_bl, _, rfl, k g⟩⟩
    have : b = g := by rw [Bool.eq_iff_iff, hb, hg]
    rw [this]
  refine ⟨_, rfl, v, vo.1, .inl ⟨"tuple", rfl, tyIn3, _, rfl, ?_⟩⟩
  by_cases tv : ∃ xs, v = .tup xs
  · obtain ⟨xs, rfl⟩ := tv
    obtain ⟨xl, xf⟩ := vo.2 xs rfl
    refine ⟨_, rfl, xs, .inl rfl, _, rfl, .inl ⟨_, _, rfl, rfl, ?_⟩⟩
    by_cases ln : (xs.length : Int) = n
    · simp only [Bool.false_eq_true, if_false]
      rw [decide_eq_true ln]
      refine ⟨_, rfl, _, rfl, _, rfl, xs, rfl, comp_fmC badF (by omega) (fun d hd R r => ?_) ?_⟩
      · have df := xf d hd
        have dt := flat_ty df
        refine ⟨_, rfl, d, dt, .inl ⟨"bool", rfl, tyIn2, _, rfl, ?_⟩⟩
        cases d with
        | bl b => exact ⟨_, rfl, r⟩
        | int i =>
          refine ⟨_, rfl, _, dt, .inl ⟨"int", rfl, tyIn1, _, rfl, ?_⟩⟩
          refine ⟨_, rfl, i, rfl, _, _, rfl, rfl, trivial, _, rfl, ?_⟩
          have e : isIn (.int i) (-99) 99 = !decide (99 < absI i) := by
            rw [isIn_eq, Bool.eq_iff_iff, Bool.and_eq_true_iff, decide_eq_true_iff, decide_eq_true_iff, Bool.not_eq_true', decide_eq_false_iff_not]
            unfold absI
            split <;> omega
          have r' : R (if isIn (.int i) (-99) 99 = true then none else some (.int i)) := r
          rw [e] at r'
          by_cases q9 : 99 < absI i
          · have q9' : 99 < (if i < 0 then -i else i) := q9
            rw [decide_eq_true q9'] 
            rw [decide_eq_true q9] at r'
            exact ⟨_, rfl, r'⟩
          · have q9' : ¬ 99 < (if i < 0 then -i else i) := q9
            rw [decide_eq_false q9'] 
            rw [decide_eq_false q9] at r'
            exact r'
        | non => exact ⟨_, rfl, _, dt, .inl ⟨"int", rfl, tyIn1, _, rfl, ⟨_, rfl, r⟩⟩⟩
        | str x => exact ⟨_, rfl, _, dt, .inl ⟨"int", rfl, tyIn1, _, rfl, ⟨_, rfl, r⟩⟩⟩
        | _ => cases df
      · refine ⟨by show 0 ≤ 100000; decide, _, rfl, rfl, okE_flat (bad_flat xf), ?_⟩
        simp only [Bool.false_eq_true, if_false]
        rw [bad_nil]
        cases ha : allIn xs with
        | false =>
          refine ⟨_, rfl, _, rfl, fin false ⟨fun h => absurd h Bool.false_ne_true, fun ⟨r', e', ⟨_, k'⟩, _⟩ => ?_⟩⟩
          have : xs = dIs r' := by injection e'
          rw [this, all_dIs k'] at ha
          cases ha
        | true =>
          obtain ⟨e, kk⟩ := in_ints ha
          generalize xs.map getI = r at e kk
          subst e
          rw [dIs_len] at ln
          have rl : r.length = n := by omega
          have vr : D.tup (dIs r) = rowT r := rfl
          have at_ : ∀ p : Int, 0 ≤ p → p < n → atI (dIs r) p = some (.int (hF r p)) := fun p p0 p1 => ix_h p0 (by omega)
          have hat : ∀ p : Int, 0 ≤ p → p < n → atI (dIs h) p = some (.int (hF h p)) := fun p p0 p1 => ix_h p0 (by omega)
          have shows : ∀ g : Bool, (g = true ↔ farP n r h ≤ least n (nbOf n ps) s h ∧ Bumpless (ptsL n) (nbR (nbOf n ps)) s (hF r)) → (g = true ↔ ShowsOk n (nbOf n ps) s h (least n (nbOf n ps) s h) (.tup (dIs r))) := fun g hg => by
            rw [hg, far_le pos]
            constructor
            · rintro ⟨h1, h2⟩
              exact ⟨r, rfl, ⟨rl, kk⟩, h2, fun p p0 p1 => ⟨(h1 p p0 p1).2, (h1 p p0 p1).1⟩⟩
            · rintro ⟨r', e', _, h2, h1⟩
              have : dIs r = dIs r' := by injection e'
              rw [← dIs_inj this] at h1 h2
              exact ⟨fun p p0 p1 => ⟨(h1 p p0 p1).2, (h1 p p0 p1).1⟩, h2⟩
          refine ⟨_, rfl, _, rfl, _, rfl, n, rfl, by omega, by omega, ?_⟩
          rw [ints_of]
          refine far_eval (a := r) (b := h) few (fun p p0 p1 R r' => ⟨_, rfl, _, rfl, _, _, _, .inl rfl, rfl, at_ p p0 p1, _, rfl, _, rfl, _, _, _, .inl rfl, rfl, hat p p0 p1, _, _, rfl, rfl, trivial, _, rfl, r'⟩) ?_
          refine ⟨_, rfl, pts_ne pos, _, rfl, GP, rfl, gne, _, _, rfl, rfl, trivial, ?_⟩
          rw [lst]
          by_cases f : farP n r h ≤ least n (nbOf n ps) s h
          · have f' : maxI ((ptsL n).map fun p => absI (hF r p - hF h p)) ≤ least n (nbOf n ps) s h := f
            refine ⟨_, rfl, _, rfl, ?_⟩
            rw [decide_eq_true f']
            refine ⟨_, rfl, _, rfl, _, rfl, rfl, n, ps, r, s, rfl, GN, rl, fun bs hb => ⟨by show 0 ≤ 100000; decide, _, rfl, rfl, okE_tups bs, fin _ (shows _ ?_)⟩⟩
            simp only [Bool.false_eq_true, if_false]
            rw [map_empty, bumps_nil GN.nb hb]
            exact ⟨fun h => ⟨f, h⟩, fun h => h.2⟩
          · have f' : ¬ maxI ((ptsL n).map fun p => absI (hF r p - hF h p)) ≤ least n (nbOf n ps) s h := f
            refine ⟨_, rfl, _, rfl, ?_⟩
            rw [decide_eq_false f']
            exact fin false (shows false ⟨fun h => absurd h Bool.false_ne_true, fun h => absurd h.1 f⟩)
    · simp only [Bool.false_eq_true, if_false]
      rw [decide_eq_false ln]
      refine ⟨_, rfl, _, rfl, _, rfl, _, rfl, fin false ⟨fun h => absurd h Bool.false_ne_true, fun ⟨r', e', ⟨k1, _⟩, _⟩ => ?_⟩⟩
      have : xs = dIs r' := by injection e'
      rw [this, dIs_len, k1] at ln
      exact absurd rfl ln
  · have e : v.isa "tuple" = false := by
      cases v with
      | tup xs => exact absurd ⟨xs, rfl⟩ tv
      | _ => rfl
    rw [e]
    refine ⟨_, rfl, _, rfl, _, rfl, _, rfl, fin false ⟨fun h => absurd h Bool.false_ne_true, fun ⟨r', e', _⟩ => absurd ⟨_, e'⟩ tv⟩⟩
end NR
/-! The law's text from its values on. -/
namespace NR
open PySem L2
theorem cutD_ints (r : List Int) (lo hi : Option Int) : ∃ r' : List Int, cutD (dIs r) lo hi = dIs r' ∧ r'.length ≤ r.length := by
  unfold cutD
  refine ⟨(r.drop (HT.sIx (dIs r).length 0 lo)).take (HT.sIx (dIs r).length (dIs r).length hi - HT.sIx (dIs r).length 0 lo), ?_, ?_⟩
  · unfold dIs
    rw [List.map_take, List.map_drop]
  · rw [List.length_take, List.length_drop]
    omega
theorem vok_ints {r : List Int} (h : r.length ≤ 1000) : VOk (.tup (dIs r)) := ⟨tup_ty _, fun xs e => by
  injection e with e
  subst e
  exact ⟨by rw [dIs_len]; exact h, ints_flat r⟩⟩
theorem vok_other {v : D} (h : v.tyn ≠ "") (n : ∀ xs, v ≠ .tup xs) : VOk v := ⟨h, fun xs e => absurd e (n xs)⟩
theorem mem_rep {k : Int} {x d : D} (h : d ∈ repD k [x]) : d = x := by
  unfold repD at h
  obtain ⟨l, hl, hd⟩ := List.mem_flatten.mp h
  rw [(List.mem_replicate.mp hl).2] at hd
  exact List.mem_singleton.mp hd
theorem rep_len (k : Int) (x : D) : (repD k [x]).length = k.toNat := by
  unfold repD
  rw [PyProof.Rows.lm_len_rep_flat]
  show k.toNat * 1 = k.toNat
  rw [Nat.mul_one]
theorem vok_rep {n : Nat} {x : D} (few : n ≤ 4) (h : x.flat = true) : VOk (.tup (repD n [x])) := ⟨tup_ty _, fun xs e => by
  injection e with e
  subst e
  exact ⟨by rw [rep_len]; omega, fun d hd => by rw [mem_rep hd]; exact h⟩⟩
theorem law_tail {K : PySem.W.Frag} {W : Wc} {row : Addr} {n : Nat} {ps : List (Int × Int)} {h GP ro : List Int} {s at_ : Int} {x0 x3 x5 x7 x8 x9 x10 x12 x19 x20 x21 x22 x23 x24 x25 : Sl} (w : WOk K W row) (gd : Gd n ps h s) (gne : GP ≠ []) (lst : minI GP = least n (nbOf n ps) s h) (rol : ro.length = n) (at0 : 0 ≤ at_) (at1 : at_ < n) :
    T_lawB (Fp_law_net K) (FpTaken K) Fp_law_rows Fp_law_bumps (Fp_alike 3) Fp_least_change Fp_law_cut Fp_law_fill Fp_between Fp_worst_point Fp_near_row (Fp_law_pick K) Fp_shows (Fp_law_heights K) Fp_higher Fp_lower Fp_apart W EnL
      [x0, .im (.raw row), .im (netD n ps), x3, .im (.lst (dIs GP)), x5, .im (rowT ro), x7, x8, x9, x10, .im (.int n), x12, .im (rowT h), .im (.int s), .im (rowT (cutL n (nbOf n ps) s h)), .im (rowT (fillL n (nbOf n ps) s h)), .im (rowT (nearL n (nbOf n ps) s h)), .im (.int at_), x19, x20, x21, x22, x23, x24, x25] := by
  have GN := gd.1
  have few := GN.few
  have pos := GN.pos
  have hl := gd.2.1.1
  have nl := near_len (n := n) (nb := nbOf n ps) (s := s) (h := h)
  have cl := cutL_len (n := n) (nb := nbOf n ps) (s := s) (h := h)
  have fl : (fillL n (nbOf n ps) s h).length = n := by unfold fillL; rw [neg_len, cutL_len]
  generalize hfo : nearL n (nbOf n ps) s h = fo at nl ⊢
  generalize cutL n (nbOf n ps) s h = lo at cl ⊢
  generalize fillL n (nbOf n ps) s h = hi at fl ⊢
  have dl : (dIs fo).length = n := by rw [dIs_len, nl]
  have atE : atI (dIs fo) at_ = some (.int (hF fo at_)) := ix_h at0 (by omega)
  obtain ⟨c1, e1, l1⟩ := cutD_ints fo none (some at_)
  obtain ⟨c2, e2, l2⟩ := cutD_ints fo (some (at_ + 1)) none
  -- the values
  refine ⟨_, rfl, _, rfl, _, rfl, _, rfl, _, rfl, _, rfl, _, rfl, comp_encM (xs := lo) (enc := D.int) (fun y => .int (y + minI GP)) (by omega) (fun y _ R r => ⟨_, rfl, _, rfl, GP, rfl, gne, _, _, rfl, rfl, trivial, r⟩) ?_⟩
  have em : lo.map (fun y => D.int (y + minI GP)) = dIs (lo.map fun y => y + minI GP) := by unfold dIs; rw [List.map_map]; rfl
  rw [em]
  refine ⟨_, .inl rfl, ?_⟩
  refine ⟨_, rfl, _, rfl, at_, rfl, dIs fo, rfl, ?_⟩
  rw [e1]
  refine ⟨_, rfl, _, rfl, _, _, _, .inl rfl, rfl, atE, _, _, rfl, rfl, trivial, by show 1 ≤ 100000; decide, _, _, rfl, rfl, by rw [dIs_len]; show c1.length + 1 ≤ 100000; omega, ?_⟩
  refine ⟨_, rfl, _, rfl, _, _, rfl, rfl, trivial, _, rfl, dIs fo, rfl, ?_⟩
  rw [e2]
  refine ⟨_, _, rfl, rfl, by rw [List.length_append, dIs_len, dIs_len]; show c1.length + 1 + c2.length ≤ 100000; omega, by show 7 ≤ 100000; decide, ?_⟩
  have ex : dIs c1 ++ [D.int (hF fo at_ + 1)] ++ dIs c2 = dIs (c1 ++ [hF fo at_ + 1] ++ c2) := by rw [dIs_app, dIs_app]; rfl
  have vals : ∀ x ∈ [rowT fo, rowT lo, rowT hi, rowT h, rowT ro, .tup (dIs (lo.map fun y => y + minI GP)), .tup (dIs c1 ++ [D.int (hF fo at_ + 1)] ++ dIs c2)], VOk x := fun x hx => by
    rw [ex] at hx
    simp only [List.mem_cons, List.not_mem_nil, or_false] at hx
    rcases hx with rfl | rfl | rfl | rfl | rfl | rfl | rfl
    · exact vok_ints (by omega)
    · exact vok_ints (by omega)
    · exact vok_ints (by omega)
    · exact vok_ints (by omega)
    · exact vok_ints (by omega)
    · exact vok_ints (by rw [List.length_map]; omega)
    · exact vok_ints (by rw [List.length_append, List.length_append]; simp only [List.length_singleton]; omega)
  have vlen : [rowT fo, rowT lo, rowT hi, rowT h, rowT ro, .tup (dIs (lo.map fun y => y + minI GP)), .tup (dIs c1 ++ [D.int (hF fo at_ + 1)] ++ dIs c2)].length ≤ 100000 := by show 7 ≤ 100000; decide
  have vne : [rowT fo, rowT lo, rowT hi, rowT h, rowT ro, .tup (dIs (lo.map fun y => y + minI GP)), .tup (dIs c1 ++ [D.int (hF fo at_ + 1)] ++ dIs c2)] ≠ [] := List.cons_ne_nil _ _
  generalize [rowT fo, rowT lo, rowT hi, rowT h, rowT ro, .tup (dIs (lo.map fun y => y + minI GP)), .tup (dIs c1 ++ [D.int (hF fo at_ + 1)] ++ dIs c2)] = VS at vals vlen vne ⊢
  -- the odd ones
  obtain ⟨c3, e3, l3⟩ := cutD_ints fo (some 1) none
  have n1 : (1 : Int) ≤ n := by omega
  have n2 : (n : Int) ≤ 1000 := by omega
  refine ⟨_, rfl, dIs fo, .inr rfl, _, rfl, _, rfl, dIs fo, rfl, ?_⟩
  rw [e3]
  refine ⟨_, rfl, by show 1 ≤ 100000; decide, _, _, rfl, rfl, by rw [dl]; show n + 1 ≤ 100000; omega, ?_⟩
  have rp : ∀ x : D, ([x] : List D) ≠ [] := fun x => List.cons_ne_nil _ _
  have sh : ∀ x : D, ([x] : List D).length ≤ 1000 := fun x => by show 1 ≤ 1000; decide
  refine ⟨by show 1 ≤ 100000; decide, _, rfl, _, n, rfl, rfl, rp _, sh _, n1, n2, by show 1 ≤ 100000; decide, _, rfl, _, n, rfl, rfl, rp _, sh _, n1, n2, by show 1 ≤ 100000; decide, _, rfl, _, n, rfl, rfl, rp _, sh _, n1, n2, by show 1 ≤ 100000; decide, _, rfl, _, n, rfl, rfl, rp _, sh _, n1, n2, ?_⟩
  refine ⟨_, _, rfl, rfl, trivial, by show 1 ≤ 100000; decide, _, rfl, _, n, rfl, rfl, rp _, sh _, n1, n2, by show 11 ≤ 100000; decide, ?_⟩
  have odds : ∀ x ∈ [D.non, .lst (dIs fo), .dk [], .int 0, .tup (dIs c3), .tup (dIs fo ++ [.int 0]), .tup (repD n [.non]), .tup (repD n [.str "1"]), .tup (repD n [.bl true]), .tup (repD n [.int 100]), .tup (repD n [.int (0 - 100)])], VOk x := fun x hx => by
    simp only [List.mem_cons, List.not_mem_nil, or_false] at hx
    rcases hx with rfl | rfl | rfl | rfl | rfl | rfl | rfl | rfl | rfl | rfl | rfl
    · exact vok_other (by show "NoneType" ≠ ""; decide) fun xs => fun e => nomatch e
    · exact vok_other (by show "list" ≠ ""; decide) fun xs => fun e => nomatch e
    · exact vok_other (by show "dict" ≠ ""; decide) fun xs => fun e => nomatch e
    · exact vok_other (by show "int" ≠ ""; decide) fun xs => fun e => nomatch e
    · exact vok_ints (by omega)
    · have : dIs fo ++ [D.int 0] = dIs (fo ++ [0]) := by rw [dIs_app]; rfl
      rw [this]
      exact vok_ints (by rw [List.length_append]; show fo.length + 1 ≤ 1000; omega)
    · exact vok_rep few rfl
    · exact vok_rep few (by decide +kernel)
    · exact vok_rep few rfl
    · exact vok_rep few rfl
    · exact vok_rep few rfl
  have olen : [D.non, .lst (dIs fo), .dk [], .int 0, .tup (dIs c3), .tup (dIs fo ++ [.int 0]), .tup (repD n [.non]), .tup (repD n [.str "1"]), .tup (repD n [.bl true]), .tup (repD n [.int 100]), .tup (repD n [.int (0 - 100)])].length ≤ 100000 := by show 11 ≤ 100000; decide
  have one : [D.non, .lst (dIs fo), .dk [], .int 0, .tup (dIs c3), .tup (dIs fo ++ [.int 0]), .tup (repD n [.non]), .tup (repD n [.str "1"]), .tup (repD n [.bl true]), .tup (repD n [.int 100]), .tup (repD n [.int (0 - 100)])] ≠ [] := List.cons_ne_nil _ _
  show dSeq _ _ _ [x0, .im (.raw row), .im (netD n ps), x3, .im (.lst (dIs GP)), x5, .im (rowT ro), .im (.lst VS), .im (.lst [D.non, .lst (dIs fo), .dk [], .int 0, .tup (dIs c3), .tup (dIs fo ++ [.int 0]), .tup (repD n [.non]), .tup (repD n [.str "1"]), .tup (repD n [.bl true]), .tup (repD n [.int 100]), .tup (repD n [.int (0 - 100)])]), x9, x10, .im (.int n), x12, .im (rowT h), .im (.int s), .im (rowT lo), .im (rowT hi), .im (rowT fo), .im (.int at_), x19, x20, x21, x22, x23, x24, x25]
  generalize [D.non, .lst (dIs fo), .dk [], .int 0, .tup (dIs c3), .tup (dIs fo ++ [.int 0]), .tup (repD n [.non]), .tup (repD n [.str "1"]), .tup (repD n [.bl true]), .tup (repD n [.int 100]), .tup (repD n [.int (0 - 100)])] = OS at odds olen one ⊢
  -- the loop
  refine ⟨_, rfl, _, rfl, _, rfl, rfl, row, VS, rfl, w, vne, vlen, fun v1 hv1 => ⟨_, rfl, _, rfl, rfl, row, VS, rfl, w, vne, vlen, fun v2 hv2 => ⟨_, rfl, _, rfl, rfl, row, OS, rfl, w, one, olen, fun v3 hv3 => ⟨by show 4 ≤ 100000; decide, _, rfl, ?_⟩⟩⟩⟩
  refine ⟨fun _ ρ => ∃ a b, ρ = [x0, .im (.raw row), .im (netD n ps), x3, .im (.lst (dIs GP)), x5, .im (rowT ro), .im (.lst VS), .im (.lst OS), a, x10, .im (.int n), x12, .im (rowT h), .im (.int s), .im (rowT lo), .im (rowT hi), .im (rowT fo), .im (.int at_), b, x20, x21, x22, x23, x24, x25], ⟨x9, x19, rfl⟩, fun i d ρ hd ⟨a, b, e⟩ => ?_, fun ρ ⟨a, b, e⟩ => ?_⟩
  · subst e
    have vd : VOk d := by
      have := List.mem_of_getElem? hd
      simp only [List.mem_cons, List.not_mem_nil, or_false] at this
      rcases this with rfl | rfl | rfl | rfl
      · exact vok_ints (by omega)
      · exact vals _ hv1
      · exact vals _ hv2
      · exact odds _ hv3
    exact law_turn (K := K) gd gne lst vd fun g => ⟨_, _, rfl⟩
  · subst e
    exact law_end w GN gd.2.1
end NR
/-! The law's text: it hands back True. -/
namespace NR
open PySem L2
abbrev TL (K : PySem.W.Frag) (W : Wc) : DS := T_law (Fp_law_net K) (FpTaken K) Fp_law_rows Fp_law_bumps (Fp_alike 3) Fp_least_change Fp_law_cut Fp_law_fill Fp_between Fp_worst_point Fp_near_row (Fp_law_pick K) Fp_shows (Fp_law_heights K) Fp_higher Fp_lower Fp_apart W
open Classical in
theorem pr_law (K : PySem.W.Frag) (scr row : Addr) (ns : List Int) (b : Prop) (hne : b → scr ≠ row) (hl : ns.length ≤ 63) :
    TL K (Wrow K scr row ns b) EnL ([Sl.im (.raw scr), .im (.raw row)] ++ List.replicate 24 .no) := by
  have w : WOk K (Wrow K scr row ns b) row := ⟨scr, ns, b, rfl, hne, by omega⟩
  generalize Wrow K scr row ns b = W at w ⊢
  show TL K W EnL [.im (.raw scr), .im (.raw row), .no, .no, .no, .no, .no, .no, .no, .no, .no, .no, .no, .no, .no, .no, .no, .no, .no, .no, .no, .no, .no, .no, .no, .no]
  -- the net
  refine ⟨_, rfl, rfl, row, rfl, w, fun n ps GN => ?_⟩
  have few : n ≤ 4 := GN.few
  have pos : 1 ≤ n := GN.pos
  refine ⟨_, rfl, _, _, _, .inl rfl, rfl, ix0, by show 2 ≤ 100000; decide, _, _, rfl, ?_⟩
  -- heights, size
  refine ⟨_, rfl, n, rfl, by omega, by omega, ?_⟩
  rw [ints_of]
  refine ⟨by rw [dIs_len, pts_len]; omega, fun i acc => ∃ zs : List Int, acc = dIs zs ∧ zs.length = i ∧ ∀ z ∈ zs, 0 ≤ z ∧ z ≤ 4, ⟨[], rfl, rfl, fun _ h => absurd h List.not_mem_nil⟩, fun i d acc hd ⟨zs, e, zl, zb⟩ => ?_, fun acc ⟨h, e, zl, zb⟩ => ?_⟩
  · subst e
    refine ⟨_, rfl, _, rfl, _, _, rfl, rfl, trivial, rfl, taken_ok w (by decide) (by decide) fun r r0 r1 => ⟨zs ++ [r], ?_, by rw [List.length_append, zl]; rfl, fun z hz => ?_⟩⟩
    · rw [dIs_app]; rfl
    · rcases List.mem_append.mp hz with hz | hz
      · exact zb z hz
      · rw [List.mem_singleton.mp hz]; omega
  subst e
  rw [dIs_len, pts_len] at zl
  have low : Low n h := ⟨zl, zb⟩
  have gr : GoodRow n h := ⟨zl, fun x hx => by have := zb x hx; omega⟩
  have hat : ∀ p : Int, 0 ≤ p → p < n → atI (dIs h) p = some (.int (hF h p)) := fun p p0 p1 => ix_h p0 (by omega)
  refine ⟨_, .inl rfl, _, rfl, _, rfl, _, _, rfl, rfl, trivial, rfl, taken_ok w (by omega) (by omega) fun s s0 s1 => ⟨by show 2 ≤ 100000; decide, _, _, rfl, ?_⟩⟩
  have G := GN.nb
  -- the rows without bumps
  refine ⟨_, rfl, _, rfl, rfl, n, rfl, few, fun L gl => ⟨_, rfl, ?_⟩⟩
  refine comp_enc (xs := L) (enc := rowT) (fun r => decide (Bumpless (ptsL n) (nbR (nbOf n ps)) s (hF r))) rowT (by have := gl.1; omega) (fun r hr R rr => ?_) ?_
  · have rl := ((gl.2 r).mp hr).1
    refine ⟨_, rfl, _, rfl, _, rfl, rfl, n, ps, r, s, rfl, GN, rl, fun bs hb => ⟨by show 0 ≤ 100000; decide, _, rfl, rfl, okE_tups bs, _, rfl, ?_⟩⟩
    have bn := bumps_nil G hb
    rw [map_empty]
    by_cases hbl : Bumpless (ptsL n) (nbR (nbOf n ps)) s (hF r)
    · rw [bn.mpr hbl]
      rw [decide_eq_true hbl] at rr
      exact ⟨_, rfl, rr⟩
    · have : bs.isEmpty = false := by
        cases hx : bs.isEmpty with
        | true => exact absurd (bn.mp hx) hbl
        | false => rfl
      rw [this]
      rw [decide_eq_false hbl] at rr
      exact rr
  have lst := least_is (s := s) G low gl
  obtain ⟨r1, r1m, r1b⟩ := some_ne (s := s) G low gl
  have sm : r1 ∈ L.filter fun r => decide (Bumpless (ptsL n) (nbR (nbOf n ps)) s (hF r)) := List.mem_filter.mpr ⟨r1m, decide_eq_true r1b⟩
  have sok : ∀ r ∈ L.filter (fun r => decide (Bumpless (ptsL n) (nbR (nbOf n ps)) s (hF r))), r.length = n := fun r hr => ((gl.2 r).mp (List.mem_filter.mp hr).1).1
  have slen : (L.filter fun r => decide (Bumpless (ptsL n) (nbR (nbOf n ps)) s (hF r))).length ≤ 1000 := Nat.le_trans (List.length_filter_le _ _) (by have := gl.1; omega)
  generalize (L.filter fun r => decide (Bumpless (ptsL n) (nbR (nbOf n ps)) s (hF r))) = SM at lst sm sok slen ⊢
  have hatr : ∀ {r : List Int}, r.length = n → ∀ p : Int, 0 ≤ p → p < n → atI (dIs r) p = some (.int (hF r p)) := fun rl p p0 p1 => ix_h p0 (by omega)
  have gd : Gd n ps h s := ⟨GN, gr, s0, by omega⟩
  -- the gaps
  refine ⟨_, rfl, _, rfl, comp_encM (xs := SM) (enc := rowT) (fun r => .int (farP n r h)) (by omega) (fun r hr R rr => ?_) ?_⟩
  · refine ⟨_, rfl, n, rfl, by omega, by omega, ?_⟩
    rw [ints_of]
    refine far_eval (a := r) (b := h) few (fun p p0 p1 R r' => ⟨_, rfl, _, rfl, _, _, _, .inl rfl, rfl, hatr (sok r hr) p p0 p1, _, rfl, _, rfl, _, _, _, .inl rfl, rfl, hat p p0 p1, _, _, rfl, rfl, trivial, _, rfl, r'⟩) ⟨_, rfl, pts_ne pos, rr⟩
  have eg : SM.map (fun r => D.int (farP n r h)) = dIs (SM.map fun r => farP n r h) := by unfold dIs; rw [List.map_map]; rfl
  rw [eg]
  have gne : (SM.map fun r => farP n r h) ≠ [] := fun e => by
    rw [List.map_eq_nil_iff] at e
    rw [e] at sm
    exact absurd sm List.not_mem_nil
  generalize (SM.map fun r => farP n r h) = GP at lst gne ⊢
  -- least_change
  refine ⟨_, rfl, _, rfl, _, rfl, rfl, n, ps, h, s, rfl, gd, _, rfl, GP, rfl, gne, rfl, .int (least n (nbOf n ps) s h), by rw [lst], nest_int, _, rfl, ?_⟩
  -- low, high
  refine ⟨_, rfl, _, rfl, _, rfl, rfl, n, ps, h, s, rfl, GN, zl, _, rfl, _, rfl, _, rfl, rfl, n, ps, h, s, rfl, GN, zl, by show 2 ≤ 100000; decide, _, _, rfl, ?_⟩
  -- drops
  refine ⟨_, rfl, n, rfl, by omega, by omega, ?_⟩
  rw [ints_of]
  refine comp_encM (xs := ptsL n) (enc := D.int) (fun p => .int (hF h p - hF (cutL n (nbOf n ps) s h) p)) (by rw [pts_len]; omega) (fun p hp R r => ?_) ?_
  · obtain ⟨p0, p1⟩ := mem_pts.mp hp
    exact ⟨_, rfl, _, rfl, _, _, _, .inl rfl, rfl, hat p p0 p1, _, rfl, _, rfl, _, _, _, .inl rfl, rfl, hatr cutL_len p p0 p1, _, _, rfl, rfl, trivial, r⟩
  have ed : (ptsL n).map (fun p => D.int (hF h p - hF (cutL n (nbOf n ps) s h) p)) = dIs (dropL n (nbOf n ps) s h) := by unfold dIs dropL; rw [List.map_map]; rfl
  rw [ed]
  have dne : dropL n (nbOf n ps) s h ≠ [] := pts_ne pos
  obtain ⟨f1, f2⟩ := first_ok (maxI_mem dne)
  -- between_cuts, worst_point
  have nst : Nest 3 (.lst [.tup [rowT (cutL n (nbOf n ps) s h), rowT (fillL n (nbOf n ps) s h)], worstD n (nbOf n ps) s h]) :=
    nest_lst2 (nest_tup2 (nest_row (by rw [cutL_len]; omega)) (nest_row (by unfold fillL; rw [neg_len, cutL_len]; omega))) (nest_tup2 nest_int nest_int)
  refine ⟨_, rfl, _, rfl, _, rfl, rfl, n, ps, h, s, rfl, gd, _, rfl, _, rfl, _, rfl, rfl, n, ps, h, s, rfl, gd, by show 2 ≤ 100000; decide, ?_⟩
  refine ⟨_, rfl, _, rfl, by show 2 ≤ 100000; decide, _, rfl, _, rfl, dne, _, rfl, _, rfl, _, rfl, _, rfl, dne, _, _, rfl, f1, f2, by show 2 ≤ 100000; decide, by show 2 ≤ 100000; decide, ?_⟩
  refine ⟨rfl, _, rfl, nst, _, rfl, ?_⟩
  -- the nearest row
  refine ⟨_, rfl, _, rfl, _, rfl, rfl, n, ps, h, s, rfl, gd, _, rfl, _, rfl, rfl, taken_ok w (by omega) (by omega) fun at_ at0 at1 => ⟨by show 2 ≤ 100000; decide, _, _, rfl, ?_⟩⟩
  obtain ⟨nbl, nfar⟩ := raised (s := s) G low (show (4 : Int) ≤ 99 by decide) fun p p0 p1 => near_at (s := s) (h := h) G p0 p1
  have nlen := near_len (n := n) (nb := nbOf n ps) (s := s) (h := h)
  refine ⟨_, rfl, n, rfl, by omega, by omega, ?_⟩
  rw [ints_of]
  refine far_eval (a := nearL n (nbOf n ps) s h) (b := h) few (fun p p0 p1 R r' => ⟨_, rfl, _, rfl, _, _, _, .inl rfl, rfl, hatr nlen p p0 p1, _, rfl, _, rfl, _, _, _, .inl rfl, rfl, hat p p0 p1, _, _, rfl, rfl, trivial, _, rfl, r'⟩) ?_
  refine ⟨_, rfl, pts_ne pos, _, rfl, GP, rfl, gne, _, _, rfl, rfl, trivial, _, rfl, ?_⟩
  rw [lst, decide_eq_false (show ¬ least n (nbOf n ps) s h < maxI ((ptsL n).map fun p => absI (hF (nearL n (nbOf n ps) s h) p - hF h p)) from Int.not_lt.mpr nfar)]
  refine ⟨_, rfl, _, rfl, _, rfl, rfl, n, ps, _, s, rfl, GN, nlen, fun bs hb => ⟨by show 0 ≤ 100000; decide, _, rfl, rfl, okE_tups bs, _, rfl, ?_⟩⟩
  rw [map_empty, (bumps_nil G hb).mpr nbl]
  -- another row
  refine ⟨_, rfl, _, rfl, rfl, row, SM.map rowT, rfl, w, fun e => by rw [List.map_eq_nil_iff] at e; rw [e] at sm; exact absurd sm List.not_mem_nil, by rw [List.length_map]; omega, fun x hx => ?_⟩
  obtain ⟨ro, hro, rfl⟩ := List.mem_map.mp hx
  exact law_tail w gd gne lst (sok ro hro) at0 at1
end NR
/-! The head: what the top has written, by one run. -/
namespace NRz
open PySem PySem.Spec PyProof.Rows L2
def topZ (i : Nat) : Stmt := PySem.Challenge.pw_shavenets_k34_whole_near_rows.main.body.getD i (.Pass ⟨0, 0, 0, 0⟩)
def dd (x : Str) (i : Nat) : He.DefD := ⟨(x, none), x, x, defArgs (topZ i), defBody (topZ i), defScope (topZ i), [], []⟩
def fn : List He.DefD := [dd "whole" 8, dd "within" 9, dd "need_number" 10, dd "tuple_of" 11, dd "need_net" 12, dd "need_row" 13, dd "need_both" 14, dd "need_size" 15, dd "near_of" 17, dd "rim_of" 18, dd "flats_of" 20, dd "flat_with" 21, dd "is_bump" 22, dd "bumps_of" 23, dd "cut_of" 25, dd "turned" 26, dd "fill_of" 27, dd "worst_of" 29, dd "worst_point" 30, dd "least_change" 31, dd "near_row" 32, dd "shows_near" 33, dd "higher" 34] ++ [dd "lower" 35, dd "apart" 36, dd "between_cuts" 37, dd "_law_taken" 39, dd "_law_net" 40, dd "_law_rows" 41, dd "_law_near" 42, dd "_law_part" 43, dd "_law_parts" 44, dd "_law_flats" 45, dd "_law_rim" 46, dd "_law_bumps" 47, dd "_law_alike" 48, dd "_law_cut" 49, dd "_law_down" 50, dd "_law_fill" 51, dd "_law_pick" 52, dd "_law_heights" 53, dd "law" 54]
def faG : List He.Fa := [.glo "whole", .glo "within", .glo "need_number", .glo "tuple_of", .glo "need_net", .glo "need_row", .glo "need_both", .glo "need_size", .glo "near_of", .glo "rim_of", .glo "flats_of", .glo "flat_with", .glo "is_bump", .glo "bumps_of", .glo "cut_of", .glo "turned", .glo "fill_of", .glo "worst_of", .glo "worst_point", .glo "least_change", .glo "near_row", .glo "shows_near", .glo "higher"] ++ [.glo "lower", .glo "apart", .glo "between_cuts", .glo "_law_taken", .glo "_law_net", .glo "_law_rows", .glo "_law_near", .glo "_law_part", .glo "_law_parts", .glo "_law_flats", .glo "_law_rim", .glo "_law_bumps", .glo "_law_alike", .glo "_law_cut", .glo "_law_down", .glo "_law_fill", .glo "_law_pick", .glo "_law_heights", .glo "law"]
def faB : List He.Fa := [.free "len", .free "range", .free "isinstance", .free "all", .free "sorted", .free "max", .free "min", .free "abs", .free "tuple", .free "list", .free "zip", .free "enumerate", .free "int", .free "bool", .free "str", .free "set", .int "MOST_POINTS" 12, .int "MOST_HEIGHT" 99]
def fa : List He.Fa := faG ++ faB
def names : List Str := (["ShaveError", "BadNet", "BadRow", "BadNumber", "MOST_POINTS", "MOST_HEIGHT", "whole", "within", "need_number", "tuple_of", "need_net", "need_row", "need_both", "need_size", "near_of", "rim_of", "flats_of", "flat_with", "is_bump", "bumps_of", "cut_of", "turned", "fill_of", "worst_of", "worst_point", "least_change", "near_row", "shows_near", "higher", "lower"] : List Str) ++ (["apart", "between_cuts", "_law_taken", "_law_net", "_law_rows", "_law_near", "_law_part", "_law_parts", "_law_flats", "_law_rim", "_law_bumps", "_law_alike", "_law_cut", "_law_down", "_law_fill", "_law_pick", "_law_heights"] : List Str)
abbrev R : PySem.W.OpenRow := PySem.W.OpenLaw.row PySem.Challenge.rw_shavenets_k34_whole_near_rows
abbrev hk : PySem.W.Hook := He.hookD 4 fa fn
def ob (s : PySem.W.SharedT) : He.AlD := He.obsDG 4 fa fn (HandSHeadRun.getT s)
theorem ob_eq (s : PySem.W.SharedT) : ob s = hk.obs s.abs := He.obsDG_eq (HandSHeadRun.getT_eq s)
theorem run (w : World) : HandSHeadRun.RunEq R (PySem.W.view R.prog [54]) hk ob 12000 names w := by
  intro os
  kernel_rfl
end NRz
/-! Each def by its name, level by level; the facts of the head. -/
namespace NR
open PySem PySem.Spec PyProof.Rows L2
section
variable {P : Program} {w : World} {K : PySem.W.Frag} {h base : Heap} {mg : Str → Option Value}
theorem cal_of {x : Str} {i n k : Nat} {ps : List Str} {Fp : FT} (X : K.In h) (G : h.Ns mainGlobals mg) (c : He.SaysD NRz.fa NRz.fn K) (j : Nat) (hd : NRz.fn[j]? = some (NRz.dd x i)) (hg : NRz.fa[j]? = some (.glo x))
    (hb : ∀ (kV doc pm : Value) (an : Option Addr) (cdv ct : Value) (us : List Value), us.length = ps.length → bindArgs (PySem.W.fnOf x x (defArgs (topS i)) (defBody (topS i)) (defScope (topS i)) .none kV doc pm an cdv ct) ⟨us, []⟩ = pure (ps.zip us))
    (ok : ∀ f fd, Fun K x x (topS i) f fd → FnOk P w K mg base CX0 k f fd ps (spD n Fp)) : Cal P w K mg base k x ps n Fp := by
  obtain ⟨fd, D⟩ := c.def_ j hd
  have F : Fun K x x (topS i) (He.fAd K (x, none)) fd := He5.fun_of (st := topS i) D
  exact ⟨_, fd, ok _ fd F, He.glo_ok X G (c.fact j hg), F.kp, F.binds hb⟩
theorem none_ok {f : Addr} {fd : FuncData} {ps : List Str} {n k : Nat} : FnOk P w K mg base CX0 k f fd ps (spD n Fp_none) :=
  ⟨fun vs H Q E h => by obtain ⟨_, _, _, _, _, _, _, _, _, z, _⟩ := h; exact z.elim, fun A outer s H args us vs Q E _ _ _ _ h => by obtain ⟨_, _, _, _, _, _, _, _, _, z, _⟩ := h; exact z.elim⟩
theorem bl_of (X : K.In h) (G : h.Ns mainGlobals mg) (c : He.SaysD NRz.fa NRz.fn K) : Bl mg :=
  ⟨He.free_ok X G (c.fact 42 (f := .free "len") rfl), He.free_ok X G (c.fact 43 (f := .free "range") rfl), He.free_ok X G (c.fact 44 (f := .free "isinstance") rfl), He.free_ok X G (c.fact 45 (f := .free "all") rfl), He.free_ok X G (c.fact 46 (f := .free "sorted") rfl), He.free_ok X G (c.fact 47 (f := .free "max") rfl), He.free_ok X G (c.fact 48 (f := .free "min") rfl), He.free_ok X G (c.fact 49 (f := .free "abs") rfl), He.free_ok X G (c.fact 50 (f := .free "tuple") rfl), He.free_ok X G (c.fact 51 (f := .free "list") rfl), He.free_ok X G (c.fact 52 (f := .free "zip") rfl), He.free_ok X G (c.fact 53 (f := .free "enumerate") rfl), He.free_ok X G (c.fact 54 (f := .free "int") rfl), He.free_ok X G (c.fact 55 (f := .free "bool") rfl), He.free_ok X G (c.fact 56 (f := .free "str") rfl), He.free_ok X G (c.fact 57 (f := .free "set") rfl), He.int_ok X G (c.fact 58 (f := .int "MOST_POINTS" 12) rfl), He.int_ok X G (c.fact 59 (f := .int "MOST_HEIGHT" 99) rfl)⟩
theorem law_fn (X : K.In h) (G : h.Ns mainGlobals mg) (c : He.SaysD NRz.fa NRz.fn K) {f : Addr} {fd : FuncData} (F : Fun K "law" "law" (topS 54) f fd) : FnOk P w K mg base CX0 12 f fd ["_law_script"] (spLaw K) := by
  have B := bl_of X G c
  have c_near_of : Cal P w K mg base 1 "near_of" ["net"] 1 Fp_near := cal_of (i := 17) X G c 8 rfl rfl (fun _ _ _ _ _ _ us hl => match us, hl with | [_], _ => rfl) fun f fd F => ok_near_of F B fun W ds Q _ h => by obtain ⟨x, rfl, t⟩ := pr_near W ds Q h; exact t
  have c__law_near : Cal P w K mg base 1 "_law_near" ["_law_net_here"] 1 Fp_near := cal_of (i := 42) X G c 29 rfl rfl (fun _ _ _ _ _ _ us hl => match us, hl with | [_], _ => rfl) fun f fd F => ok__law_near F B fun W ds Q _ h => by obtain ⟨x, rfl, t⟩ := pr_near W ds Q h; exact t
  have c__law_taken : Cal P w K mg base 1 "_law_taken" ["_law_row", "_law_many"] 2 (FpTaken K) := cal_of (i := 39) X G c 26 rfl rfl (fun _ _ _ _ _ _ us hl => match us, hl with | [_, _], _ => rfl) fun f fd F => ok__law_taken F B
  have c_whole : Cal P w K mg base 1 "whole" ["value"] 1 Fp_whole := cal_of (i := 8) X G c 0 rfl rfl (fun _ _ _ _ _ _ us hl => match us, hl with | [_], _ => rfl) fun f fd F => ok_whole (k := 0) F B  pr_whole
  have c_within : Cal P w K mg base 2 "within" ["value", "low", "high"] 3 Fp_within := cal_of (i := 9) X G c 1 rfl rfl (fun _ _ _ _ _ _ us hl => match us, hl with | [_, _, _], _ => rfl) fun f fd F => ok_within (k := 1) F B (c_whole.mono (by decide)) pr_within
  have c_need_number : Cal P w K mg base 3 "need_number" ["value", "low", "high"] 3 Fp_need_number := cal_of (i := 10) X G c 2 rfl rfl (fun _ _ _ _ _ _ us hl => match us, hl with | [_, _, _], _ => rfl) fun f fd F => ok_need_number (k := 2) F B (c_within.mono (by decide)) pr_need_number
  have c_tuple_of : Cal P w K mg base 1 "tuple_of" ["value", "low", "high"] 3 Fp_tuple_of := cal_of (i := 11) X G c 3 rfl rfl (fun _ _ _ _ _ _ us hl => match us, hl with | [_, _, _], _ => rfl) fun f fd F => ok_tuple_of (k := 0) F B  pr_tuple_of
  have c_need_net : Cal P w K mg base 3 "need_net" ["net"] 1 Fp_need_net := cal_of (i := 12) X G c 4 rfl rfl (fun _ _ _ _ _ _ us hl => match us, hl with | [_], _ => rfl) fun f fd F => ok_need_net (k := 2) F B (c_tuple_of.mono (by decide)) (c_within.mono (by decide)) pr_need_net
  have c_need_row : Cal P w K mg base 3 "need_row" ["net", "row"] 2 Fp_need_row := cal_of (i := 13) X G c 5 rfl rfl (fun _ _ _ _ _ _ us hl => match us, hl with | [_, _], _ => rfl) fun f fd F => ok_need_row (k := 2) F B (c_tuple_of.mono (by decide)) (c_within.mono (by decide)) pr_need_row
  have c_need_both : Cal P w K mg base 4 "need_both" ["net", "row"] 2 Fp_need_row := cal_of (i := 14) X G c 6 rfl rfl (fun _ _ _ _ _ _ us hl => match us, hl with | [_, _], _ => rfl) fun f fd F => ok_need_both (k := 3) F B (c_need_net.mono (by decide)) (c_need_row.mono (by decide)) pr_need_both
  have c_need_size : Cal P w K mg base 4 "need_size" ["net", "size"] 2 Fp_need_size := cal_of (i := 15) X G c 7 rfl rfl (fun _ _ _ _ _ _ us hl => match us, hl with | [_, _], _ => rfl) fun f fd F => ok_need_size (k := 3) F B (c_need_number.mono (by decide)) pr_need_size
  have c_rim_of : Cal P w K mg base 1 "rim_of" ["near", "points"] 2 Fp_rim := cal_of (i := 18) X G c 9 rfl rfl (fun _ _ _ _ _ _ us hl => match us, hl with | [_, _], _ => rfl) fun f fd F => ok_rim_of (k := 0) F B  pr_rim_of
  have c_flat_with : Cal P w K mg base 1 "flat_with" ["near", "row", "point"] 3 Fp_flat_with := cal_of (i := 21) X G c 11 rfl rfl (fun _ _ _ _ _ _ us hl => match us, hl with | [_, _, _], _ => rfl) fun f fd F => ok_flat_with (k := 0) F B  pr_flat_with
  have c_flats_of : Cal P w K mg base 2 "flats_of" ["near", "row"] 2 Fp_flats_of := cal_of (i := 20) X G c 10 rfl rfl (fun _ _ _ _ _ _ us hl => match us, hl with | [_, _], _ => rfl) fun f fd F => ok_flats_of (k := 1) F B (c_flat_with.mono (by decide)) pr_flats_of
  have c_is_bump : Cal P w K mg base 2 "is_bump" ["near", "row", "flat"] 3 Fp_is_bump := cal_of (i := 22) X G c 12 rfl rfl (fun _ _ _ _ _ _ us hl => match us, hl with | [_, _, _], _ => rfl) fun f fd F => ok_is_bump (k := 1) F B (c_rim_of.mono (by decide)) pr_is_bump
  have c_bumps_of : Cal P w K mg base 3 "bumps_of" ["near", "row", "size"] 3 Fp_bumps_of := cal_of (i := 23) X G c 13 rfl rfl (fun _ _ _ _ _ _ us hl => match us, hl with | [_, _, _], _ => rfl) fun f fd F => ok_bumps_of (k := 2) F B (c_flats_of.mono (by decide)) (c_is_bump.mono (by decide)) pr_bumps_of
  have c_cut_of : Cal P w K mg base 4 "cut_of" ["near", "row", "size"] 3 Fp_cut_of := cal_of (i := 25) X G c 14 rfl rfl (fun _ _ _ _ _ _ us hl => match us, hl with | [_, _, _], _ => rfl) fun f fd F => ok_cut_of (k := 3) F B (c_bumps_of.mono (by decide)) (c_rim_of.mono (by decide)) pr_cut_of
  have c_turned : Cal P w K mg base 1 "turned" ["row"] 1 Fp_turned := cal_of (i := 26) X G c 15 rfl rfl (fun _ _ _ _ _ _ us hl => match us, hl with | [_], _ => rfl) fun f fd F => ok_turned (k := 0) F B  pr_turned
  have c_fill_of : Cal P w K mg base 5 "fill_of" ["near", "row", "size"] 3 Fp_fill_of := cal_of (i := 27) X G c 16 rfl rfl (fun _ _ _ _ _ _ us hl => match us, hl with | [_, _, _], _ => rfl) fun f fd F => ok_fill_of (k := 4) F B (c_turned.mono (by decide)) (c_cut_of.mono (by decide)) pr_fill_of
  have c_worst_of : Cal P w K mg base 5 "worst_of" ["near", "row", "size"] 3 Fp_worst_of := cal_of (i := 29) X G c 17 rfl rfl (fun _ _ _ _ _ _ us hl => match us, hl with | [_, _, _], _ => rfl) fun f fd F => ok_worst_of (k := 4) F B (c_cut_of.mono (by decide)) pr_worst_of
  have c_worst_point : Cal P w K mg base 6 "worst_point" ["net", "row", "size"] 3 Fp_worst_point := cal_of (i := 30) X G c 18 rfl rfl (fun _ _ _ _ _ _ us hl => match us, hl with | [_, _, _], _ => rfl) fun f fd F => ok_worst_point (k := 5) F B (c_need_both.mono (by decide)) (c_need_size.mono (by decide)) (c_worst_of.mono (by decide)) (c_near_of.mono (by decide)) pr_worst_point
  have c_least_change : Cal P w K mg base 6 "least_change" ["net", "row", "size"] 3 Fp_least_change := cal_of (i := 31) X G c 19 rfl rfl (fun _ _ _ _ _ _ us hl => match us, hl with | [_, _, _], _ => rfl) fun f fd F => ok_least_change (k := 5) F B (c_need_both.mono (by decide)) (c_need_size.mono (by decide)) (c_worst_of.mono (by decide)) (c_near_of.mono (by decide)) pr_least_change
  have c_near_row : Cal P w K mg base 6 "near_row" ["net", "row", "size"] 3 Fp_near_row := cal_of (i := 32) X G c 20 rfl rfl (fun _ _ _ _ _ _ us hl => match us, hl with | [_, _, _], _ => rfl) fun f fd F => ok_near_row (k := 5) F B (c_need_both.mono (by decide)) (c_need_size.mono (by decide)) (c_near_of.mono (by decide)) (c_worst_of.mono (by decide)) (c_cut_of.mono (by decide)) pr_near_row
  have c_shows_near : Cal P w K mg base 6 "shows_near" ["net", "row", "size", "value"] 4 Fp_shows := cal_of (i := 33) X G c 21 rfl rfl (fun _ _ _ _ _ _ us hl => match us, hl with | [_, _, _, _], _ => rfl) fun f fd F => ok_shows_near (k := 5) F B (c_need_both.mono (by decide)) (c_need_size.mono (by decide)) (c_near_of.mono (by decide)) (c_tuple_of.mono (by decide)) (c_within.mono (by decide)) (c_worst_of.mono (by decide)) (c_bumps_of.mono (by decide)) pr_shows
  have c_higher : Cal P w K mg base 5 "higher" ["net", "one", "other"] 3 Fp_higher := cal_of (i := 34) X G c 22 rfl rfl (fun _ _ _ _ _ _ us hl => match us, hl with | [_, _, _], _ => rfl) fun f fd F => ok_higher (k := 4) F B (c_need_both.mono (by decide)) (c_need_row.mono (by decide)) pr_higher
  have c_lower : Cal P w K mg base 5 "lower" ["net", "one", "other"] 3 Fp_lower := cal_of (i := 35) X G c 23 rfl rfl (fun _ _ _ _ _ _ us hl => match us, hl with | [_, _, _], _ => rfl) fun f fd F => ok_lower (k := 4) F B (c_need_both.mono (by decide)) (c_need_row.mono (by decide)) pr_lower
  have c_apart : Cal P w K mg base 5 "apart" ["net", "one", "other"] 3 Fp_apart := cal_of (i := 36) X G c 24 rfl rfl (fun _ _ _ _ _ _ us hl => match us, hl with | [_, _, _], _ => rfl) fun f fd F => ok_apart (k := 4) F B (c_need_both.mono (by decide)) (c_need_row.mono (by decide)) pr_apart
  have c_between_cuts : Cal P w K mg base 6 "between_cuts" ["net", "row", "size"] 3 Fp_between := cal_of (i := 37) X G c 25 rfl rfl (fun _ _ _ _ _ _ us hl => match us, hl with | [_, _, _], _ => rfl) fun f fd F => ok_between_cuts (k := 5) F B (c_need_both.mono (by decide)) (c_need_size.mono (by decide)) (c_near_of.mono (by decide)) (c_cut_of.mono (by decide)) (c_fill_of.mono (by decide)) pr_between
  have c__law_net : Cal P w K mg base 2 "_law_net" ["_law_row", "_law_most"] 2 (Fp_law_net K) := cal_of (i := 40) X G c 27 rfl rfl (fun _ _ _ _ _ _ us hl => match us, hl with | [_, _], _ => rfl) fun f fd F => ok__law_net (k := 1) F B (c__law_taken.mono (by decide)) pr_law_net
  have c__law_rows : Cal P w K mg base 1 "_law_rows" ["_law_many", "_law_most"] 2 Fp_law_rows := cal_of (i := 41) X G c 28 rfl rfl (fun _ _ _ _ _ _ us hl => match us, hl with | [_, _], _ => rfl) fun f fd F => ok__law_rows (k := 0) F B  pr_law_rows
  have c__law_part : Cal P w K mg base 1 "_law_part" ["_law_near_here", "_law_kept", "_law_start"] 3 Fp_law_part := cal_of (i := 43) X G c 30 rfl rfl (fun _ _ _ _ _ _ us hl => match us, hl with | [_, _, _], _ => rfl) fun f fd F => ok__law_part (k := 0) F B  pr_law_part
  have c__law_parts : Cal P w K mg base 2 "_law_parts" ["_law_near_here", "_law_kept"] 2 Fp_law_parts := cal_of (i := 44) X G c 31 rfl rfl (fun _ _ _ _ _ _ us hl => match us, hl with | [_, _], _ => rfl) fun f fd F => ok__law_parts (k := 1) F B (c__law_part.mono (by decide)) pr_law_parts
  have c__law_flats : Cal P w K mg base 3 "_law_flats" ["_law_net_here", "_law_heights_here"] 2 Fp_law_flats := cal_of (i := 45) X G c 32 rfl rfl (fun _ _ _ _ _ _ us hl => match us, hl with | [_, _], _ => rfl) fun f fd F => ok__law_flats (k := 2) F B (c__law_near.mono (by decide)) (c__law_parts.mono (by decide)) pr_law_flats
  have c__law_rim : Cal P w K mg base 1 "_law_rim" ["_law_near_here", "_law_points"] 2 Fp_rim := cal_of (i := 46) X G c 33 rfl rfl (fun _ _ _ _ _ _ us hl => match us, hl with | [_, _], _ => rfl) fun f fd F => ok__law_rim (k := 0) F B  pr_law_rim
  have c__law_bumps : Cal P w K mg base 4 "_law_bumps" ["_law_net_here", "_law_heights_here", "_law_size"] 3 Fp_law_bumps := cal_of (i := 47) X G c 34 rfl rfl (fun _ _ _ _ _ _ us hl => match us, hl with | [_, _, _], _ => rfl) fun f fd F => ok__law_bumps (k := 3) F B (c__law_near.mono (by decide)) (c__law_flats.mono (by decide)) (c__law_rim.mono (by decide)) pr_law_bumps
  have c__law_cut : Cal P w K mg base 2 "_law_cut" ["_law_net_here", "_law_heights_here", "_law_size"] 3 Fp_law_cut := cal_of (i := 49) X G c 36 rfl rfl (fun _ _ _ _ _ _ us hl => match us, hl with | [_, _, _], _ => rfl) fun f fd F => ok__law_cut (k := 1) F B (c__law_near.mono (by decide)) (c__law_part.mono (by decide)) pr_law_cut
  have c__law_down : Cal P w K mg base 1 "_law_down" ["_law_heights_here"] 1 Fp_turned := cal_of (i := 50) X G c 37 rfl rfl (fun _ _ _ _ _ _ us hl => match us, hl with | [_], _ => rfl) fun f fd F => ok__law_down (k := 0) F B  pr_law_down
  have c__law_fill : Cal P w K mg base 3 "_law_fill" ["_law_net_here", "_law_heights_here", "_law_size"] 3 Fp_law_fill := cal_of (i := 51) X G c 38 rfl rfl (fun _ _ _ _ _ _ us hl => match us, hl with | [_, _, _], _ => rfl) fun f fd F => ok__law_fill (k := 2) F B (c__law_down.mono (by decide)) (c__law_cut.mono (by decide)) pr_law_fill
  have c__law_pick : Cal P w K mg base 2 "_law_pick" ["_law_row", "_law_things"] 2 (Fp_law_pick K) := cal_of (i := 52) X G c 39 rfl rfl (fun _ _ _ _ _ _ us hl => match us, hl with | [_, _], _ => rfl) fun f fd F => ok__law_pick (k := 1) F B (c__law_taken.mono (by decide)) pr_law_pick
  have c__law_heights : Cal P w K mg base 3 "_law_heights" ["_law_row", "_law_many", "_law_top"] 3 (Fp_law_heights K) := cal_of (i := 53) X G c 40 rfl rfl (fun _ _ _ _ _ _ us hl => match us, hl with | [_, _, _], _ => rfl) fun f fd F => ok__law_heights (k := 2) F B (c__law_pick.mono (by decide)) (c__law_taken.mono (by decide)) pr_law_heights
  have a0 : Cal P w K mg base 0 "_law_alike" ["_law_found", "_law_due"] 2 Fp_none := cal_of (i := 48) X G c 35 rfl rfl (fun _ _ _ _ _ _ us hl => match us, hl with | [_, _], _ => rfl) fun f fd F => none_ok
  have a1 : Cal P w K mg base 1 "_law_alike" ["_law_found", "_law_due"] 2 (Fp_alike 0) := cal_of (i := 48) X G c 35 rfl rfl (fun _ _ _ _ _ _ us hl => match us, hl with | [_, _], _ => rfl) fun f fd F => ok__law_alike (k := 0) F B (a0.mono (by decide)) pr_alike0
  have a2 : Cal P w K mg base 2 "_law_alike" ["_law_found", "_law_due"] 2 (Fp_alike 1) := cal_of (i := 48) X G c 35 rfl rfl (fun _ _ _ _ _ _ us hl => match us, hl with | [_, _], _ => rfl) fun f fd F => ok__law_alike (k := 1) F B (a1.mono (by decide)) (pr_alikeS 0)
  have a3 : Cal P w K mg base 3 "_law_alike" ["_law_found", "_law_due"] 2 (Fp_alike 2) := cal_of (i := 48) X G c 35 rfl rfl (fun _ _ _ _ _ _ us hl => match us, hl with | [_, _], _ => rfl) fun f fd F => ok__law_alike (k := 2) F B (a2.mono (by decide)) (pr_alikeS 1)
  have a4 : Cal P w K mg base 4 "_law_alike" ["_law_found", "_law_due"] 2 (Fp_alike 3) := cal_of (i := 48) X G c 35 rfl rfl (fun _ _ _ _ _ _ us hl => match us, hl with | [_, _], _ => rfl) fun f fd F => ok__law_alike (k := 3) F B (a3.mono (by decide)) (pr_alikeS 2)
  have c__law_alike := a4
  exact ok_law (k := 11) F B (c__law_net.mono (by decide)) (c__law_taken.mono (by decide)) (c__law_rows.mono (by decide)) (c__law_bumps.mono (by decide)) (c__law_alike.mono (by decide)) (c_least_change.mono (by decide)) (c__law_cut.mono (by decide)) (c__law_fill.mono (by decide)) (c_between_cuts.mono (by decide)) (c_worst_point.mono (by decide)) (c_near_row.mono (by decide)) (c__law_pick.mono (by decide)) (c_shows_near.mono (by decide)) (c__law_heights.mono (by decide)) (c_higher.mono (by decide)) (c_lower.mono (by decide)) (c_apart.mono (by decide)) fun scr row ns b h1 h2 => pr_law K scr row ns b h1 h2
end
theorem facts {P : Program} {w : World} {K : PySem.W.Frag} {h : Heap} {mg : Str → Option Value} {f : Addr} (X : K.In h) (G : h.Ns mainGlobals mg) (hfa : mg ("law" : Str) = some (.ref f)) (c : He.SaysD NRz.fa NRz.fn K) :
    ∃ fd : FuncData, (∀ (s : Shared) (v : Value), BindsTo s fd ⟨[v], []⟩ [("_law_script", v)]) ∧ ∀ base : Heap, K.In base → base.Ns mainGlobals mg → FnOk P w K mg base CX0 12 f fd ["_law_script"] (spLaw K) := by
  obtain ⟨fd, D⟩ := c.def_ 41 (d := NRz.dd "law" 54) rfl
  have e := hfa.symm.trans (He.glo_ok X G (c.fact 41 (f := .glo "law") rfl))
  cases e
  have F : Fun K "law" "law" (topS 54) (He.fAd K ("law", none)) fd := He5.fun_of (st := topS 54) D
  have b := FunD.bindsA (ps := ["_law_script"]) D fun _ _ _ _ _ _ us hl => match us, hl with | [_], _ => rfl
  exact ⟨fd, fun s v => b s [v] rfl, fun base _ _ => law_fn X G c F⟩
end NR
open PySem PySem.W PySem.Calls PyProof.Rows
theorem PySem.Challenge.cw_shavenets_k34_whole_near_rows_holds : PySem.Challenge.rw_shavenets_k34_whole_near_rows.Holds := by
  w_on; o_law
  refine HandSHeadRun.head_any (r := NRz.R) (q := view NRz.R.prog [54]) (H := NRz.hk) (ob := NRz.ob) (M := 12000) (loose := NRz.names) (d := HandSHeadRun.topDef NRz.R.prog 54) (kwd := []) NRz.ob_eq
    (by kernel_rfl) (fun s => by kernel_rfl) NRz.run (by kernel_rfl) (by kernel_rfl) (by kernel_rfl) (by rfl) (by first | assumption | decide +kernel) (by decide +kernel) ⟨rfl, rfl, rfl, rfl, rfl, by decide +kernel⟩ ?hw ?hc
  case hw => w_witness2
  case hc =>
    refine L2.walk_ofE (l := PySem.Challenge.rw_shavenets_k34_whole_near_rows) (n := 63) (k := 12) (x := "_law_script") (CX := L2.CX0) rfl (by decide) (by kernel_rfl) ⟨rfl, by decide, by decide⟩ ?F (fun _ _ _ _ z => z)
    intro w mg fa h Y G hmg0
    obtain ⟨K, KX, c⟩ := Y
    have hmg : mg ("law" : PySem.Str) = some (.ref fa) := by
      have e : (HandSHeadRun.topDef NRz.R.prog 54).name = ("law" : PySem.Str) := by kernel_rfl
      rw [← e]
      exact hmg0
    obtain ⟨fd, hb, hF⟩ := NR.facts (P := (PySem.Challenge.rw_shavenets_k34_whole_near_rows).prog) (w := w) KX G hmg c
    exact ⟨K, fd, NR.spLaw K, KX, hb, fun H a ns hl _ hS => ⟨a, ns, rfl, hS, hl, fun _ => rfl⟩, hF⟩
