import PyProof.Rows.All
import Wide.All
import OpenK.AllK
import Wide.FinOn
import KE.KStateDown
import Lean
import HandS.Base
import HandS.Call
import HandS.List
import HandS.Comp
import HandS.Ends
import HandS.Dict
import HandS.Iter
import HandS.Text
import HandS.More
import HandS.Exc
import HandS.TryOnly
import HandS.ExcOwn
import HandS.Words
import HandS.WordsList
import HandS.WordsExc
import HandS.IsInst
import HandS.Wide
import HandS.Walk
import HandS.StrMore
import HandS.Style
import HandS.Conv
import HandS.Flow
import HandS.CallSlots
import HandS.CallLocal
import HandS.Defaults
import HandS.Head0
import HandS.Head1
import HandS.Head2
import HandS.HeadEnd
import HandS.HeadHook1
import HandS.HeadHook2
import HandS.SetFor
import KE.DataMinMax
import KE.KRevSl
import KE.KItemsList
import KE.KDictZip
import HandS.ListItems
import PySem.Challenge.RW_leasttariff_k06_answers_by_hand
set_option Elab.async false
set_option linter.all false
set_option maxRecDepth 100000
set_option maxHeartbeats 0
set_option exponentiation.threshold 10000
/-! # Dt: plain data over the hand layer -/
namespace Dt
open PySem PySem.Spec PyProof.Rows L2
/-- plain data -/
inductive D where
  | non | bl (b : Bool) | int (i : Int) | str (x : Str) | ty (n : String)
  | tup (xs : List D) | lst (xs : List D) | ins (C : Addr) (fs : List (Str × D)) | cls (a : Addr) | dic
mutual
/-- the value v stands for d, in the heap H -/
inductive Rep (K : PySem.W.Frag) (H : Hp) : V → D → Prop
  | non : Rep K H .non .non
  | bl (b : Bool) : Rep K H (.bl b) (.bl b)
  | int (i : Int) : Rep K H (.int i) (.int i)
  | str (x : Str) : Rep K H (.str x) (.str x)
  | ty (n : String) : Rep K H (.ty n) (.ty n)
  | cls (a : Addr) : Rep K H (.ref a) (.cls a)
  | tup {a : Addr} {vs : List V} {ds : List D} : SqT K H a vs → Reps K H vs ds → Rep K H (.ref a) (.tup ds)
  | lst {a : Addr} {vs : List V} {ds : List D} : SqL K H a vs → Reps K H vs ds → Rep K H (.ref a) (.lst ds)
  | ins {a C dx : Addr} {fs : List (Str × V)} {ds : List (Str × D)} : H a = some (.ins C dx fs) → Repf K H fs ds → Rep K H (.ref a) (.ins C ds)
  | dic {a : Addr} : H a = some (.dK []) → Rep K H (.ref a) .dic
inductive Reps (K : PySem.W.Frag) (H : Hp) : List V → List D → Prop
  | nil : Reps K H [] []
  | cons {v : V} {vs : List V} {d : D} {ds : List D} : Rep K H v d → Reps K H vs ds → Reps K H (v :: vs) (d :: ds)
inductive Repf (K : PySem.W.Frag) (H : Hp) : List (Str × V) → List (Str × D) → Prop
  | nil : Repf K H [] []
  | cons {n : Str} {v : V} {vs : List (Str × V)} {d : D} {ds : List (Str × D)} : Rep K H v d → Repf K H vs ds → Repf K H ((n, v) :: vs) ((n, d) :: ds)
end
theorem Same.seqT {K : PySem.W.Frag} {H H' : Hp} {a : Addr} {xs : List V} (e : Same H H') (h : SqT K H a xs) : SqT K H' a xs := by
  rcases h with (h | ⟨o, h⟩) | h
  · exact .inl (.inl (e _ _ h))
  · exact .inl (.inr ⟨o, e _ _ h⟩)
  · exact .inr h
theorem Same.rd {H H' : Hp} {a : Addr} {u : HO} (e : Same H H') (h : Rd H a u) : Rd H' a u := by
  rcases h with h | ⟨o, h⟩
  · exact .inl (e _ _ h)
  · exact .inr ⟨o, e _ _ h⟩
theorem Same.new {H : Hp} {p : Addr} {o : HO} (h : H p = none) : Same H (upd H p o) := fun b x e => by
  rw [upd_ne (ne_of_none e h)]
  exact e
section
variable {K : PySem.W.Frag} {H H' : Hp}
mutual
theorem Rep.mono (s : Same H H') : ∀ {v : V} {d : D}, Rep K H v d → Rep K H' v d
  | _, _, .non => .non
  | _, _, .bl b => .bl b
  | _, _, .int i => .int i
  | _, _, .str x => .str x
  | _, _, .ty n => .ty n
  | _, _, .cls a => .cls a
  | _, _, .tup h r => .tup (Same.seqT s h) (Reps.mono s r)
  | _, _, .lst h r => .lst (Same.seq s h) (Reps.mono s r)
  | _, _, .ins h r => .ins (s _ _ h) (Repf.mono s r)
  | _, _, .dic h => .dic (s _ _ h)
theorem Reps.mono (s : Same H H') : ∀ {vs : List V} {ds : List D}, Reps K H vs ds → Reps K H' vs ds
  | _, _, .nil => .nil
  | _, _, .cons r t => .cons (Rep.mono s r) (Reps.mono s t)
theorem Repf.mono (s : Same H H') : ∀ {vs : List (Str × V)} {ds : List (Str × D)}, Repf K H vs ds → Repf K H' vs ds
  | _, _, .nil => .nil
  | _, _, .cons r t => .cons (Rep.mono s r) (Repf.mono s t)
end
theorem Reps.length : ∀ {vs : List V} {ds : List D}, Reps K H vs ds → vs.length = ds.length
  | _, _, .nil => rfl
  | _, _, .cons _ t => by rw [List.length_cons, List.length_cons, Reps.length t]
theorem Reps.get : ∀ {vs : List V} {ds : List D}, Reps K H vs ds → ∀ {i : Nat} {d : D}, ds[i]? = some d → ∃ v, vs[i]? = some v ∧ Rep K H v d
  | _, _, .nil, i, d, h => by simp at h
  | _, _, .cons r t, 0, d, h => by simp at h; subst h; exact ⟨_, rfl, r⟩
  | _, _, .cons r t, i + 1, d, h => by
    obtain ⟨v, e, q⟩ := Reps.get t (i := i) (by simpa using h)
    exact ⟨v, by simpa using e, q⟩
theorem Reps.get' : ∀ {vs : List V} {ds : List D}, Reps K H vs ds → ∀ {i : Nat} {v : V}, vs[i]? = some v → ∃ d, ds[i]? = some d ∧ Rep K H v d
  | _, _, .nil, i, d, h => by simp at h
  | _, _, .cons r t, 0, d, h => by simp at h; subst h; exact ⟨_, rfl, r⟩
  | _, _, .cons r t, i + 1, d, h => by
    obtain ⟨v, e, q⟩ := Reps.get' t (i := i) (by simpa using h)
    exact ⟨v, by simpa using e, q⟩
theorem Reps.append : ∀ {vs ws : List V} {ds es : List D}, Reps K H vs ds → Reps K H ws es → Reps K H (vs ++ ws) (ds ++ es)
  | _, _, _, _, .nil, s => s
  | _, _, _, _, .cons r t, s => .cons r (Reps.append t s)
theorem Reps.take : ∀ {vs : List V} {ds : List D} (n : Nat), Reps K H vs ds → Reps K H (vs.take n) (ds.take n)
  | _, _, 0, _ => .nil
  | _, _, _ + 1, .nil => .nil
  | _, _, n + 1, .cons r t => .cons r (Reps.take n t)
theorem Reps.drop : ∀ {vs : List V} {ds : List D} (n : Nat), Reps K H vs ds → Reps K H (vs.drop n) (ds.drop n)
  | _, _, 0, r => r
  | _, _, _ + 1, .nil => .nil
  | _, _, n + 1, .cons _ t => Reps.drop n t
theorem Reps.reverse {vs : List V} {ds : List D} (h : Reps K H vs ds) : Reps K H vs.reverse ds.reverse := by
  induction vs generalizing ds with
  | nil => cases h; exact .nil
  | cons v vs ih =>
    cases h with
    | cons r t =>
      rw [List.reverse_cons, List.reverse_cons]
      exact Reps.append (ih t) (.cons r .nil)
theorem Reps.set : ∀ {vs : List V} {ds : List D} {v : V} {d : D} (n : Nat), Rep K H v d → Reps K H vs ds → Reps K H (vs.set n v) (ds.set n d)
  | _, _, _, _, _, _, .nil => .nil
  | _, _, _, _, 0, q, .cons _ t => .cons q t
  | _, _, _, _, n + 1, q, .cons r t => .cons r (Reps.set n q t)
theorem Repf.lookup {f : Str} : ∀ {vs : List (Str × V)} {ds : List (Str × D)} {d : D}, Repf K H vs ds → ds.lookup f = some d → ∃ v, vs.lookup f = some v ∧ Rep K H v d
  | _, _, _, .nil, h => by simp at h
  | _, _, d, @Repf.cons _ _ n v vs d' ds r t, h => by
    by_cases e : (f == n) = true
    · simp only [List.lookup, e] at h ⊢
      cases h
      exact ⟨_, rfl, r⟩
    · have e' : (f == n) = false := by simpa using e
      simp only [List.lookup, e'] at h ⊢
      exact Repf.lookup t h
theorem Repf.none_of {f : Str} : ∀ {vs : List (Str × V)} {ds : List (Str × D)}, Repf K H vs ds → ds.lookup f = none → vs.lookup f = none
  | _, _, .nil, h => rfl
  | _, _, @Repf.cons _ _ n v vs d' ds r t, h => by
    by_cases e : (f == n) = true
    · simp only [List.lookup, e] at h
      cases h
    · have e' : (f == n) = false := by simpa using e
      simp only [List.lookup, e'] at h ⊢
      exact Repf.none_of t h
theorem Reps.ints : ∀ {vs : List V} {ns : List Int}, Reps K H vs (ns.map D.int) → vs = ns.map V.int
  | _, [], .nil => rfl
  | _, n :: ns, .cons r t => by
    cases r
    rw [Reps.ints t]
    rfl
theorem Reps.bls : ∀ {vs : List V} {ns : List Bool}, Reps K H vs (ns.map D.bl) → vs = ns.map V.bl
  | _, [], .nil => rfl
  | _, n :: ns, .cons r t => by
    cases r
    rw [Reps.bls t]
    rfl
theorem Reps.strs : ∀ {vs : List V} {ns : List Str}, Reps K H vs (ns.map D.str) → vs = ns.map V.str
  | _, [], .nil => rfl
  | _, n :: ns, .cons r t => by
    cases r
    rw [Reps.strs t]
    rfl
theorem Reps.of_ints : ∀ {ns : List Int}, Reps K H (ns.map V.int) (ns.map D.int)
  | [] => .nil
  | _ :: _ => .cons (.int _) Reps.of_ints
theorem Reps.of_strs : ∀ {ns : List Str}, Reps K H (ns.map V.str) (ns.map D.str)
  | [] => .nil
  | _ :: _ => .cons (.str _) Reps.of_strs
end
/-! ### results -/
inductive Res (α : Type) where
  | no | ex (C : Addr) | ok (a : α)
def Res.bind {α β : Type} : Res α → (α → Res β) → Res β
  | .no, _ => .no
  | .ex C, _ => .ex C
  | .ok a, g => g a
def ofO {α : Type} : Option α → Res α
  | none => .no
  | some a => .ok a
@[simp] theorem Res.bind_ok {α β : Type} (a : α) (g : α → Res β) : (Res.ok a).bind g = g a := rfl
@[simp] theorem Res.bind_no {α β : Type} (g : α → Res β) : (Res.no : Res α).bind g = .no := rfl
@[simp] theorem Res.bind_ex {α β : Type} (C : Addr) (g : α → Res β) : (Res.ex C : Res α).bind g = .ex C := rfl
@[simp] theorem ofO_some {α : Type} (a : α) : ofO (some a) = .ok a := rfl
@[simp] theorem ofO_none {α : Type} : ofO (none : Option α) = .no := rfl
/-! ### slots -/
inductive Sl where
  | no | sh (d : D) | ow (ds : List D) | oi (C : Addr) (fs : List (Str × List D))
abbrev Env := List Sl
/-- the known part H0 of the heap H grows -/
structure Grow (H0 H H0' H' : Hp) : Prop where
  s0 : Same H0 H0'
  s : Same H H'
  sub : Same H0' H'
  fr : ∀ p, H p ≠ none → H0 p = none → H0' p = none
theorem Grow.refl {H0 H : Hp} (h : Same H0 H) : Grow H0 H H0 H := ⟨Same.refl _, Same.refl _, h, fun _ _ e => e⟩
theorem Grow.trans {A0 A B0 B C0 C : Hp} (g : Grow A0 A B0 B) (k : Grow B0 B C0 C) : Grow A0 A C0 C :=
  ⟨g.s0.trans k.s0, g.s.trans k.s, k.sub, fun p h e => k.fr p (fun z => h (Same.free g.s z)) (g.fr p h e)⟩
theorem Grow.new {H0 H : Hp} {p : Addr} {o : HO} (h : Same H0 H) (hp : H p = none) : Grow H0 H (upd H0 p o) (upd H p o) := by
  refine ⟨Same.new (h.free hp), Same.new hp, fun b x e => ?_, fun q hq e => ?_⟩
  · by_cases hb : b = p
    · subst hb
      rw [upd_same] at e ⊢
      exact e
    · rw [upd_ne hb] at e ⊢
      exact h b x e
  · have hb : q ≠ p := fun z => hq (by rw [z]; exact hp)
    rw [upd_ne hb]
    exact e
theorem Grow.keep {H0 H H' : Hp} (h : Same H0 H) (k : Same H H') : Grow H0 H H0 H' := ⟨Same.refl _, k, h.trans k, fun _ _ e => e⟩
/-- the fields of an instance of one's own: lists of one's own -/
inductive RepL (K : PySem.W.Frag) (H0 H : Hp) : List (Str × V) → List (Str × List D) → Prop
  | nil : RepL K H0 H [] []
  | cons {n : Str} {q : Addr} {ws : List V} {ds : List D} {vs : List (Str × V)} {fs : List (Str × List D)} : H q = some (.lst ws) → H0 q = none → Reps K H0 ws ds → (∀ m, (m, V.ref q) ∉ vs) → RepL K H0 H vs fs → RepL K H0 H ((n, .ref q) :: vs) ((n, ds) :: fs)
section
variable {K : PySem.W.Frag} {H0 H H0' H' : Hp} {vs : List (Str × V)} {fs : List (Str × List D)}
theorem RepL.mem (r : RepL K H0 H vs fs) : ∀ {n : Str} {q : Addr}, (n, V.ref q) ∈ vs → (∃ ws, H q = some (.lst ws)) ∧ H0 q = none := by
  induction r with
  | nil => intro n q h; cases h
  | cons h1 h2 h3 h4 _ ih =>
    intro n q h
    rcases List.mem_cons.mp h with e | h
    · cases e
      exact ⟨⟨_, h1⟩, h2⟩
    · exact ih h
theorem RepL.grow (r : RepL K H0 H vs fs) (g : Grow H0 H H0' H') : RepL K H0' H' vs fs := by
  induction r with
  | nil => exact .nil
  | cons h1 h2 h3 h4 _ ih => exact .cons (g.s _ _ h1) (g.fr _ (by rw [h1]; exact fun z => nomatch z) h2) (h3.mono g.s0) h4 ih
theorem RepL.heap (r : RepL K H0 H vs fs) (k : ∀ n q, (n, V.ref q) ∈ vs → H' q = H q) : RepL K H0 H' vs fs := by
  induction r with
  | nil => exact .nil
  | cons h1 h2 h3 h4 _ ih => exact .cons ((k _ _ List.mem_cons_self).trans h1) h2 h3 h4 (ih fun n q h => k n q (List.mem_cons_of_mem _ h))
theorem RepL.known (r : RepL K H0 H vs fs) (s : Same H0 H0') (k : ∀ n q, (n, V.ref q) ∈ vs → H0' q = none) : RepL K H0' H vs fs := by
  induction r with
  | nil => exact .nil
  | cons h1 h2 h3 h4 _ ih => exact .cons h1 (k _ _ List.mem_cons_self) (h3.mono s) h4 (ih fun n q h => k n q (List.mem_cons_of_mem _ h))
end
/-- the slots σ and the heap H (its known part H0) stand for env -/
structure ER (K : PySem.W.Frag) (σ : L2.St) (H0 H : Hp) (env : Env) : Prop where
  sub : Same H0 H
  len : env.length = σ.length
  sh : ∀ (i : Nat) (d : D), env[i]? = some (.sh d) → ∃ v, σ[i]? = some (some v) ∧ Rep K H0 v d
  ow : ∀ (i : Nat) (ds : List D), env[i]? = some (.ow ds) → ∃ p vs, σ[i]? = some (some (.ref p)) ∧ H p = some (.lst vs) ∧ H0 p = none ∧ Reps K H0 vs ds
  ap : ∀ (i j : Nat) (ds es : List D) (p : Addr), env[i]? = some (.ow ds) → env[j]? = some (.ow es) → σ[i]? = some (some (.ref p)) → σ[j]? = some (some (.ref p)) → i = j
  oi : ∀ (i : Nat) (C : Addr) (fs : List (Str × List D)), env[i]? = some (.oi C fs) → ∃ x dx vfs, σ[i]? = some (some (.ref x)) ∧ H x = some (.ins C dx vfs) ∧ H0 x = none ∧ RepL K H0 H vfs fs ∧
    ∀ (j : Nat) (ds : List D) (n : Str) (q : Addr), env[j]? = some (.ow ds) → (n, V.ref q) ∈ vfs → σ[j]? ≠ some (some (.ref q))
  o1 : ∀ (i j : Nat) (C C' : Addr) (fs fs' : List (Str × List D)), env[i]? = some (.oi C fs) → env[j]? = some (.oi C' fs') → i = j
section
variable {K : PySem.W.Frag} {σ : L2.St} {H0 H H0' H' : Hp} {env : Env}
theorem ER.grow (r : ER K σ H0 H env) (g : Grow H0 H H0' H') : ER K σ H0' H' env where
  sub := g.sub
  len := r.len
  sh := fun i d e => let ⟨v, h1, h2⟩ := r.sh i d e; ⟨v, h1, h2.mono g.s0⟩
  ow := fun i ds e => by
    obtain ⟨p, vs, h1, h2, h3, h4⟩ := r.ow i ds e
    exact ⟨p, vs, h1, g.s _ _ h2, g.fr p (by rw [h2]; exact fun z => nomatch z) h3, h4.mono g.s0⟩
  ap := r.ap
  oi := fun i C fs e => by
    obtain ⟨x, dx, vfs, h1, h2, h3, h4, h5⟩ := r.oi i C fs e
    exact ⟨x, dx, vfs, h1, g.s _ _ h2, g.fr x (by rw [h2]; exact fun z => nomatch z) h3, h4.grow g, h5⟩
  o1 := r.o1
theorem set_some {α : Type} {l : List α} {i j : Nat} {x y : α} (h : (l.set i x)[j]? = some y) : (i = j ∧ y = x) ∨ (i ≠ j ∧ l[j]? = some y) := by
  by_cases e : i = j
  · subst e
    by_cases hl : i < l.length
    · rw [List.getElem?_set_self hl] at h
      exact .inl ⟨rfl, (Option.some.inj h).symm⟩
    · rw [List.getElem?_eq_none (by simpa using hl)] at h
      cases h
  · rw [List.getElem?_set_ne e] at h
    exact .inr ⟨e, h⟩
theorem ER.set {i : Nat} {v : V} {d : D} (r : ER K σ H0 H env) (h : Rep K H0 v d) : ER K (σ.set i (some v)) H0 H (env.set i (.sh d)) where
  sub := r.sub
  len := by rw [List.length_set, List.length_set, r.len]
  sh := fun j d' e => by
    rcases set_some e with ⟨rfl, e2⟩ | ⟨hj, e2⟩
    · cases e2
      refine ⟨v, ?_, h⟩
      have hl : i < env.length := by
        by_cases hl : i < env.length
        · exact hl
        · rw [List.getElem?_eq_none (by simpa using hl)] at e
          cases e
      rw [List.getElem?_set_self (by rw [← r.len]; exact hl)]
    · obtain ⟨w, h1, h2⟩ := r.sh j d' e2
      exact ⟨w, by rw [List.getElem?_set_ne hj]; exact h1, h2⟩
  ow := fun j ds e => by
    rcases set_some e with ⟨rfl, e2⟩ | ⟨hj, e2⟩
    · cases e2
    · obtain ⟨p, vs, h1, h2⟩ := r.ow j ds e2
      exact ⟨p, vs, by rw [List.getElem?_set_ne hj]; exact h1, h2⟩
  ap := fun j k ds es p e1 e2 e3 e4 => by
    rcases set_some e1 with ⟨rfl, z⟩ | ⟨hj, z⟩
    · cases z
    · rcases set_some e2 with ⟨rfl, z2⟩ | ⟨hk, z2⟩
      · cases z2
      · rw [List.getElem?_set_ne hj] at e3
        rw [List.getElem?_set_ne hk] at e4
        exact r.ap j k ds es p z z2 e3 e4
  oi := fun j C fs e => by
    rcases set_some e with ⟨rfl, e2⟩ | ⟨hj, e2⟩
    · cases e2
    · obtain ⟨x, dx, vfs, h1, h2, h3, h4, h5⟩ := r.oi j C fs e2
      refine ⟨x, dx, vfs, by rw [List.getElem?_set_ne hj]; exact h1, h2, h3, h4, fun k ds n q e3 hq => ?_⟩
      rcases set_some e3 with ⟨rfl, z⟩ | ⟨hk, z⟩
      · cases z
      · rw [List.getElem?_set_ne hk]
        exact h5 k ds n q z hq
  o1 := fun j k C C' fs fs' e1 e2 => by
    rcases set_some e1 with ⟨rfl, z⟩ | ⟨hj, z⟩
    · cases z
    · rcases set_some e2 with ⟨rfl, z2⟩ | ⟨hk, z2⟩
      · cases z2
      · exact r.o1 j k C C' fs fs' z z2
/-- a slot forgotten -/
theorem ER.forget {i : Nat} {o : Option V} (r : ER K σ H0 H env) : ER K (σ.set i o) H0 H (env.set i .no) where
  sub := r.sub
  len := by rw [List.length_set, List.length_set, r.len]
  sh := fun j d' e => by
    rcases set_some e with ⟨rfl, e2⟩ | ⟨hj, e2⟩
    · cases e2
    · obtain ⟨w, h1, h2⟩ := r.sh j d' e2
      exact ⟨w, by rw [List.getElem?_set_ne hj]; exact h1, h2⟩
  ow := fun j ds e => by
    rcases set_some e with ⟨rfl, e2⟩ | ⟨hj, e2⟩
    · cases e2
    · obtain ⟨p, vs, h1, h2⟩ := r.ow j ds e2
      exact ⟨p, vs, by rw [List.getElem?_set_ne hj]; exact h1, h2⟩
  ap := fun j k ds es p e1 e2 e3 e4 => by
    rcases set_some e1 with ⟨rfl, z⟩ | ⟨hj, z⟩
    · cases z
    · rcases set_some e2 with ⟨rfl, z2⟩ | ⟨hk, z2⟩
      · cases z2
      · rw [List.getElem?_set_ne hj] at e3
        rw [List.getElem?_set_ne hk] at e4
        exact r.ap j k ds es p z z2 e3 e4
  oi := fun j C fs e => by
    rcases set_some e with ⟨rfl, e2⟩ | ⟨hj, e2⟩
    · cases e2
    · obtain ⟨x, dx, vfs, h1, h2, h3, h4, h5⟩ := r.oi j C fs e2
      refine ⟨x, dx, vfs, by rw [List.getElem?_set_ne hj]; exact h1, h2, h3, h4, fun k ds n q e3 hq => ?_⟩
      rcases set_some e3 with ⟨rfl, z⟩ | ⟨hk, z⟩
      · cases z
      · rw [List.getElem?_set_ne hk]
        exact h5 k ds n q z hq
  o1 := fun j k C C' fs fs' e1 e2 => by
    rcases set_some e1 with ⟨rfl, z⟩ | ⟨hj, z⟩
    · cases z
    · rcases set_some e2 with ⟨rfl, z2⟩ | ⟨hk, z2⟩
      · cases z2
      · exact r.o1 j k C C' fs fs' z z2
def wipeE (env : Env) : List Nat → Env
  | [] => env
  | v :: vs => (wipeE env vs).set v .no
theorem ER.wipe (r : ER K σ H0 H env) : ∀ vs : List Nat, ER K (L2.wipe σ vs) H0 H (wipeE env vs)
  | [] => r
  | _ :: vs => (ER.wipe r vs).forget
/-- a new list of one's own -/
theorem ER.setO {i : Nat} {p : Addr} {vs : List V} {ds : List D} (r : ER K σ H0 H env) (hp : H p = some (.lst vs)) (h0 : H0 p = none) (hr : Reps K H0 vs ds)
    (new : ∀ (j : Nat) (es : List D), env[j]? = some (.ow es) → σ[j]? ≠ some (some (.ref p)))
    (newo : ∀ (j : Nat) (C : Addr) (fs : List (Str × List D)) (x C' dx : Addr) (vfs : List (Str × V)) (n : Str), env[j]? = some (.oi C fs) → σ[j]? = some (some (.ref x)) → H x = some (.ins C' dx vfs) → (n, V.ref p) ∉ vfs) : ER K (σ.set i (some (.ref p))) H0 H (env.set i (.ow ds)) where
  sub := r.sub
  len := by rw [List.length_set, List.length_set, r.len]
  sh := fun j d' e => by
    rcases set_some e with ⟨rfl, e2⟩ | ⟨hj, e2⟩
    · cases e2
    · obtain ⟨w, h1, h2⟩ := r.sh j d' e2
      exact ⟨w, by rw [List.getElem?_set_ne hj]; exact h1, h2⟩
  ow := fun j es e => by
    rcases set_some e with ⟨rfl, e2⟩ | ⟨hj, e2⟩
    · cases e2
      have hl : i < env.length := by
        by_cases hl : i < env.length
        · exact hl
        · rw [List.getElem?_eq_none (by simpa using hl)] at e
          cases e
      exact ⟨p, vs, by rw [List.getElem?_set_self (by rw [← r.len]; exact hl)], hp, h0, hr⟩
    · obtain ⟨p, vs, h1, h2⟩ := r.ow j es e2
      exact ⟨p, vs, by rw [List.getElem?_set_ne hj]; exact h1, h2⟩
  ap := fun j k d1 d2 q e1 e2 e3 e4 => by
    rcases set_some e1 with ⟨rfl, z⟩ | ⟨hj, z⟩
    · rcases set_some e2 with ⟨rfl, z2⟩ | ⟨hk, z2⟩
      · rfl
      · rw [List.getElem?_set_ne hk] at e4
        rcases set_some e3 with ⟨_, w⟩ | ⟨hi, _⟩
        · cases w
          exact absurd e4 (new k d2 z2)
        · exact absurd rfl hi
    · rcases set_some e2 with ⟨rfl, z2⟩ | ⟨hk, z2⟩
      · rw [List.getElem?_set_ne hj] at e3
        rcases set_some e4 with ⟨_, w⟩ | ⟨hi, _⟩
        · cases w
          exact absurd e3 (new j d1 z)
        · exact absurd rfl hi
      · rw [List.getElem?_set_ne hj] at e3
        rw [List.getElem?_set_ne hk] at e4
        exact r.ap j k d1 d2 q z z2 e3 e4
  oi := fun j C fs e => by
    rcases set_some e with ⟨rfl, e2⟩ | ⟨hj, e2⟩
    · cases e2
    · obtain ⟨x, dx, vfs, h1, h2, h3, h4, h5⟩ := r.oi j C fs e2
      refine ⟨x, dx, vfs, by rw [List.getElem?_set_ne hj]; exact h1, h2, h3, h4, fun k ds' n q e3 hq e4 => ?_⟩
      rcases set_some e3 with ⟨rfl, z⟩ | ⟨hk, z⟩
      · rcases set_some e4 with ⟨_, w⟩ | ⟨hi, _⟩
        · cases w
          exact newo j C fs x C dx vfs n e2 h1 h2 hq
        · exact hi rfl
      · rw [List.getElem?_set_ne hk] at e4
        exact h5 k ds' n q z hq e4
  o1 := fun j k C C' fs fs' e1 e2 => by
    rcases set_some e1 with ⟨rfl, z⟩ | ⟨hj, z⟩
    · cases z
    · rcases set_some e2 with ⟨rfl, z2⟩ | ⟨hk, z2⟩
      · cases z2
      · exact r.o1 j k C C' fs fs' z z2
/-- an own list is written -/
theorem ER.put {i : Nat} {p : Addr} {vs : List V} {ds es : List D} (r : ER K σ H0 H env) (hi : env[i]? = some (.ow es)) (hσ : σ[i]? = some (some (.ref p))) (hr : Reps K H0 vs ds) :
    ER K σ H0 (upd H p (.lst vs)) (env.set i (.ow ds)) := by
  have h0 : H0 p = none := by
    obtain ⟨q, ws, h1, h2, h3, h4⟩ := r.ow i es hi
    rw [hσ] at h1
    cases h1
    exact h3
  have hp : ∃ ws, H p = some (.lst ws) := by
    obtain ⟨q, ws, h1, h2, h3, h4⟩ := r.ow i es hi
    rw [hσ] at h1
    cases h1
    exact ⟨ws, h2⟩
  refine ⟨fun b o e => ?_, by rw [List.length_set, r.len], fun j d' e => ?_, fun j fs e => ?_, fun j k d1 d2 q e1 e2 e3 e4 => ?_, fun j C fs e => ?_, fun j k C C' fs fs' e1 e2 => ?_⟩
  · rw [upd_ne (ne_of_none e h0)]
    exact r.sub b o e
  · rcases set_some e with ⟨rfl, e2⟩ | ⟨hj, e2⟩
    · cases e2
    · exact r.sh j d' e2
  · rcases set_some e with ⟨rfl, e2⟩ | ⟨hj, e2⟩
    · cases e2
      exact ⟨p, vs, hσ, upd_same, h0, hr⟩
    · obtain ⟨q, ws, h1, h2, h3⟩ := r.ow j fs e2
      have ne : q ≠ p := fun z => by
        subst z
        exact hj (r.ap i j es fs q hi e2 hσ h1)
      exact ⟨q, ws, h1, by rw [upd_ne ne]; exact h2, h3⟩
  · have old : ∀ (j : Nat) (d1 : List D), (env.set i (.ow ds))[j]? = some (.ow d1) → ∃ d, env[j]? = some (.ow d) := fun j d1 e => by
      rcases set_some e with ⟨rfl, e2⟩ | ⟨hj, e2⟩
      · exact ⟨_, hi⟩
      · exact ⟨_, e2⟩
    obtain ⟨f1, z1⟩ := old j d1 e1
    obtain ⟨f2, z2⟩ := old k d2 e2
    exact r.ap j k f1 f2 q z1 z2 e3 e4
  · rcases set_some e with ⟨rfl, e2⟩ | ⟨hj, e2⟩
    · cases e2
    · obtain ⟨x, dx, vfs, h1, h2, h3, h4, h5⟩ := r.oi j C fs e2
      obtain ⟨ws, hp⟩ := hp
      have xp : x ≠ p := fun z => by
        rw [z, hp] at h2
        cases h2
      refine ⟨x, dx, vfs, h1, by rw [upd_ne xp]; exact h2, h3, h4.heap fun n q hq => ?_, fun k ds' n q e3 hq => ?_⟩
      · have qp : q ≠ p := fun z => h5 i es n q hi hq (by rw [z]; exact hσ)
        rw [upd_ne qp]
      · rcases set_some e3 with ⟨rfl, z⟩ | ⟨hk, z⟩
        · exact h5 i es n q hi hq
        · exact h5 k ds' n q z hq
  · rcases set_some e1 with ⟨rfl, z⟩ | ⟨hj, z⟩
    · cases z
    · rcases set_some e2 with ⟨rfl, z2⟩ | ⟨hk, z2⟩
      · cases z2
      · exact r.o1 j k C C' fs fs' z z2
/-- an own list becomes known -/
theorem ER.freeze {i : Nat} {es : List D} (r : ER K σ H0 H env) (hi : env[i]? = some (.ow es)) : ∃ p vs, H p = some (.lst vs) ∧ H0 p = none ∧ σ[i]? = some (some (.ref p)) ∧ Reps K H0 vs es ∧ ER K σ (upd H0 p (.lst vs)) H (env.set i (.sh (.lst es))) := by
  obtain ⟨p, vs, h1, h2, h3, h4⟩ := r.ow i es hi
  have sm : Same H0 (upd H0 p (.lst vs)) := Same.new h3
  refine ⟨p, vs, h2, h3, h1, h4, fun b o e => ?_, by rw [List.length_set, r.len], fun j d' e => ?_, fun j fs e => ?_, fun j k d1 d2 q e1 e2 e3 e4 => ?_, fun j C fs e => ?_, fun j k C C' fs fs' e1 e2 => ?_⟩
  · by_cases hb : b = p
    · subst hb
      rw [upd_same] at e
      cases e
      exact h2
    · rw [upd_ne hb] at e
      exact r.sub b o e
  · rcases set_some e with ⟨rfl, e2⟩ | ⟨hj, e2⟩
    · cases e2
      exact ⟨_, h1, .lst (SqL.of upd_same) (h4.mono sm)⟩
    · obtain ⟨w, h5, h6⟩ := r.sh j d' e2
      exact ⟨w, h5, h6.mono sm⟩
  · rcases set_some e with ⟨rfl, e2⟩ | ⟨hj, e2⟩
    · cases e2
    · obtain ⟨q, ws, g1, g2, g3, g4⟩ := r.ow j fs e2
      have ne : q ≠ p := fun z => by
        subst z
        exact hj (r.ap i j es fs q hi e2 h1 g1)
      exact ⟨q, ws, g1, g2, by rw [upd_ne ne]; exact g3, g4.mono sm⟩
  · rcases set_some e1 with ⟨rfl, z⟩ | ⟨hj, z⟩
    · cases z
    · rcases set_some e2 with ⟨rfl, z2⟩ | ⟨hk, z2⟩
      · cases z2
      · exact r.ap j k d1 d2 q z z2 e3 e4
  · rcases set_some e with ⟨rfl, e2⟩ | ⟨hj, e2⟩
    · cases e2
    · obtain ⟨x, dx, vfs, g1, g2, g3, g4, g5⟩ := r.oi j C fs e2
      have xp : x ≠ p := fun z => by
        rw [z, h2] at g2
        cases g2
      refine ⟨x, dx, vfs, g1, g2, by rw [upd_ne xp]; exact g3, g4.known sm fun n q hq => ?_, fun k ds' n q e3 hq => ?_⟩
      · have qp : q ≠ p := fun z => g5 i es n q hi hq (by rw [z]; exact h1)
        rw [upd_ne qp]
        exact (g4.mem hq).2
      · rcases set_some e3 with ⟨rfl, z⟩ | ⟨hk, z⟩
        · cases z
        · exact g5 k ds' n q z hq
  · rcases set_some e1 with ⟨rfl, z⟩ | ⟨hj, z⟩
    · cases z
    · rcases set_some e2 with ⟨rfl, z2⟩ | ⟨hk, z2⟩
      · cases z2
      · exact r.o1 j k C C' fs fs' z z2
end
/-! ### readings -/
/-- what is wanted of a result -/
def Kt {α β : Type} (R : Hp → β → α → Prop) (W : WX) (σ : L2.St) (H0 H : Hp) (r : Res α) (Q : β → Hp → Prop) : Prop := match r with
  | .no => False
  | .ex C => ∀ H0' H', Grow H0 H H0' H' → W (.ref C) none σ H'
  | .ok a => ∀ x H0' H', Grow H0 H H0' H' → R H0' x a → Q x H'
def tR {α β : Type} (K : PySem.W.Frag) (R : Hp → β → α → Prop) (W : WX) (f : Env → Res α) : L2.St → Hp → (β → Hp → Prop) → Prop := fun σ H Q => ∃ H0 env, ER K σ H0 H env ∧ Kt R W σ H0 H (f env) Q
abbrev rD (K : PySem.W.Frag) : Hp → V → D → Prop := fun H v d => Rep K H v d
abbrev rDs (K : PySem.W.Frag) : Hp → List V → List D → Prop := fun H v d => Reps K H v d
abbrev rV {α : Type} : Hp → α → α → Prop := fun _ a b => a = b
abbrev tD (K : PySem.W.Frag) (W : WX) (f : Env → Res D) : TE := tR K (rD K) W f
abbrev tDs (K : PySem.W.Frag) (W : WX) (f : Env → Res (List D)) : TA := tR K (rDs K) W f
abbrev tDB (K : PySem.W.Frag) (W : WX) (f : Env → Res Bool) : TT := tR K rV W f
abbrev tDO (K : PySem.W.Frag) (W : WX) (f : Env → Res (Option Int)) : TO := tR K rV W f
section
variable {K : PySem.W.Frag} {σ : L2.St} {H0 H H0' H' : Hp} {env : Env} {W : WX} {α β γ δ : Type} {R : Hp → β → α → Prop} {R' : Hp → δ → γ → Prop}
theorem Kt.shift {r : Res α} {Q : β → Hp → Prop} (g : Grow H0 H H0' H') (k : Kt R W σ H0 H r Q) : Kt R W σ H0' H' r Q := by
  cases r with
  | no => exact k
  | ex C => exact fun A B h => k A B (g.trans h)
  | ok a => exact fun x A B h q => k x A B (g.trans h) q
theorem Kt.seq {r : Res α} {g : α → Res γ} {P : β → Hp → Prop} {Q : δ → Hp → Prop} (er : ER K σ H0 H env) (k : Kt R' W σ H0 H (r.bind g) Q)
    (p : ∀ x a H0' H', Grow H0 H H0' H' → ER K σ H0' H' env → R H0' x a → Kt R' W σ H0' H' (g a) Q → P x H') : Kt R W σ H0 H r P := by
  cases r with
  | no => exact k
  | ex C => exact k
  | ok a => exact fun x A B h q => p x a A B h (er.grow h) q (Kt.shift h k)
theorem Kt.ok {a : α} {Q : β → Hp → Prop} {x : β} (k : Kt R W σ H0 H (.ok a) Q) (g : Grow H0 H H0' H') (h : R H0' x a) : Q x H' := k x _ _ g h
end
theorem PE.imp {X : Cx} {e : Expr} {t t' : TE} (h : PE X e t) (i : ∀ σ H Q, t' σ H Q → t σ H Q) : PE X e t' := ⟨fun pins s σ H Q I w => h.run pins s σ H Q I (i σ H Q w)⟩
theorem PT.imp {X : Cx} {e : Expr} {t t' : TT} (h : PT X e t) (i : ∀ σ H Q, t' σ H Q → t σ H Q) : PT X e t' := ⟨fun pins s σ H Q I w => h.run pins s σ H Q I (i σ H Q w)⟩
theorem PA.imp {X : Cx} {e : List Expr} {t t' : TA} (h : PA X e t) (i : ∀ σ H Q, t' σ H Q → t σ H Q) : PA X e t' := ⟨fun pos pins s σ H Q I w => h.run pos pins s σ H Q I (i σ H Q w)⟩
theorem PO.imp {X : Cx} {e : Option Expr} {t t' : TO} (h : PO X e t) (i : ∀ σ H Q, t' σ H Q → t σ H Q) : PO X e t' := ⟨fun pins s σ H Q I w => h.run pins s σ H Q I (i σ H Q w)⟩
theorem PS.imp {X : Cx} {e : Stmt} {t t' : TS} (h : PS X e t) (i : ∀ D σ H, t' D σ H → t D σ H) : PS X e t' := ⟨fun pins s σ H Q I w => h.run pins s σ H Q I (i Q σ H w)⟩
theorem PSs.imp {X : Cx} {e : List Stmt} {t t' : TS} (h : PSs X e t) (i : ∀ D σ H, t' D σ H → t D σ H) : PSs X e t' := ⟨fun pins s σ H Q I w => h.run pins s σ H Q I (i Q σ H w)⟩
end Dt
namespace Dt
open PySem PySem.Spec PyProof.Rows L2
/-! ## expressions -/
def eVar (i : Nat) : Env → Res D := fun env => match env[i]? with
  | some (.sh d) => .ok d
  | _ => .no
def eC (d : D) : Env → Res D := fun _ => .ok d
def eOp (g : D → D → Option D) (fa fb : Env → Res D) : Env → Res D := fun env => (fa env).bind fun a => (fb env).bind fun b => ofO (g a b)
def eUn (g : D → Option D) (fa : Env → Res D) : Env → Res D := fun env => (fa env).bind fun a => ofO (g a)
def toB : D → Res Bool
  | .bl b => .ok b
  | _ => .no
def bV (fa : Env → Res D) : Env → Res Bool := fun env => (fa env).bind toB
def bAnd (fa fb : Env → Res Bool) : Env → Res Bool := fun env => (fa env).bind fun a => if a = true then fb env else .ok false
def bOr (fa fb : Env → Res Bool) : Env → Res Bool := fun env => (fa env).bind fun a => if a = true then .ok true else fb env
def bNot (fa : Env → Res Bool) : Env → Res Bool := fun env => (fa env).bind fun a => .ok (!a)
/-- a truth as a value -/
def eB (fa : Env → Res Bool) : Env → Res D := fun env => (fa env).bind fun a => .ok (.bl a)
def eIf (fc : Env → Res Bool) (fa fb : Env → Res D) : Env → Res D := fun env => (fc env).bind fun c => if c = true then fa env else fb env
def aNil : Env → Res (List D) := fun _ => .ok []
def aCons (fa : Env → Res D) (fr : Env → Res (List D)) : Env → Res (List D) := fun env => (fa env).bind fun a => (fr env).bind fun r => .ok (a :: r)
def eFn (g : List D → Option D) (fa : Env → Res (List D)) : Env → Res D := fun env => (fa env).bind fun a => ofO (g a)
def eCall (g : List D → Res D) (fa : Env → Res (List D)) : Env → Res D := fun env => (fa env).bind fun a => g a
def eTup (fa : Env → Res (List D)) : Env → Res D := fun env => (fa env).bind fun a => .ok (.tup a)
def eLst (fa : Env → Res (List D)) : Env → Res D := fun env => (fa env).bind fun a => .ok (.lst a)
/-- a method of a built-in type -/
def eMt (t : D → Bool) (g : D → List D → Option D) (fo : Env → Res D) (fa : Env → Res (List D)) : Env → Res D := fun env => (fo env).bind fun o => if t o = true then (fa env).bind fun a => ofO (g o a) else .no
def eChain (g g' : D → D → Option D) (fa fb fc : Env → Res D) : Env → Res D := fun env => (fa env).bind fun a => (fb env).bind fun b => (ofO (g a b)).bind fun z => (toB z).bind fun k => if k = true then (fc env).bind fun c => ofO (g' b c) else .ok (.bl false)
def oNone : Env → Res (Option Int) := fun _ => .ok none
def toI : D → Res Int
  | .int i => .ok i
  | _ => .no
def oSome (fa : Env → Res D) : Env → Res (Option Int) := fun env => (fa env).bind fun a => (toI a).bind fun i => .ok (some i)
/-- what a rule on values must do -/
def Good2 (K : PySem.W.Frag) (r : R2) (g : D → D → Option D) : Prop := ∀ H0 H x y a b d (Q : VK), Same H0 H → Rep K H0 x a → Rep K H0 y b → g a b = some d → (∀ v H0' H', Grow H0 H H0' H' → Rep K H0' v d → Q v H') → r x y H Q
def Good1 (K : PySem.W.Frag) (r : V → Hp → VK → Prop) (g : D → Option D) : Prop := ∀ H0 H x a d (Q : VK), Same H0 H → Rep K H0 x a → g a = some d → (∀ v H0' H', Grow H0 H H0' H' → Rep K H0' v d → Q v H') → r x H Q
def GoodN (K : PySem.W.Frag) (r : List V → Hp → VK → Prop) (g : List D → Option D) : Prop := ∀ H0 H xs as d (Q : VK), Same H0 H → Reps K H0 xs as → g as = some d → (∀ v H0' H', Grow H0 H H0' H' → Rep K H0' v d → Q v H') → r xs H Q
def GoodM (K : PySem.W.Frag) (r : V → List V → Hp → VK → Prop) (g : D → List D → Option D) : Prop := ∀ H0 H x xs a as d (Q : VK), Same H0 H → Rep K H0 x a → Reps K H0 xs as → g a as = some d → (∀ v H0' H', Grow H0 H H0' H' → Rep K H0' v d → Q v H') → r x xs H Q
section
variable {K : PySem.W.Frag} {W : WX} {σ : L2.St} {H : Hp} {fa fb fc : Env → Res D} {ta tb tc : Env → Res Bool} {fl fr : Env → Res (List D)}
theorem t_var {i : Nat} {Q : VK} (h : tD K W (eVar i) σ H Q) : tVar i σ H Q := by
  obtain ⟨H0, env, er, k⟩ := h
  unfold eVar at k
  cases e : env[i]? with
  | none => rw [e] at k; exact k.elim
  | some s =>
    rw [e] at k
    cases s with
    | no => exact k.elim
    | ow ds => exact k.elim
    | oi C fs => exact k.elim
    | sh d =>
      obtain ⟨v, h1, h2⟩ := er.sh i d e
      exact ⟨v, h1, k v H0 H (Grow.refl er.sub) h2⟩
theorem t_c {v : V} {d : D} {Q : VK} (r : ∀ H, Rep K H v d) (h : tD K W (eC d) σ H Q) : tC v σ H Q := by
  obtain ⟨H0, env, er, k⟩ := h
  exact k v H0 H (Grow.refl er.sub) (r H0)
theorem kt_ofO {H0 : Hp} {o : Option D} {Q : VK} (s : Same H0 H) (k : Kt (rD K) W σ H0 H (ofO o) Q) : ∃ d, o = some d ∧ ∀ v H0' H', Grow H0 H H0' H' → Rep K H0' v d → Q v H' := by
  cases o with
  | none => exact k.elim
  | some d => exact ⟨d, rfl, k⟩
theorem t_op {r : R2} {g : D → D → Option D} {Q : VK} (hg : Good2 K r g) (h : tD K W (eOp g fa fb) σ H Q) : tOp r (tD K W fa) (tD K W fb) σ H Q := by
  obtain ⟨H0, env, er, k⟩ := h
  refine ⟨H0, env, er, Kt.seq er k fun x a A B gr er' rx k' => ⟨A, env, er', Kt.seq er' k' fun y b A' B' gr' er'' ry k'' => ?_⟩⟩
  obtain ⟨d, e, q⟩ := kt_ofO er''.sub k''
  exact hg A' B' x y a b d Q er''.sub (rx.mono gr'.s0) ry e q
theorem t_un {r : V → Hp → VK → Prop} {g : D → Option D} {Q : VK} (hg : Good1 K r g) (h : tD K W (eUn g fa) σ H Q) : tUn r (tD K W fa) σ H Q := by
  obtain ⟨H0, env, er, k⟩ := h
  refine ⟨H0, env, er, Kt.seq er k fun x a A B gr er' rx k' => ?_⟩
  obtain ⟨d, e, q⟩ := kt_ofO er'.sub k'
  exact hg A B x a d Q er'.sub rx e q
theorem t_nil {Q : List V → Hp → Prop} (h : tDs K W aNil σ H Q) : tNil σ H Q := by
  obtain ⟨H0, env, er, k⟩ := h
  exact k [] H0 H (Grow.refl er.sub) .nil
theorem t_cons {Q : List V → Hp → Prop} (h : tDs K W (aCons fa fl) σ H Q) : tCons (tD K W fa) (tDs K W fl) σ H Q := by
  obtain ⟨H0, env, er, k⟩ := h
  refine ⟨H0, env, er, Kt.seq er k fun x a A B gr er' rx k' => ⟨A, env, er', Kt.seq er' k' fun y b A' B' gr' er'' ry k'' => ?_⟩⟩
  exact k'' _ A' B' (Grow.refl er''.sub) (.cons (rx.mono gr'.s0) ry)
theorem t_fn {r : List V → Hp → VK → Prop} {g : List D → Option D} {Q : VK} (hg : GoodN K r g) (h : tD K W (eFn g fl) σ H Q) : tCB r (tDs K W fl) σ H Q := by
  obtain ⟨H0, env, er, k⟩ := h
  refine ⟨H0, env, er, Kt.seq er k fun x a A B gr er' rx k' => ?_⟩
  obtain ⟨d, e, q⟩ := kt_ofO er'.sub k'
  exact hg A B x a d Q er'.sub rx e q
theorem t_mt {t : D → Bool} {P : V → Hp → Prop} {r : V → List V → Hp → VK → Prop} {g : D → List D → Option D} {Q : VK} (hg : GoodM K r g) (hP : ∀ H0 H x a, Same H0 H → Rep K H0 x a → t a = true → P x H) (h : tD K W (eMt t g fa fl) σ H Q) : (tD K W fa) σ H fun x H1 => P x H1 ∧ tDs K W fl σ H1 fun xs H2 => r x xs H2 Q := by
  obtain ⟨H0, env, er, k⟩ := h
  refine ⟨H0, env, er, Kt.seq er k fun x a A B gr er' rx k' => ?_⟩
  cases e : t a with
  | false => rw [e] at k'; exact k'.elim
  | true =>
    rw [e] at k'
    refine ⟨hP A B x a er'.sub rx e, A, env, er', Kt.seq er' k' fun y b A' B' gr' er'' ry k'' => ?_⟩
    obtain ⟨d, e, q⟩ := kt_ofO er''.sub k''
    exact hg A' B' x y a b d Q er''.sub (rx.mono gr'.s0) ry e q
/-- a reading is monotone in what is wanted -/
theorem tR_mono {α β : Type} {R : Hp → β → α → Prop} {f : Env → Res α} {Q Q' : β → Hp → Prop} (h : tR K R W f σ H Q) (i : ∀ x H', Same H H' → Q x H' → Q' x H') : tR K R W f σ H Q' := by
  obtain ⟨H0, env, er, k⟩ := h
  refine ⟨H0, env, er, ?_⟩
  cases e : f env with
  | no => rw [e] at k; exact k
  | ex C => rw [e] at k; exact k
  | ok a => rw [e] at k; exact fun x A B g r => i x B g.s (k x A B g r)
theorem t_tup {n : Nat} {Q : VK} (hn : ∀ env ds, fl env = .ok ds → ds.length ≤ n) (hz : n ≤ sizeLine) (h : tD K W (eTup fl) σ H Q) : tTup (tDs K W fl) σ H Q := by
  obtain ⟨H0, env, er, k⟩ := h
  refine ⟨H0, env, er, ?_⟩
  have hl := hn env
  cases e : fl env with
  | no => unfold eTup at k; rw [e] at k; exact k
  | ex C => unfold eTup at k; rw [e] at k; exact k
  | ok ds =>
    unfold eTup at k; rw [e] at k
    intro xs A B g r
    refine ⟨by rw [r.length]; exact Nat.le_trans (hl ds e) hz, fun p hp => ?_⟩
    have g2 := Grow.new (o := .tup xs) g.sub hp
    exact k _ _ _ (g.trans g2) (.tup (SqT.of upd_same) (r.mono g2.s0))
theorem t_lst {n : Nat} {Q : VK} (hn : ∀ env ds, fl env = .ok ds → ds.length ≤ n) (hz : n ≤ sizeLine) (h : tD K W (eLst fl) σ H Q) : tLst (tDs K W fl) σ H Q := by
  obtain ⟨H0, env, er, k⟩ := h
  refine ⟨H0, env, er, ?_⟩
  have hl := hn env
  cases e : fl env with
  | no => unfold eLst at k; rw [e] at k; exact k
  | ex C => unfold eLst at k; rw [e] at k; exact k
  | ok ds =>
    unfold eLst at k; rw [e] at k
    intro xs A B g r
    refine ⟨by rw [r.length]; exact Nat.le_trans (hl ds e) hz, fun p hp => ?_⟩
    have g2 := Grow.new (o := .lst xs) g.sub hp
    exact k _ _ _ (g.trans g2) (.lst (SqL.of upd_same) (r.mono g2.s0))
theorem kt_toB {H0 : Hp} {a : D} {x : V} {Q : Bool → Hp → Prop} (r : Rep K H0 x a) (s : Same H0 H) (k : Kt rV W σ H0 H (toB a) Q) : ∃ c, x = .bl c ∧ Q c H := by
  cases a with
  | bl b =>
    cases r
    exact ⟨b, rfl, k b H0 H (Grow.refl s) rfl⟩
  | _ => exact k.elim
theorem t_bV {Q : Bool → Hp → Prop} (h : tDB K W (bV fa) σ H Q) : tB (tD K W fa) σ H Q := by
  obtain ⟨H0, env, er, k⟩ := h
  refine ⟨H0, env, er, Kt.seq er k fun x a A B gr er' rx k' => ?_⟩
  exact kt_toB rx er'.sub k'
theorem t_and {Q : Bool → Hp → Prop} (h : tDB K W (bAnd ta tb) σ H Q) : tAnd (tDB K W ta) (tDB K W tb) σ H Q := by
  obtain ⟨H0, env, er, k⟩ := h
  refine ⟨H0, env, er, Kt.seq er k fun x a A B gr er' rx k' => ?_⟩
  cases (show x = a from rx)
  cases x with
  | true => exact iteT ⟨A, env, er', k'⟩
  | false => exact iteF (k' false A B (Grow.refl er'.sub) rfl)
theorem t_or {Q : Bool → Hp → Prop} (h : tDB K W (bOr ta tb) σ H Q) : tOr (tDB K W ta) (tDB K W tb) σ H Q := by
  obtain ⟨H0, env, er, k⟩ := h
  refine ⟨H0, env, er, Kt.seq er k fun x a A B gr er' rx k' => ?_⟩
  cases (show x = a from rx)
  cases x with
  | true => exact iteT (k' true A B (Grow.refl er'.sub) rfl)
  | false => exact iteF ⟨A, env, er', k'⟩
theorem t_not {Q : Bool → Hp → Prop} (h : tDB K W (bNot ta) σ H Q) : tNot (tDB K W ta) σ H Q := by
  obtain ⟨H0, env, er, k⟩ := h
  refine ⟨H0, env, er, Kt.seq er k fun x a A B gr er' rx k' => ?_⟩
  cases (show x = a from rx)
  exact k' _ A B (Grow.refl er'.sub) rfl
theorem t_if {Q : VK} (h : tD K W (eIf tc fa fb) σ H Q) : tIf (tDB K W tc) (tD K W fa) (tD K W fb) σ H Q := by
  obtain ⟨H0, env, er, k⟩ := h
  refine ⟨H0, env, er, Kt.seq er k fun x a A B gr er' rx k' => ?_⟩
  cases (show x = a from rx)
  cases x with
  | true => exact iteT ⟨A, env, er', k'⟩
  | false => exact iteF ⟨A, env, er', k'⟩
/-- x and y, x or y, not x of truths as values -/
theorem t_andV {Q : VK} (h : tD K W (eB (bAnd ta tb)) σ H Q) : tAndV (tD K W (eB ta)) (tD K W (eB tb)) σ H Q := by
  obtain ⟨H0, env, er, k⟩ := h
  refine ⟨H0, env, er, ?_⟩
  unfold eB bAnd at k
  unfold eB
  cases e : ta env with
  | no => rw [e] at k; exact k
  | ex C => rw [e] at k; exact k
  | ok a =>
    rw [e] at k
    intro x A B g r
    cases r
    refine ⟨a, rfl, ?_⟩
    cases a with
    | true => exact iteT ⟨A, env, er.grow g, Kt.shift g k⟩
    | false => exact iteF (k _ A B g (.bl false))
theorem t_orV {Q : VK} (h : tD K W (eB (bOr ta tb)) σ H Q) : tOrV (tD K W (eB ta)) (tD K W (eB tb)) σ H Q := by
  obtain ⟨H0, env, er, k⟩ := h
  refine ⟨H0, env, er, ?_⟩
  unfold eB bOr at k
  unfold eB
  cases e : ta env with
  | no => rw [e] at k; exact k
  | ex C => rw [e] at k; exact k
  | ok a =>
    rw [e] at k
    intro x A B g r
    cases r
    refine ⟨a, rfl, ?_⟩
    cases a with
    | true => exact iteT (k _ A B g (.bl true))
    | false => exact iteF ⟨A, env, er.grow g, Kt.shift g k⟩
theorem t_notV {Q : VK} (h : tD K W (eB (bNot ta)) σ H Q) : tNotV (tD K W (eB ta)) σ H Q := by
  obtain ⟨H0, env, er, k⟩ := h
  refine ⟨H0, env, er, ?_⟩
  unfold eB bNot at k
  unfold eB
  cases e : ta env with
  | no => rw [e] at k; exact k
  | ex C => rw [e] at k; exact k
  | ok a =>
    rw [e] at k
    intro x A B g r
    cases r
    exact ⟨a, rfl, k _ A B g (.bl _)⟩
/-- a value that is a truth, as eB of its truth -/
theorem t_eBV {Q : VK} (h : tD K W (eB (bV fa)) σ H Q) : tD K W fa σ H Q := by
  obtain ⟨H0, env, er, k⟩ := h
  refine ⟨H0, env, er, ?_⟩
  unfold eB bV at k
  cases e : fa env with
  | no => rw [e] at k; exact k
  | ex C => rw [e] at k; exact k
  | ok a =>
    rw [e] at k
    cases a with
    | bl b => exact k
    | _ => exact k.elim
theorem t_chain {r r' : R2} {g g' : D → D → Option D} {Q : VK} (hg : Good2 K r g) (hg' : Good2 K r' g') (h : tD K W (eChain g g' fa fb fc) σ H Q) : tChain r r' (tD K W fa) (tD K W fb) (tD K W fc) σ H Q := by
  obtain ⟨H0, env, er, k⟩ := h
  refine ⟨H0, env, er, Kt.seq er k fun x a A B gr er' rx k' => ⟨A, env, er', Kt.seq er' k' fun y b A' B' gr' er'' ry k'' => ?_⟩⟩
  cases e : g a b with
  | none => rw [e] at k''; exact k''.elim
  | some z =>
    rw [e] at k''
    refine hg A' B' x y a b z _ er''.sub (rx.mono gr'.s0) ry e fun v A3 B3 g3 rv => ?_
    cases z with
    | bl c =>
      cases rv
      refine ⟨c, rfl, ?_⟩
      have k3 := Kt.shift g3 k''
      cases c with
      | true =>
        refine iteT ⟨A3, env, er''.grow g3, Kt.seq (er''.grow g3) k3 fun w c' A4 B4 g4 er4 rw4 k4 => ?_⟩
        obtain ⟨d, e4, q⟩ := kt_ofO er4.sub k4
        exact hg' A4 B4 y w b c' d Q er4.sub ((ry.mono g3.s0).mono g4.s0) rw4 e4 q
      | false => exact iteF (k3 _ A3 B3 (Grow.refl g3.sub) (.bl false))
    | _ => exact k''.elim
theorem t_oNone {Q : Option Int → Hp → Prop} (h : tDO K W oNone σ H Q) : tNoPart σ H Q := by
  obtain ⟨H0, env, er, k⟩ := h
  exact k none H0 H (Grow.refl er.sub) rfl
theorem t_oSome {Q : Option Int → Hp → Prop} (h : tDO K W (oSome fa) σ H Q) : tPart (tD K W fa) σ H Q := by
  obtain ⟨H0, env, er, k⟩ := h
  refine ⟨H0, env, er, Kt.seq er k fun x a A B gr er' rx k' => ?_⟩
  cases a with
  | int i =>
    cases rx
    exact ⟨i, rfl, k' _ A B (Grow.refl er'.sub) rfl⟩
  | _ => exact k'.elim
end
/-! ### the rules -/
section
variable {X : Cx} {W : WX} {e a b c : Expr} {es rest : List Expr} {pos p pos' : Pos} {fa fb fc : Env → Res D} {ta tb tc : Env → Res Bool} {fl : Env → Res (List D)}
theorem pd_var (i : Nat) {x : Str} (hN : X.N[i]? = some x := by rfl) (hv : Vis X.env.scope x := by first | exact Or.inl rfl | exact Or.inr (Or.inl rfl) | exact Or.inr (Or.inr rfl)) (hd : (x == ("__debug__" : Str)) = false := by decide)
    (hcd : (x == ("__classdict__" : Str)) = false := by decide) : PE X (.Name x pos) (tD X.K W (eVar i)) := PE.imp (pe_var hN hv hd hcd) fun _ _ _ h => t_var h
theorem pd_int {i : Int} {j pos} : PE X (.Constant (.int i) j pos) (tD X.K W (eC (.int i))) := PE.imp pe_int fun _ _ _ h => t_c (fun _ => .int i) h
theorem pd_bl {i : Bool} {j pos} : PE X (.Constant (.bool i) j pos) (tD X.K W (eC (.bl i))) := PE.imp pe_bl fun _ _ _ h => t_c (fun _ => .bl i) h
theorem pd_non {j pos} : PE X (.Constant .none j pos) (tD X.K W (eC .non)) := PE.imp pe_non fun _ _ _ h => t_c (fun _ => .non) h
theorem pd_str {i : Str} {j pos} : PE X (.Constant (.str i) j pos) (tD X.K W (eC (.str i))) := PE.imp pe_str fun _ _ _ h => t_c (fun _ => .str i) h
/-- a module's constant -/
theorem pd_glob {x : Str} {v : V} {u : Value} {d : D} (hg : Gl X x) (hm : X.mg x = some u) (r : RelV v u) (h : ∀ H, Rep X.K H v d) (hd : (x == ("__debug__" : Str)) = false := by decide) : PE X (.Name x pos) (tD X.K W (eC d)) :=
  PE.imp (pe_glob hg hm r hd) fun _ _ _ q => t_c h q
/-- a built-in class's name as a value -/
theorem pd_bty {x : Str} {n : String} (hg : Gl X x) (hm : X.mg x = none) (hv : bootBuiltins x = some (.type n)) (hn : x ≠ "__name__" := by decide) (hd : (x == ("__debug__" : Str)) = false := by decide) : PE X (.Name x pos) (tD X.K W (eC (.ty n))) :=
  PE.imp (pe_bltn (v := .ty n) hg hm hv rfl hn hd) fun _ _ _ q => t_c (fun _ => .ty n) q
theorem pd_op {op : Operator} {r : R2} {g : D → D → Option D} (ho : OpR X (binaryOp op) r) (hg : Good2 X.K r g) (ha : PE X a (tD X.K W fa)) (hb : PE X b (tD X.K W fb)) : PE X (.BinOp a op b pos) (tD X.K W (eOp g fa fb)) :=
  PE.imp (pe_op ho ha hb) fun _ _ _ h => t_op hg h
theorem pd_un {op : UnaryOp} {r : V → Hp → VK → Prop} {g : D → Option D} (ho : UnR X (unaryOp op) r) (hg : Good1 X.K r g) (ha : PE X a (tD X.K W fa)) : PE X (.UnaryOp op a pos) (tD X.K W (eUn g fa)) :=
  PE.imp (pe_un ho ha) fun _ _ _ h => t_un hg h
theorem pd_cmp {op : CmpOp} {r : R2} {g : D → D → Option D} (ho : OpR X (compareOp op) r) (hg : Good2 X.K r g) (ha : PE X a (tD X.K W fa)) (hb : PE X b (tD X.K W fb)) (hm : behindInMarks op b = false := by first | exact nomark _ | rfl) : PE X (.Compare a [op] [b] pos) (tD X.K W (eOp g fa fb)) :=
  PE.imp (pe_cmpR ho ha hb hm) fun _ _ _ h => t_op hg h
theorem pt_cmp' {op : CmpOp} {r : R2} {g : D → D → Option D} (ho : OpR X (compareOp op) r) (hg : Good2 X.K r g) (ha : PE X a (tD X.K W fa)) (hb : PE X b (tD X.K W fb)) (hm : behindInMarks op b = false := by first | exact nomark _ | rfl) : PT X (.Compare a [op] [b] pos) (tDB X.K W (bV (eOp g fa fb))) :=
  PT.imp (pt_cmpR ho ha hb hm) fun σ H Q h => by
    obtain ⟨H0, env, er, k⟩ := h
    unfold bV at k
    refine t_op hg ⟨H0, env, er, Kt.seq er k fun x a A B gr er' rx k' => ?_⟩
    exact kt_toB rx er'.sub k'
theorem pd_chain {op op' : CmpOp} {r r' : R2} {g g' : D → D → Option D} (ho : OpR X (compareOp op) r) (hg : Good2 X.K r g) (ho' : OpR X (compareOp op') r') (hg' : Good2 X.K r' g') (ha : PE X a (tD X.K W fa)) (hb : PE X b (tD X.K W fb)) (hc : PE X c (tD X.K W fc))
    (hm : lastMarks [op, op'] [b, c] = false := by with_unfolding_all rfl) : PE X (.Compare a [op, op'] [b, c] pos) (tD X.K W (eChain g g' fa fb fc)) := PE.imp (pe_chain ho ho' ha hb hc hm) fun _ _ _ h => t_chain hg hg' h
theorem pt_chain' {op op' : CmpOp} {r r' : R2} {g g' : D → D → Option D} (ho : OpR X (compareOp op) r) (hg : Good2 X.K r g) (ho' : OpR X (compareOp op') r') (hg' : Good2 X.K r' g') (ha : PE X a (tD X.K W fa)) (hb : PE X b (tD X.K W fb)) (hc : PE X c (tD X.K W fc))
    (hm : lastMarks [op, op'] [b, c] = false := by with_unfolding_all rfl) : PT X (.Compare a [op, op'] [b, c] pos) (tDB X.K W (bV (eChain g g' fa fb fc))) := PT.imp (pt_chain ho ho' ha hb hc hm) fun σ H Q h => by
    obtain ⟨H0, env, er, k⟩ := h
    refine t_chain hg hg' ⟨H0, env, er, Kt.seq er k fun x a A B gr er' rx k' => ?_⟩
    exact kt_toB rx er'.sub k'
theorem pt_v (ha : PE X e (tD X.K W fa)) (he : ∀ whole, isTrue e X.env whole = (do let v ← whole; standAt e.pos; holding [v] (truthy v)) := by intro _; rfl) : PT X e (tDB X.K W (bV fa)) :=
  PT.imp (pt_val ha he) fun _ _ _ h => t_bV h
theorem pwd_and1 (ha : PT X a (tDB X.K W ta)) : PW X (.BoolOp .And [a] pos) (tDB X.K W ta) := pw_and1 ha
theorem pwd_or1 (ha : PT X a (tDB X.K W ta)) : PW X (.BoolOp .Or [a] pos) (tDB X.K W ta) := pw_or1 ha
theorem pwd_and (ha : PT X a (tDB X.K W ta)) (hb : PW X (.BoolOp .And (b :: rest) pos) (tDB X.K W tb)) : PW X (.BoolOp .And (a :: b :: rest) pos) (tDB X.K W (bAnd ta tb)) :=
  ⟨fun whole pins s σ H Q I h => (pw_and ha hb).run whole pins s σ H Q I (t_and h)⟩
theorem pwd_or (ha : PT X a (tDB X.K W ta)) (hb : PW X (.BoolOp .Or (b :: rest) pos) (tDB X.K W tb)) : PW X (.BoolOp .Or (a :: b :: rest) pos) (tDB X.K W (bOr ta tb)) :=
  ⟨fun whole pins s σ H Q I h => (pw_or ha hb).run whole pins s σ H Q I (t_or h)⟩
theorem ptd_not (ha : PT X a (tDB X.K W ta)) : PT X (.UnaryOp .Not a pos) (tDB X.K W (bNot ta)) := PT.imp (pt_not ha) fun _ _ _ h => t_not h
/-- truths as values -/
theorem pd_eB (h : PE X e (tD X.K W fa)) : PE X e (tD X.K W (eB (bV fa))) := PE.imp h fun _ _ _ q => t_eBV q
theorem pd_one {op} (h : PE X a (tD X.K W (eB ta))) : PE X (.BoolOp op [a] pos) (tD X.K W (eB ta)) := pe_one h
theorem pd_and (ha : PE X a (tD X.K W (eB ta))) (hb : PE X (.BoolOp .And (b :: rest) pos) (tD X.K W (eB tb))) : PE X (.BoolOp .And (a :: b :: rest) pos) (tD X.K W (eB (bAnd ta tb))) := PE.imp (pe_and ha hb) fun _ _ _ h => t_andV h
theorem pd_or (ha : PE X a (tD X.K W (eB ta))) (hb : PE X (.BoolOp .Or (b :: rest) pos) (tD X.K W (eB tb))) : PE X (.BoolOp .Or (a :: b :: rest) pos) (tD X.K W (eB (bOr ta tb))) := PE.imp (pe_or ha hb) fun _ _ _ h => t_orV h
theorem pd_not (ha : PE X a (tD X.K W (eB ta))) : PE X (.UnaryOp .Not a pos) (tD X.K W (eB (bNot ta))) := PE.imp (pe_not ha) fun _ _ _ h => t_notV h
theorem pd_if {c : Expr} (hc : PT X c (tDB X.K W tc)) (ha : PE X a (tD X.K W fa)) (hb : PE X b (tD X.K W fb)) : PE X (.IfExp c a b pos) (tD X.K W (eIf tc fa fb)) := PE.imp (pe_ifExp hc ha hb) fun _ _ _ h => t_if h
theorem pad_nil : PA X [] (tDs X.K W aNil) := PA.imp pa_nil fun _ _ _ h => t_nil h
theorem pad_cons (ha : PE X e (tD X.K W fa)) (hr : PA X es (tDs X.K W fl)) (hs : starEach (e :: es) X.env = (false, eval e X.env) :: starEach es X.env := by rfl) : PA X (e :: es) (tDs X.K W (aCons fa fl)) := PA.imp (pa_cons ha hr hs) fun _ _ _ h => t_cons h
/-- how many are written -/
def ArgN (n : Nat) (f : Env → Res (List D)) : Prop := ∀ env ds, f env = .ok ds → ds.length ≤ n
theorem arg_nil : ArgN 0 aNil := fun env ds h => by
  cases h
  exact Nat.le_refl _
theorem arg_cons {n : Nat} (h : ArgN n fl) : ArgN (n + 1) (aCons fa fl) := fun env ds e => by
  unfold aCons at e
  cases e1 : fa env with
  | no => rw [e1] at e; cases e
  | ex C => rw [e1] at e; cases e
  | ok a =>
    rw [e1] at e
    cases e2 : fl env with
    | no => rw [e2] at e; cases e
    | ex C => rw [e2] at e; cases e
    | ok r =>
      rw [e2] at e
      cases e
      rw [List.length_cons]
      exact Nat.succ_le_succ (h env r e2)
theorem pd_tup {n x1 : Nat} (h : PA X es (tDs X.K W fl)) (hn : ArgN n fl) (hz : n ≤ sizeLine := by decide) : PE X (.Tuple es x1 pos) (tD X.K W (eTup fl)) := PE.imp (pe_tup h) fun _ _ _ q => t_tup hn hz q
theorem pd_lst {n : Nat} (h : PA X es (tDs X.K W fl)) (hn : ArgN n fl) (hz : n ≤ sizeLine := by decide) : PE X (.List es pos) (tD X.K W (eLst fl)) := PE.imp (pe_lst h) fun _ _ _ q => t_lst hn hz q
theorem pd_ix {r : R2} {g : D → D → Option D} (hr : IxR X r) (hg : Good2 X.K r g) (ha : PE X a (tD X.K W fa)) (hb : PE X b (tD X.K W fb)) (hs : PlainIx b := by exact fun _ _ => rfl) : PE X (.Subscript a b pos) (tD X.K W (eOp g fa fb)) :=
  PE.imp (pe_ix hr ha hb hs) fun _ _ _ h => t_op hg h
theorem pd_fnB {x : Str} {id : String} {r : List V → Hp → VK → Prop} {g : List D → Option D} (hc : CallR X (.builtin id) r) (hgd : GoodN X.K r g) (hv : bootBuiltins x = some (.builtin id)) (hg : Gl X x) (hm : X.mg x = none) (ha : PA X (e :: es) (tDs X.K W fl)) (hn : x ≠ "__name__" := by decide) (hdb : (x == ("__debug__" : Str)) = false := by decide)
    (he : starEach (e :: es) X.env = (false, eval e X.env) :: starEach es X.env := by rfl) (hpl : (backTo pos (starEach es X.env)).any (·.1) = false := by rfl) : PE X (.Call (.Name x p) (e :: es) [] pos) (tD X.K W (eFn g fl)) :=
  PE.imp (pe_callB hc hg hm hv ha hn hdb he hpl) fun _ _ _ h => t_fn hgd h
theorem pd_fnT {x : Str} {T : String} {r : List V → Hp → VK → Prop} {g : List D → Option D} (hc : CallR X (.type T) r) (hgd : GoodN X.K r g) (hv : bootBuiltins x = some (.type T)) (hg : Gl X x) (hm : X.mg x = none) (ha : PA X (e :: es) (tDs X.K W fl)) (hn : x ≠ "__name__" := by decide) (hdb : (x == ("__debug__" : Str)) = false := by decide)
    (he : starEach (e :: es) X.env = (false, eval e X.env) :: starEach es X.env := by rfl) (hpl : (backTo pos (starEach es X.env)).any (·.1) = false := by rfl) : PE X (.Call (.Name x p) (e :: es) [] pos) (tD X.K W (eFn g fl)) :=
  PE.imp (pe_callTy hc hg hm hv ha hn hdb he hpl) fun _ _ _ h => t_fn hgd h
def isLst : D → Bool
  | .lst _ => true
  | _ => false
def isStr : D → Bool
  | .str _ => true
  | _ => false
theorem ty_lst {K : PySem.W.Frag} {H0 H : Hp} {x : V} {a : D} (s : Same H0 H) (r : Rep K H0 x a) (h : isLst a = true) : tyV K "list" x H := by
  cases a with
  | lst ds =>
    cases r with
    | lst q _ => exact .inl ⟨rfl, _, Same.seq s q⟩
  | _ => exact absurd (show false = true from h) Bool.false_ne_true
theorem pd_mtL {id : String} {name : Str} {r : V → List V → Hp → VK → Prop} {g : D → List D → Option D} {o : Expr} {apos : Pos} (slot : Slot "list" name id) (hty : typeOf (.builtin id) = pure (.type "method_descriptor")) (hm : MtR X id r) (hg : GoodM X.K r g)
    (ho : PE X o (tD X.K W fa)) (ha : PA X (e :: es) (tDs X.K W fl))
    (hbase : attributeBase o name X.env (eval o X.env) = eval o X.env := by rfl)
    (hfew : ((backTo pos (starEach (e :: es) X.env)).all (fun x => !x.1) && (backToKw pos (keywordEach [] X.env)).all (fun x => x.1.isSome)
      && decide ((e :: es).length + ([] : List Keyword).length + (if ([] : List Keyword).isEmpty then 0 else 1) < 30)) = true := by rfl)
    (hline : (apos.endLine == pos.line) = true := by rfl) (hs : starEach (e :: es) X.env = (false, eval e X.env) :: starEach es X.env := by rfl) (hplain : (backTo pos (starEach es X.env)).any (·.1) = false := by rfl) :
    PE X (.Call (.Attribute o name apos) (e :: es) [] pos) (tD X.K W (eMt isLst g fa fl)) :=
  PE.imp (pe_bm PySem.F.plainAttrs_list slot hty hm ho ha hbase hfew hline hs hplain) fun _ _ _ h => t_mt hg (fun _ _ _ _ s r e => ty_lst s r e) h
theorem po_n : PO X none (tDO X.K W oNone) := PO.imp po_none fun _ _ _ h => t_oNone h
theorem po_s (h : PE X e (tD X.K W fa)) : PO X (some e) (tDO X.K W (oSome fa)) := PO.imp (po_some h) fun _ _ _ q => t_oSome q
end
end Dt
namespace Dt
open PySem PySem.Spec PyProof.Rows L2
theorem sz_le {n : Nat} (h : n ≤ 1000000) : n ≤ sizeLine := Nat.le_trans h (by decide)
theorem sz_lt {n : Nat} (h : n < 1000000) : n < sizeLine := Nat.lt_of_lt_of_le h (by decide)
section
variable {K : PySem.W.Frag}
theorem Good2.or {r r' : R2} {g : D → D → Option D} (h : ∀ H0 H x y a b d (Q : VK), Same H0 H → Rep K H0 x a → Rep K H0 y b → g a b = some d → (∀ v H0' H', Grow H0 H H0' H' → Rep K H0' v d → Q v H') → r x y H Q ∨ r' x y H Q) : Good2 K (fun x y H Q => r x y H Q ∨ r' x y H Q) g := h
theorem OpR.or {X : Cx} {f : Value → Value → Sem Value} {r r' : R2} (h : OpR X f r) (h' : OpR X f r') : OpR X f (fun x y H Q => r x y H Q ∨ r' x y H Q) := by
  intro pins s σ H x y v u Q I rx ry q
  rcases q with q | q
  · exact h pins s σ H x y v u Q I rx ry q
  · exact h' pins s σ H x y v u Q I rx ry q
end
/-! ### ints -/
@[irreducible] def lim : Nat := 2 ^ 9000
def intOp (C : Int → Int → Bool) (f : Int → Int → Int) : D → D → Option D
  | .int i, .int j => if C i j = true then some (.int (f i j)) else none
  | _, _ => none
def intCmp (f : Int → Int → Bool) : D → D → Option D
  | .int i, .int j => some (.bl (f i j))
  | _, _ => none
theorem good_int {K : PySem.W.Frag} {C : Int → Int → Prop} {B : Int → Int → Bool} {f : Int → Int → Int} (h : ∀ i j, B i j = true → C i j) : Good2 K (L2.rI C fun i j => .int (f i j)) (intOp B f) := by
  intro H0 H x y a b d Q s rx ry e q
  cases a with
  | int i =>
    cases b with
    | int j =>
      cases rx
      cases ry
      have e : (if B i j = true then some (D.int (f i j)) else none) = some d := e
      by_cases c : B i j = true
      · rw [if_pos c] at e
        cases e
        exact ⟨i, j, rfl, rfl, h i j c, q _ _ _ (Grow.refl s) (.int _)⟩
      · rw [if_neg c] at e
        cases e
    | _ => cases e
  | _ => cases e
theorem good_int0 {K : PySem.W.Frag} {f : Int → Int → Int} : Good2 K (rI0 fun i j => .int (f i j)) (intOp (fun _ _ => true) f) := by
  intro H0 H x y a b d Q s rx ry e q
  cases a with
  | int i =>
    cases b with
    | int j =>
      cases rx
      cases ry
      cases e
      exact ⟨i, j, rfl, rfl, q _ _ _ (Grow.refl s) (.int _)⟩
    | _ => cases e
  | _ => cases e
theorem good_cmp {K : PySem.W.Frag} {f : Int → Int → Bool} : Good2 K (rI0 fun i j => .bl (f i j)) (intCmp f) := by
  intro H0 H x y a b d Q s rx ry e q
  cases a with
  | int i =>
    cases b with
    | int j =>
      cases rx
      cases ry
      cases e
      exact ⟨i, j, rfl, rfl, q _ _ _ (Grow.refl s) (.bl _)⟩
    | _ => cases e
  | _ => cases e
abbrev ltD := intCmp fun i j => decide (i < j)
abbrev leD := intCmp fun i j => decide (i ≤ j)
abbrev gtD := intCmp fun i j => decide (j < i)
abbrev geD := intCmp fun i j => decide (j ≤ i)
abbrev subD := intOp (fun _ _ => true) fun i j => i - j
abbrev divD := intOp (fun _ j => decide (0 < j) && decide (j.natAbs < lim)) fun i j => i / j
abbrev modD := intOp (fun _ j => decide (0 < j)) fun i j => i % j
abbrev powD := intOp (fun i j => decide (0 ≤ j) && decide (j ≤ 1000) && decide (i.natAbs < 2 ^ 60)) fun i j => i ^ j.toNat
def mulOk (i j : Int) : Bool := decide (i.natAbs < 2 ^ 60) || decide (j.natAbs < 2 ^ 60) || (decide (i.natAbs < lim) && decide (j.natAbs < lim))
def CMulX (i j : Int) : Prop := CMul i j ∨ CMulW i j
theorem op_mulX {X : Cx} : OpR X (binaryOp .Mult) (L2.rI CMulX fun i j => .int (i * j)) := opI fun _ _ _ _ _ _ _ hc q => mul_int q (by
  rcases hc with h | h
  · exact h.ok
  · exact h.ok)
theorem lim_lt {i : Int} (h : i.natAbs < lim) : i.natAbs < 2 ^ 9000 := by
  unfold lim at h
  exact h
theorem mulOk_ok {i j : Int} (h : mulOk i j = true) : CMulX i j := by
  unfold mulOk at h
  simp only [Bool.or_eq_true, Bool.and_eq_true, decide_eq_true_eq] at h
  rcases h with (h | h) | ⟨h1, h2⟩
  · exact .inl (.inl ⟨by omega, by omega⟩)
  · exact .inl (.inr ⟨by omega, by omega⟩)
  · exact .inr (wide_mul (lim_lt h1) (lim_lt h2) (by decide) (by decide) (by decide))
abbrev mulI := intOp mulOk fun i j => i * j
section
variable {X : Cx} {W : WX} {a b : Expr} {pos : Pos} {fa fb : Env → Res D}
theorem pd_sub (ha : PE X a (tD X.K W fa)) (hb : PE X b (tD X.K W fb)) : PE X (.BinOp a .Sub b pos) (tD X.K W (eOp subD fa fb)) := pd_op op_sub good_int0 ha hb
theorem pd_div (ha : PE X a (tD X.K W fa)) (hb : PE X b (tD X.K W fb)) : PE X (.BinOp a .FloorDiv b pos) (tD X.K W (eOp divD fa fb)) := pd_op op_fdivW (good_int fun i j h => by
  simp only [Bool.and_eq_true, decide_eq_true_eq] at h
  exact wide_div h.1 (lim_lt h.2) (by decide) (by decide)) ha hb
theorem pd_mod (ha : PE X a (tD X.K W fa)) (hb : PE X b (tD X.K W fb)) : PE X (.BinOp a .Mod b pos) (tD X.K W (eOp modD fa fb)) := pd_op op_mod (good_int fun i j h => of_decide_eq_true h) ha hb
theorem pd_pow (ha : PE X a (tD X.K W fa)) (hb : PE X b (tD X.K W fb)) : PE X (.BinOp a .Pow b pos) (tD X.K W (eOp powD fa fb)) := pd_op op_pow (good_int fun i j h => by
  simp only [Bool.and_eq_true, decide_eq_true_eq] at h
  exact ⟨h.1.1, by have := h.1.2; omega, by have := h.2; omega⟩) ha hb
theorem pd_lt (ha : PE X a (tD X.K W fa)) (hb : PE X b (tD X.K W fb)) : PE X (.Compare a [.Lt] [b] pos) (tD X.K W (eOp ltD fa fb)) := pd_cmp op_lt good_cmp ha hb
theorem pd_le (ha : PE X a (tD X.K W fa)) (hb : PE X b (tD X.K W fb)) : PE X (.Compare a [.LtE] [b] pos) (tD X.K W (eOp leD fa fb)) := pd_cmp op_le good_cmp ha hb
theorem pd_gt (ha : PE X a (tD X.K W fa)) (hb : PE X b (tD X.K W fb)) : PE X (.Compare a [.Gt] [b] pos) (tD X.K W (eOp gtD fa fb)) := pd_cmp op_gt good_cmp ha hb
theorem pd_ge (ha : PE X a (tD X.K W fa)) (hb : PE X b (tD X.K W fb)) : PE X (.Compare a [.GtE] [b] pos) (tD X.K W (eOp geD fa fb)) := pd_cmp op_ge good_cmp ha hb
theorem pt_lt (ha : PE X a (tD X.K W fa)) (hb : PE X b (tD X.K W fb)) : PT X (.Compare a [.Lt] [b] pos) (tDB X.K W (bV (eOp ltD fa fb))) := pt_cmp' op_lt good_cmp ha hb
theorem pt_le (ha : PE X a (tD X.K W fa)) (hb : PE X b (tD X.K W fb)) : PT X (.Compare a [.LtE] [b] pos) (tDB X.K W (bV (eOp leD fa fb))) := pt_cmp' op_le good_cmp ha hb
theorem pt_gt (ha : PE X a (tD X.K W fa)) (hb : PE X b (tD X.K W fb)) : PT X (.Compare a [.Gt] [b] pos) (tDB X.K W (bV (eOp gtD fa fb))) := pt_cmp' op_gt good_cmp ha hb
theorem pt_ge (ha : PE X a (tD X.K W fa)) (hb : PE X b (tD X.K W fb)) : PT X (.Compare a [.GtE] [b] pos) (tDB X.K W (bV (eOp geD fa fb))) := pt_cmp' op_ge good_cmp ha hb
theorem pd_chLL {c : Expr} {fc : Env → Res D} (ha : PE X a (tD X.K W fa)) (hb : PE X b (tD X.K W fb)) (hc : PE X c (tD X.K W fc)) (hm : lastMarks [.LtE, .Lt] [b, c] = false := by with_unfolding_all rfl) : PE X (.Compare a [.LtE, .Lt] [b, c] pos) (tD X.K W (eChain leD ltD fa fb fc)) := pd_chain op_le good_cmp op_lt good_cmp ha hb hc hm
theorem pt_chLL {c : Expr} {fc : Env → Res D} (ha : PE X a (tD X.K W fa)) (hb : PE X b (tD X.K W fb)) (hc : PE X c (tD X.K W fc)) (hm : lastMarks [.LtE, .Lt] [b, c] = false := by with_unfolding_all rfl) : PT X (.Compare a [.LtE, .Lt] [b, c] pos) (tDB X.K W (bV (eChain leD ltD fa fb fc))) := pt_chain' op_le good_cmp op_lt good_cmp ha hb hc hm
theorem pd_chEE {c : Expr} {fc : Env → Res D} (ha : PE X a (tD X.K W fa)) (hb : PE X b (tD X.K W fb)) (hc : PE X c (tD X.K W fc)) (hm : lastMarks [.LtE, .LtE] [b, c] = false := by with_unfolding_all rfl) : PE X (.Compare a [.LtE, .LtE] [b, c] pos) (tD X.K W (eChain leD leD fa fb fc)) := pd_chain op_le good_cmp op_le good_cmp ha hb hc hm
theorem pt_chEE {c : Expr} {fc : Env → Res D} (ha : PE X a (tD X.K W fa)) (hb : PE X b (tD X.K W fb)) (hc : PE X c (tD X.K W fc)) (hm : lastMarks [.LtE, .LtE] [b, c] = false := by with_unfolding_all rfl) : PT X (.Compare a [.LtE, .LtE] [b, c] pos) (tDB X.K W (bV (eChain leD leD fa fb fc))) := pt_chain' op_le good_cmp op_le good_cmp ha hb hc hm
theorem pt_chTT {c : Expr} {fc : Env → Res D} (ha : PE X a (tD X.K W fa)) (hb : PE X b (tD X.K W fb)) (hc : PE X c (tD X.K W fc)) (hm : lastMarks [.Lt, .Lt] [b, c] = false := by with_unfolding_all rfl) : PT X (.Compare a [.Lt, .Lt] [b, c] pos) (tDB X.K W (bV (eChain ltD ltD fa fb fc))) := pt_chain' op_lt good_cmp op_lt good_cmp ha hb hc hm
end
def negD : D → Option D
  | .int i => some (.int (-i))
  | _ => none
theorem pd_neg {X : Cx} {W : WX} {a : Expr} {pos : Pos} {fa : Env → Res D} (ha : PE X a (tD X.K W fa)) : PE X (.UnaryOp .USub a pos) (tD X.K W (eUn negD fa)) := pd_un un_neg (fun H0 H x a d Q s rx e q => by
  cases a with
  | int i =>
    cases rx
    cases e
    exact ⟨i, rfl, q _ _ _ (Grow.refl s) (.int _)⟩
  | _ => cases e) ha
/-! ### + of ints, lists, texts -/
def addD : D → D → Option D
  | .int i, .int j => some (.int (i + j))
  | .lst a, .lst b => if a.length + b.length ≤ 1000000 then some (.lst (a ++ b)) else none
  | .str a, .str b => if a.length + b.length ≤ 1000000 then some (.str (a ++ b)) else none
  | _, _ => none
/-- list + list, either may be locked -/
def rCatR (K : PySem.W.Frag) : R2 := fun x y H Q => ∃ l b xs zs, x = .ref l ∧ y = .ref b ∧ SqL K H l xs ∧ SqL K H b zs ∧ xs.length + zs.length ≤ sizeLine ∧ ∀ p, H p = none → Q (.ref p) (upd H p (.lst (xs ++ zs)))
theorem op_catR {X : Cx} : OpR X (binaryOp .Add) (rCatR X.K) := by
  intro pins s σ H x y v u Q I rx ry h
  obtain ⟨l, b, xs, zs, rfl, rfl, hH, hB, hz, q⟩ := h
  cases rx
  cases ry
  obtain ⟨its, r, ⟨⟨cls, dd, data, sl⟩, n, ho, hc, hdn, hd⟩, z⟩ := I.list hH
  obtain ⟨its2, r2, ⟨⟨cls2, dd2, data2, sl2⟩, n2, ho2, hc2, hdn2, hd2⟩, z2⟩ := I.list hB
  simp only at hc hd hc2 hd2
  subst hc hd hc2 hd2
  have hl := r.length
  have hl2 := r2.length
  have e : its.toArray ++ its2.toArray = (its ++ its2).toArray := by simp
  refine concat_meets ⟨_, ho, rfl⟩ ⟨_, ho2, rfl⟩ noFill_list_add seq_list_add PySem.F.slot_list_add PySem.F.entry_list_add (PySem.F.args_list_add_2 _ _) (list_addW l b its.toArray its2.toArray n n2 dd dd2 sl sl2 (by rw [List.size_toArray, List.size_toArray]; omega)) ⟨ho, ho2, ?_⟩
  rw [e]
  exact ⟨.ref _, _, I.lnew (t' := s.toks) (r.append r2) (by rw [List.length_append]; omega), rfl, q _ I.fresh⟩
def rAdd3 (K : PySem.W.Frag) : R2 := fun x y H Q => (rI0 (fun i j => .int (i + j)) x y H Q ∨ rCatR K x y H Q) ∨ (∃ i j, x = .str i ∧ y = .str j ∧ i.length + j.length ≤ sizeLine ∧ Q (.str (i ++ j)) H)
theorem op_add3 {X : Cx} : OpR X (binaryOp .Add) (rAdd3 X.K) := OpR.or (OpR.or op_add op_catR) op_add_str
theorem good_add {K : PySem.W.Frag} : Good2 K (rAdd3 K) addD := by
  intro H0 H x y a b d Q s rx ry e q
  cases a with
  | int i =>
    cases b with
    | int j =>
      cases rx
      cases ry
      cases e
      exact .inl (.inl ⟨i, j, rfl, rfl, q _ _ _ (Grow.refl s) (.int _)⟩)
    | _ => cases e
  | lst xs =>
    cases b with
    | lst ys =>
      cases rx with
      | lst h1 r1 =>
      cases ry with
      | lst h2 r2 =>
        have e : (if xs.length + ys.length ≤ 1000000 then some (D.lst (xs ++ ys)) else none) = some d := e
        by_cases c : xs.length + ys.length ≤ 1000000
        · rw [if_pos c] at e
          cases e
          refine .inl (.inr ⟨_, _, _, _, rfl, rfl, Same.seq s h1, Same.seq s h2, ?_, fun p hp => ?_⟩)
          · rw [r1.length, r2.length]
            exact sz_le c
          · exact q _ _ _ (Grow.new s hp) (.lst (SqL.of upd_same) ((r1.append r2).mono (Grow.new s hp).s0))
        · rw [if_neg c] at e
          cases e
    | _ => cases e
  | str xs =>
    cases b with
    | str ys =>
      cases rx
      cases ry
      have e : (if xs.length + ys.length ≤ 1000000 then some (D.str (xs ++ ys)) else none) = some d := e
      by_cases c : xs.length + ys.length ≤ 1000000
      · rw [if_pos c] at e
        cases e
        exact .inr ⟨xs, ys, rfl, rfl, sz_le c, q _ _ _ (Grow.refl s) (.str _)⟩
      · rw [if_neg c] at e
        cases e
    | _ => cases e
  | _ => cases b <;> cases e
theorem pd_add {X : Cx} {W : WX} {a b : Expr} {pos : Pos} {fa fb : Env → Res D} (ha : PE X a (tD X.K W fa)) (hb : PE X b (tD X.K W fb)) : PE X (.BinOp a .Add b pos) (tD X.K W (eOp addD fa fb)) := pd_op op_add3 good_add ha hb
/-! ### * of ints; of a text by an int -/
def mulD : D → D → Option D := mulI
theorem pd_mul {X : Cx} {W : WX} {a b : Expr} {pos : Pos} {fa fb : Env → Res D} (ha : PE X a (tD X.K W fa)) (hb : PE X b (tD X.K W fb)) : PE X (.BinOp a .Mult b pos) (tD X.K W (eOp mulD fa fb)) := pd_op op_mulX (good_int fun _ _ h => mulOk_ok h) ha hb
/-! ### ==, != -/
def scV : D → Option V
  | .non => some .non | .bl b => some (.bl b) | .int i => some (.int i) | .str s => some (.str s)
  | _ => none
mutual
def toPy : D → Option PyData
  | .non => some .none | .bl b => some (.bool b) | .int i => some (.int i) | .str s => some (.str s)
  | .lst xs => (toPys xs).map .list
  | .tup xs => (toPys xs).map .tuple
  | .ty _ => none | .ins _ _ => none | .cls _ => none | .dic => none
def toPys : List D → Option (List PyData)
  | [] => some []
  | x :: xs => match toPy x, toPys xs with
    | some a, some b => some (a :: b)
    | _, _ => none
end
def eqB (a b : D) : Option Bool := match scV a, scV b with
  | some x, some y => if scal x y = true then some (decide (x = y)) else none
  | _, _ => match toPy a, toPy b with
    | some x, some y => if (SeqAt.shaped x && SeqAt.shaped y) = true then some (PyData.eqv x y) else none
    | _, _ => none
def eqD (a b : D) : Option D := (eqB a b).map .bl
def neD (a b : D) : Option D := (eqB a b).map fun c => .bl (!c)
section
variable {K : PySem.W.Frag} {H : Hp}
mutual
theorem Rep.dp : ∀ {d : D} {v : V} {p : PyData}, Rep K H v d → toPy d = some p → Dp K H v p
  | .non, _, _, .non, e => by cases e; exact .non
  | .bl b, _, _, .bl _, e => by cases e; exact .bl b
  | .int b, _, _, .int _, e => by cases e; exact .int b
  | .str b, _, _, .str _, e => by cases e; exact .str b
  | .lst xs, _, _, .lst h r, e => by
    unfold toPy at e
    cases e1 : toPys xs with
    | none => rw [e1] at e; cases e
    | some ps => rw [e1] at e; cases e; exact .lst h (Reps.dp r e1)
  | .tup xs, _, _, .tup h r, e => by
    unfold toPy at e
    cases e1 : toPys xs with
    | none => rw [e1] at e; cases e
    | some ps => rw [e1] at e; cases e; exact .tup h (Reps.dp r e1)
  | .ty _, _, _, _, e => by cases e
  | .ins _ _, _, _, _, e => by cases e
  | .cls _, _, _, _, e => by cases e
  | .dic, _, _, _, e => by cases e
theorem Reps.dp : ∀ {ds : List D} {vs : List V} {ps : List PyData}, Reps K H vs ds → toPys ds = some ps → DpAll K H vs ps
  | [], _, _, .nil, e => by cases e; exact .nil
  | x :: xs, _, _, .cons r t, e => by
    unfold toPys at e
    cases e1 : toPy x with
    | none => rw [e1] at e; cases e
    | some a =>
      cases e2 : toPys xs with
      | none => rw [e1, e2] at e; cases e
      | some b => rw [e1, e2] at e; cases e; exact .cons (Rep.dp r e1) (Reps.dp t e2)
end
theorem Rep.sc {d : D} {v x : V} (r : Rep K H v d) (e : scV d = some x) : v = x := by
  cases d <;> cases e <;> cases r <;> rfl
mutual
theorem Dp.mono {H H' : Hp} (s : Same H H') : ∀ {v : V} {d : PyData}, Dp K H v d → Dp K H' v d
  | _, _, .non => .non
  | _, _, .bl b => .bl b
  | _, _, .int i => .int i
  | _, _, .str x => .str x
  | _, _, .lst h r => .lst (Same.seq s h) (DpAll.mono s r)
  | _, _, .tup h r => .tup (Same.seqT s h) (DpAll.mono s r)
theorem DpAll.mono {H H' : Hp} (s : Same H H') : ∀ {v : List V} {d : List PyData}, DpAll K H v d → DpAll K H' v d
  | _, _, .nil => .nil
  | _, _, .cons r t => .cons (Dp.mono s r) (DpAll.mono s t)
end
end
theorem good_eq {K : PySem.W.Frag} : Good2 K (fun x y H Q => rEq x y H Q ∨ rEqD K x y H Q) eqD := by
  intro H0 H x y a b d Q s rx ry e q
  unfold eqD eqB at e
  cases e1 : scV a with
  | some x1 =>
    cases e2 : scV b with
    | some y1 =>
      rw [e1, e2] at e
      rw [rx.sc e1, ry.sc e2]
      by_cases c : scal x1 y1 = true
      · simp only [if_pos c, Option.map] at e
        cases e
        exact .inl ⟨c, q _ _ _ (Grow.refl s) (.bl _)⟩
      · simp only [if_neg c, Option.map] at e
        cases e
    | none =>
      rw [e1, e2] at e
      cases e3 : toPy a with
      | none => simp only [e3, Option.map] at e; cases e
      | some p =>
        cases e4 : toPy b with
        | none => simp only [e3, e4, Option.map] at e; cases e
        | some p2 =>
          simp only [e3, e4, Option.map] at e
          by_cases c : (SeqAt.shaped p && SeqAt.shaped p2) = true
          · rw [if_pos c] at e
            cases e
            obtain ⟨c1, c2⟩ := Bool.and_eq_true_iff.mp c
            exact .inr ⟨p, p2, Dt.Dp.mono s (rx.dp e3), Dt.Dp.mono s (ry.dp e4), c1, c2, q _ _ _ (Grow.refl s) (.bl _)⟩
          · rw [if_neg c] at e
            cases e
  | none =>
    rw [e1] at e
    cases e3 : toPy a with
    | none => simp only [e3, Option.map] at e; cases e
    | some p =>
      cases e4 : toPy b with
      | none => simp only [e3, e4, Option.map] at e; cases e
      | some p2 =>
        simp only [e3, e4, Option.map] at e
        by_cases c : (SeqAt.shaped p && SeqAt.shaped p2) = true
        · rw [if_pos c] at e
          cases e
          obtain ⟨c1, c2⟩ := Bool.and_eq_true_iff.mp c
          exact .inr ⟨p, p2, Dt.Dp.mono s (rx.dp e3), Dt.Dp.mono s (ry.dp e4), c1, c2, q _ _ _ (Grow.refl s) (.bl _)⟩
        · rw [if_neg c] at e
          cases e
theorem good_ne {K : PySem.W.Frag} : Good2 K (fun x y H Q => rNe x y H Q ∨ rNeD K x y H Q) neD := by
  intro H0 H x y a b d Q s rx ry e q
  unfold neD eqB at e
  cases e1 : scV a with
  | some x1 =>
    cases e2 : scV b with
    | some y1 =>
      rw [e1, e2] at e
      rw [rx.sc e1, ry.sc e2]
      by_cases c : scal x1 y1 = true
      · simp only [if_pos c, Option.map] at e
        cases e
        exact .inl ⟨c, q _ _ _ (Grow.refl s) (.bl _)⟩
      · simp only [if_neg c, Option.map] at e
        cases e
    | none =>
      rw [e1, e2] at e
      cases e3 : toPy a with
      | none => simp only [e3, Option.map] at e; cases e
      | some p =>
        cases e4 : toPy b with
        | none => simp only [e3, e4, Option.map] at e; cases e
        | some p2 =>
          simp only [e3, e4, Option.map] at e
          by_cases c : (SeqAt.shaped p && SeqAt.shaped p2) = true
          · rw [if_pos c] at e
            cases e
            obtain ⟨c1, c2⟩ := Bool.and_eq_true_iff.mp c
            exact .inr ⟨p, p2, Dt.Dp.mono s (rx.dp e3), Dt.Dp.mono s (ry.dp e4), c1, c2, q _ _ _ (Grow.refl s) (.bl _)⟩
          · rw [if_neg c] at e
            cases e
  | none =>
    rw [e1] at e
    cases e3 : toPy a with
    | none => simp only [e3, Option.map] at e; cases e
    | some p =>
      cases e4 : toPy b with
      | none => simp only [e3, e4, Option.map] at e; cases e
      | some p2 =>
        simp only [e3, e4, Option.map] at e
        by_cases c : (SeqAt.shaped p && SeqAt.shaped p2) = true
        · rw [if_pos c] at e
          cases e
          obtain ⟨c1, c2⟩ := Bool.and_eq_true_iff.mp c
          exact .inr ⟨p, p2, Dt.Dp.mono s (rx.dp e3), Dt.Dp.mono s (ry.dp e4), c1, c2, q _ _ _ (Grow.refl s) (.bl _)⟩
        · rw [if_neg c] at e
          cases e
section
variable {X : Cx} {W : WX} {a b : Expr} {pos : Pos} {fa fb : Env → Res D}
theorem pd_eq (hu : X.A.units + 64 < cLine) (ha : PE X a (tD X.K W fa)) (hb : PE X b (tD X.K W fb)) : PE X (.Compare a [.Eq] [b] pos) (tD X.K W (eOp eqD fa fb)) := pd_cmp (OpR.or op_eq (op_eqD hu)) good_eq ha hb
theorem pd_ne (hu : X.A.units + 64 < cLine) (ha : PE X a (tD X.K W fa)) (hb : PE X b (tD X.K W fb)) : PE X (.Compare a [.NotEq] [b] pos) (tD X.K W (eOp neD fa fb)) := pd_cmp (OpR.or op_ne (op_neD hu)) good_ne ha hb
theorem pt_eq (hu : X.A.units + 64 < cLine) (ha : PE X a (tD X.K W fa)) (hb : PE X b (tD X.K W fb)) : PT X (.Compare a [.Eq] [b] pos) (tDB X.K W (bV (eOp eqD fa fb))) := pt_cmp' (OpR.or op_eq (op_eqD hu)) good_eq ha hb
theorem pt_ne (hu : X.A.units + 64 < cLine) (ha : PE X a (tD X.K W fa)) (hb : PE X b (tD X.K W fb)) : PT X (.Compare a [.NotEq] [b] pos) (tDB X.K W (bV (eOp neD fa fb))) := pt_cmp' (OpR.or op_ne (op_neD hu)) good_ne ha hb
end
/-! ### is, is not: None, True, False on the right -/
def isB : D → D → Option Bool
  | .bl a, .bl b => some (decide (a = b))
  | .non, .non => some true
  | .bl _, .non => some false
  | .int _, .non => some false
  | .str _, .non => some false
  | .lst _, .non => some false
  | .tup _, .non => some false
  | .ins _ _, .non => some false
  | _, _ => none
def isD (a b : D) : Option D := (isB a b).map .bl
def isnD (a b : D) : Option D := (isB a b).map fun c => .bl (!c)
theorem good_is {K : PySem.W.Frag} : Good2 K (fun x y H Q => (y = .non ∧ Q (.bl (decide (x = .non))) H) ∨ rIsB x y H Q) isD := by
  intro H0 H x y a b d Q s rx ry e q
  cases b with
  | non =>
    cases ry
    cases a <;> cases e <;> cases rx <;> exact .inl ⟨rfl, q _ _ _ (Grow.refl s) (.bl _)⟩
  | bl c =>
    cases ry
    cases a with
    | bl z =>
      cases rx
      cases e
      exact .inr ⟨_, _, rfl, rfl, q _ _ _ (Grow.refl s) (.bl _)⟩
    | _ => cases e
  | _ => cases a <;> cases e
theorem good_isn {K : PySem.W.Frag} : Good2 K (fun x y H Q => (y = .non ∧ Q (.bl (!decide (x = .non))) H) ∨ rNotB x y H Q) isnD := by
  intro H0 H x y a b d Q s rx ry e q
  cases b with
  | non =>
    cases ry
    cases a <;> cases e <;> cases rx <;> exact .inl ⟨rfl, q _ _ _ (Grow.refl s) (.bl _)⟩
  | bl c =>
    cases ry
    cases a with
    | bl z =>
      cases rx
      cases e
      exact .inr ⟨_, _, rfl, rfl, q _ _ _ (Grow.refl s) (.bl _)⟩
    | _ => cases e
  | _ => cases a <;> cases e
section
variable {X : Cx} {W : WX} {a b : Expr} {pos : Pos} {fa fb : Env → Res D}
theorem pd_is (ha : PE X a (tD X.K W fa)) (hb : PE X b (tD X.K W fb)) : PE X (.Compare a [.Is] [b] pos) (tD X.K W (eOp isD fa fb)) := pd_cmp (OpR.or op_isN op_isBl) good_is ha hb
theorem pd_isn (ha : PE X a (tD X.K W fa)) (hb : PE X b (tD X.K W fb)) : PE X (.Compare a [.IsNot] [b] pos) (tD X.K W (eOp isnD fa fb)) := pd_cmp (OpR.or op_notN op_notBl) good_isn ha hb
theorem pt_is (ha : PE X a (tD X.K W fa)) (hb : PE X b (tD X.K W fb)) : PT X (.Compare a [.Is] [b] pos) (tDB X.K W (bV (eOp isD fa fb))) := pt_cmp' (OpR.or op_isN op_isBl) good_is ha hb
theorem pt_isn (ha : PE X a (tD X.K W fa)) (hb : PE X b (tD X.K W fb)) : PT X (.Compare a [.IsNot] [b] pos) (tDB X.K W (bV (eOp isnD fa fb))) := pt_cmp' (OpR.or op_notN op_notBl) good_isn ha hb
end
end Dt
namespace Dt
open PySem PySem.Spec PyProof.Rows L2
/-! ### subscripts -/
def ixD : D → D → Option D
  | .lst xs, .int i => atI xs i
  | .tup xs, .int i => atI xs i
  | .str z, .int i => if z.length ≤ 1000000 then (atI z.cps.toList i).map fun c => .str ⟨#[c]⟩ else none
  | _, _ => none
theorem Reps.atI {K : PySem.W.Frag} {H : Hp} {vs : List V} {ds : List D} {i : Int} {d : D} (r : Reps K H vs ds) (h : L2.atI ds i = some d) : ∃ v, L2.atI vs i = some v ∧ Rep K H v d := by
  unfold L2.atI at h ⊢
  rw [r.length]
  cases e : ixN ds.length i with
  | none => rw [e] at h; cases h
  | some j =>
    rw [e] at h
    exact r.get (i := j) h
theorem good_ix {K : PySem.W.Frag} : Good2 K (rIx K) ixD := by
  intro H0 H x y a b d Q s rx ry e q
  cases b with
  | int i =>
    cases ry
    cases a with
    | lst xs =>
      cases rx with
      | lst h r =>
      obtain ⟨v, h1, h2⟩ := r.atI (i := i) (d := d) e
      exact .inl ⟨_, _, i, v, rfl, rfl, Same.seq s h, h1, q _ _ _ (Grow.refl s) h2⟩
    | tup xs =>
      cases rx with
      | tup h r =>
      obtain ⟨v, h1, h2⟩ := r.atI (i := i) (d := d) e
      exact .inr (.inl ⟨_, _, i, v, rfl, rfl, Same.seqT s h, h1, q _ _ _ (Grow.refl s) h2⟩)
    | str z =>
      cases rx
      have e : (if z.length ≤ 1000000 then (L2.atI z.cps.toList i).map fun c => D.str ⟨#[c]⟩ else none) = some d := e
      by_cases c : z.length ≤ 1000000
      · rw [if_pos c] at e
        cases e1 : L2.atI z.cps.toList i with
        | none => rw [e1] at e; cases e
        | some k =>
          rw [e1] at e
          cases e
          exact .inr (.inr ⟨z, i, k, rfl, rfl, sz_le c, e1, q _ _ _ (Grow.refl s) (.str _)⟩)
      · rw [if_neg c] at e
        cases e
    | _ => cases e
  | _ => cases a <;> cases e
theorem pd_sub' {X : Cx} {W : WX} {a b : Expr} {pos : Pos} {fa fb : Env → Res D} (ha : PE X a (tD X.K W fa)) (hb : PE X b (tD X.K W fb)) (hs : PlainIx b := by exact fun _ _ => rfl) : PE X (.Subscript a b pos) (tD X.K W (eOp ixD fa fb)) := pd_ix ix_seq good_ix ha hb hs
/-! ### slices -/
def cutG {α : Type} (xs : List α) (lo hi : Option Int) : List α := (xs.drop (HT.sIx xs.length 0 lo)).take (HT.sIx xs.length xs.length hi - HT.sIx xs.length 0 lo)
def slD (lo hi : Option Int) : D → Option D
  | .lst xs => some (.lst (cutG xs lo hi))
  | .str z => if z.length ≤ 1000000 then some (.str (cutS z lo hi)) else none
  | _ => none
def eSl (fa : Env → Res D) (fl fh : Env → Res (Option Int)) : Env → Res D := fun env => (fa env).bind fun a => (fl env).bind fun l => (fh env).bind fun h => ofO (slD l h a)
def pickG {α : Type} (xs : List α) (lo hi : Option Int) (st : Int) : List α := (sliceRange (sliceBounds lo hi (some st) xs.length).1 (sliceBounds lo hi (some st) xs.length).2.1 (sliceBounds lo hi (some st) xs.length).2.2).filterMap (xs[·]?)
def slStD (lo hi st : Option Int) : D → Option D
  | .lst xs => match st with
    | some k => if k ≠ 0 ∧ xs.length ≤ 1000000 then some (.lst (pickG xs lo hi k)) else none
    | none => none
  | _ => none
def eSlSt (fa : Env → Res D) (fl fh fs : Env → Res (Option Int)) : Env → Res D := fun env => (fa env).bind fun a => (fl env).bind fun l => (fh env).bind fun h => (fs env).bind fun st => ofO (slStD l h st a)
theorem Reps.cutG {K : PySem.W.Frag} {H : Hp} {vs : List V} {ds : List D} (r : Reps K H vs ds) (lo hi : Option Int) : Reps K H (Dt.cutG vs lo hi) (Dt.cutG ds lo hi) := by
  unfold Dt.cutG
  rw [r.length]
  exact (r.drop _).take _
theorem Reps.pick {K : PySem.W.Frag} {H : Hp} {vs : List V} {ds : List D} (r : Reps K H vs ds) : ∀ is : List Nat, Reps K H (is.filterMap (vs[·]?)) (is.filterMap (ds[·]?))
  | [] => .nil
  | i :: is => by
    rw [List.filterMap_cons, List.filterMap_cons]
    cases e : ds[i]? with
    | none =>
      have e2 : vs[i]? = none := by
        rw [List.getElem?_eq_none_iff] at e ⊢
        rw [r.length]
        exact e
      rw [e2]
      exact Reps.pick r is
    | some d =>
      obtain ⟨v, h1, h2⟩ := r.get e
      rw [h1]
      exact .cons h2 (Reps.pick r is)
theorem Vals.pick {vs : List V} {us : List Value} (r : Vals vs us) : ∀ is : List Nat, Vals (is.filterMap (vs[·]?)) (is.filterMap (us[·]?))
  | [] => .nil
  | i :: is => by
    rw [List.filterMap_cons, List.filterMap_cons]
    cases e : vs[i]? with
    | none =>
      rw [Vals.none_of r e]
      exact Vals.pick r is
    | some d =>
      obtain ⟨v, h1, h2⟩ := r.get e
      rw [h1]
      exact .cons h2 (Vals.pick r is)
theorem Reps.pickG {K : PySem.W.Frag} {H : Hp} {vs : List V} {ds : List D} (r : Reps K H vs ds) (lo hi : Option Int) (st : Int) : Reps K H (Dt.pickG vs lo hi st) (Dt.pickG ds lo hi st) := by
  unfold Dt.pickG
  rw [r.length]
  exact r.pick _
section
variable {K : PySem.W.Frag} {W : WX} {σ : L2.St} {H : Hp} {fa : Env → Res D} {fl fh fs : Env → Res (Option Int)}
def rSl2 (K : PySem.W.Frag) : V → Option Int → Option Int → Hp → VK → Prop := fun x lo hi H Q => rSlL K x lo hi H Q ∨ rSlS x lo hi H Q
theorem t_sl {Q : VK} (h : tD K W (eSl fa fl fh) σ H Q) : tSl (rSl2 K) (tD K W fa) (tDO K W fl) (tDO K W fh) σ H Q := by
  obtain ⟨H0, env, er, k⟩ := h
  refine ⟨H0, env, er, Kt.seq er k fun x a A B gr er' rx k' => ⟨A, env, er', Kt.seq er' k' fun l l' A' B' gr' er'' rl k'' => ⟨A', env, er'', Kt.seq er'' k'' fun u u' A3 B3 g3 er3 ru k3 => ?_⟩⟩⟩
  cases (show l = l' from rl)
  cases (show u = u' from ru)
  obtain ⟨d, e, q⟩ := kt_ofO er3.sub k3
  have rx3 := (rx.mono gr'.s0).mono g3.s0
  cases a with
  | lst xs =>
    cases rx3 with
    | lst h r =>
    cases e
    refine .inl ⟨_, _, rfl, Same.seq er3.sub h, fun p hp => ?_⟩
    exact q _ _ _ (Grow.new er3.sub hp) (.lst (SqL.of upd_same) ((r.cutG l u).mono (Grow.new (o := .lst _) er3.sub hp).s0))
  | str z =>
    cases rx3
    have e : (if z.length ≤ 1000000 then some (D.str (cutS z l u)) else none) = some d := e
    by_cases c : z.length ≤ 1000000
    · rw [if_pos c] at e
      cases e
      exact .inr ⟨z, rfl, sz_le c, q _ _ _ (Grow.refl er3.sub) (.str _)⟩
    · rw [if_neg c] at e
      cases e
  | _ => cases e
/-- xs[lo:hi:st] -/
def tSlSt (K : PySem.W.Frag) (te : TE) (tl th ts : TO) : TE := fun σ H Q => te σ H fun x H1 => tl σ H1 fun l H2 => th σ H2 fun u H3 => ts σ H3 fun st H4 => ∃ a xs k, x = .ref a ∧ SqL K H4 a xs ∧ st = some k ∧ k ≠ 0 ∧ ∀ p, H4 p = none → Q (.ref p) (upd H4 p (.lst (pickG xs l u k)))
theorem t_slSt {Q : VK} (h : tD K W (eSlSt fa fl fh fs) σ H Q) : tSlSt K (tD K W fa) (tDO K W fl) (tDO K W fh) (tDO K W fs) σ H Q := by
  obtain ⟨H0, env, er, k⟩ := h
  refine ⟨H0, env, er, Kt.seq er k fun x a A B gr er' rx k' => ⟨A, env, er', Kt.seq er' k' fun l l' A' B' gr' er'' rl k'' => ⟨A', env, er'', Kt.seq er'' k'' fun u u' A3 B3 g3 er3 ru k3 => ⟨A3, env, er3, Kt.seq er3 k3 fun w w' A4 B4 g4 er4 rw4 k4 => ?_⟩⟩⟩⟩
  cases (show l = l' from rl)
  cases (show u = u' from ru)
  cases (show w = w' from rw4)
  obtain ⟨d, e, q⟩ := kt_ofO er4.sub k4
  have rx3 := ((rx.mono gr'.s0).mono g3.s0).mono g4.s0
  cases a with
  | lst xs =>
    cases rx3 with
    | lst h r =>
    cases w with
    | none => cases e
    | some n =>
      have e : (if n ≠ 0 ∧ xs.length ≤ 1000000 then some (D.lst (pickG xs l u n)) else none) = some d := e
      by_cases c : n ≠ 0 ∧ xs.length ≤ 1000000
      · rw [if_pos c] at e
        cases e
        refine ⟨_, _, n, rfl, Same.seq er4.sub h, rfl, c.1, fun p hp => ?_⟩
        exact q _ _ _ (Grow.new er4.sub hp) (.lst (SqL.of upd_same) ((r.pickG l u n).mono (Grow.new (o := .lst _) er4.sub hp).s0))
      · rw [if_neg c] at e
        cases e
  | _ => cases e
end
theorem filterMap_len {α β : Type} (f : α → Option β) : ∀ l : List α, (l.filterMap f).length ≤ l.length
  | [] => Nat.le_refl _
  | x :: l => by
    rw [List.filterMap_cons]
    cases f x with
    | none => exact Nat.le_succ_of_le (filterMap_len f l)
    | some y => exact Nat.succ_le_succ (filterMap_len f l)
theorem pickG_len {α : Type} (xs : List α) (lo hi : Option Int) (k : Int) (h : k ≠ 0) : (pickG xs lo hi k).length ≤ xs.length := by
  refine Nat.le_trans (filterMap_len _ _) ?_
  refine sliceRange_length_le _ _ _ _ (fun c => ?_) (fun c => ?_)
  · unfold sliceBounds at *
    simp only [Option.getD_some] at *
    have c' : k > 0 := c
    cases lo <;> cases hi <;> simp only [c', if_true] <;> constructor <;> (try split) <;> omega
  · unfold sliceBounds at *
    simp only [Option.getD_some] at *
    have c' : ¬ k > 0 := c
    cases lo <;> cases hi <;> simp only [c', if_false] <;> constructor <;> (try split) <;> omega
section
variable {X : Cx} {W : WX} {e : Expr} {lo hi : Option Expr} {st : Expr} {fa : Env → Res D} {fl fh fs : Env → Res (Option Int)} {pos p2 : Pos}
theorem pd_sl (he : PE X e (tD X.K W fa)) (hl : PO X lo (tDO X.K W fl)) (hu : PO X hi (tDO X.K W fh)) : PE X (.Subscript e (.Slice lo hi none p2) pos) (tD X.K W (eSl fa fl fh)) :=
  PE.imp (pe_slice (SlR.or sl_list sl_str) he hl hu) fun _ _ _ h => t_sl h
theorem pe_slSt {te : TE} {tl th ts : TO} (he : PE X e te) (hl : PO X lo tl) (hu : PO X hi th) (hs : PO X (some st) ts)
    (hsub : ∀ o i, subscripted (.Slice lo hi (some st) p2) false o i = operate [o, i] (getItem o i) := by intro _ _; with_unfolding_all rfl) : PE X (.Subscript e (.Slice lo hi (some st) p2) pos) (tSlSt X.K te tl th ts) := by
  refine ⟨fun pins s σ H Q I h => ?_⟩
  refine Subscript_ (thn (he.run pins s σ H _ I h) fun v s1 ⟨x, H1, I1, r1, q1⟩ => ?_)
  refine wpAny_Slice (thn (hl.run pins s1 σ H1 _ I1 q1) fun vl s2 ⟨l, H2, I2, pl, q2⟩ => thn (hu.run pins s2 σ H2 _ I2 q2) fun vu s3 ⟨u, H3, I3, pu, q3⟩ => thn (hs.run pins s3 σ H3 _ I3 q3) fun vs s4 ⟨w, H4, I4, ps, q4⟩ => ?_)
  obtain ⟨a, xs, k, ex, hx, ew, hk, q⟩ := q4
  subst ex ew
  cases r1
  have I5 : Inv X pins σ H4 { s4 with heap := s4.heap.push { cls := .type "slice", data := .fields #[vl, vu, vs] } } := I4.kept (t' := s4.toks) fun b ob q => Heap.get?_push_of_some _ q
  obtain ⟨its, r, ht, hz⟩ := I5.list hx
  have hlen := r.length
  show wpAny (model X.prog X.w) X.A (subscriptTail e (.Slice lo hi (some st) p2) (.ref a) (.ref s4.heap.objs.size)) (EP X pins σ Q) X.xe { s4 with heap := s4.heap.push { cls := .type "slice", data := .fields #[vl, vu, vs] } }
  refine tail_any (ops := [.ref a, .ref s4.heap.objs.size]) ht.isList.typeIs (PySem.slot_list_getitem.lookup) ?_ (hsub _ _)
  refine wpAny_getItem_list_slice ht.isList (Heap.IsSliceOf.new _ vl vu vs) pl pu ps (fun z => hk (Option.some.inj z)) ?_ (by rw [List.size_toArray]; omega)
  have ep : slicePick its.toArray l u (some k) = (pickG its l u k).toArray := by
    unfold slicePick pickG
    simp only [List.size_toArray, List.getElem?_toArray]
  rw [ep]
  have rp : Vals (pickG xs l u k) (pickG its l u k) := by
    unfold pickG
    rw [← hlen]
    exact Dt.Vals.pick r _
  refine ⟨.ref _, _, I5.laid (t' := s4.toks) (o := .lst (pickG xs l u k)) (fun b ob q => Heap.get?_push_of_some _ q) (Nat.le_refl _) ?_, rfl, q _ (I5.hok.fresh (Nat.le_refl _))⟩
  exact ⟨Nat.le_trans (pickG_len xs l u k hk) hz, _, 0, rp, Heap.get?_push_size _ rfl⟩
theorem pd_slSt (he : PE X e (tD X.K W fa)) (hl : PO X lo (tDO X.K W fl)) (hu : PO X hi (tDO X.K W fh)) (hs : PO X (some st) (tDO X.K W fs))
    (hsub : ∀ o i, subscripted (.Slice lo hi (some st) p2) false o i = operate [o, i] (getItem o i) := by intro _ _; with_unfolding_all rfl) : PE X (.Subscript e (.Slice lo hi (some st) p2) pos) (tD X.K W (eSlSt fa fl fh fs)) :=
  PE.imp (pe_slSt he hl hu hs hsub) fun _ _ _ h => t_slSt h
end
/-! ### built-ins -/
def toInts : List D → Option (List Int)
  | [] => some []
  | .int i :: r => (toInts r).map (i :: ·)
  | _ :: _ => none
theorem toInts_eq : ∀ {ds : List D} {ns : List Int}, toInts ds = some ns → ds = ns.map D.int
  | [], ns, e => by cases e; rfl
  | d :: r, ns, e => by
    cases d with
    | int i =>
      have e : (toInts r).map (i :: ·) = some ns := e
      cases e1 : toInts r with
      | none => rw [e1] at e; cases e
      | some ms =>
        rw [e1] at e
        cases e
        rw [toInts_eq e1]
        rfl
    | _ => cases e
@[simp] theorem toInts_map : ∀ ns : List Int, toInts (ns.map D.int) = some ns
  | [] => rfl
  | n :: ns => by
    show (toInts (ns.map D.int)).map (n :: ·) = _
    rw [toInts_map ns]
    rfl
def toBls : List D → Option (List Bool)
  | [] => some []
  | .bl i :: r => (toBls r).map (i :: ·)
  | _ :: _ => none
theorem toBls_eq : ∀ {ds : List D} {ns : List Bool}, toBls ds = some ns → ds = ns.map D.bl
  | [], ns, e => by cases e; rfl
  | d :: r, ns, e => by
    cases d with
    | bl i =>
      have e : (toBls r).map (i :: ·) = some ns := e
      cases e1 : toBls r with
      | none => rw [e1] at e; cases e
      | some ms =>
        rw [e1] at e
        cases e
        rw [toBls_eq e1]
        rfl
    | _ => cases e
@[simp] theorem toBls_map : ∀ ns : List Bool, toBls (ns.map D.bl) = some ns
  | [] => rfl
  | n :: ns => by
    show (toBls (ns.map D.bl)).map (n :: ·) = _
    rw [toBls_map ns]
    rfl
def lenD : List D → Option D
  | [.lst xs] => some (.int xs.length)
  | [.tup xs] => some (.int xs.length)
  | [.str z] => if z.length ≤ 1000000 then some (.int z.length) else none
  | _ => none
def allD : List D → Option D
  | [.lst xs] => (toBls xs).map fun bs => .bl (bs.all id)
  | _ => none
def anyD : List D → Option D
  | [.lst xs] => (toBls xs).map fun bs => .bl (bs.any id)
  | _ => none
def sumD : List D → Option D
  | [.lst xs] => (toInts xs).map fun ns => .int ns.sum
  | _ => none
def minL : List Int → Int
  | [] => 0
  | x :: xs => xs.foldl min x
def maxL : List Int → Int
  | [] => 0
  | x :: xs => xs.foldl max x
def minD : List D → Option D
  | [.lst xs] => match toInts xs with
    | some (n :: ns) => some (.int (minL (n :: ns)))
    | _ => none
  | [.int i, .int j] => some (.int (min i j))
  | _ => none
def maxD : List D → Option D
  | [.lst xs] => match toInts xs with
    | some (n :: ns) => some (.int (maxL (n :: ns)))
    | _ => none
  | [.int i, .int j] => some (.int (max i j))
  | _ => none
def listD : List D → Option D
  | [.lst xs] => some (.lst xs)
  | [.tup xs] => some (.lst xs)
  | _ => none
theorem foldl_min (xs : List Int) : ∀ x : Int, (xs.foldl min x ≤ x ∧ ∀ y ∈ xs, xs.foldl min x ≤ y) ∧ (xs.foldl min x = x ∨ xs.foldl min x ∈ xs) := by
  induction xs with
  | nil => exact fun x => ⟨⟨Int.le_refl _, fun y hy => nomatch hy⟩, .inl rfl⟩
  | cons z zs ih =>
    intro x
    obtain ⟨⟨h1, h2⟩, h3⟩ := ih (min x z)
    refine ⟨⟨?_, fun y hy => ?_⟩, ?_⟩
    · show zs.foldl min (min x z) ≤ x
      omega
    · show zs.foldl min (min x z) ≤ y
      rcases List.mem_cons.mp hy with e | hy
      · subst e; omega
      · exact h2 y hy
    · show zs.foldl min (min x z) = x ∨ zs.foldl min (min x z) ∈ z :: zs
      rcases h3 with e | e
      · by_cases c : x ≤ z
        · left; omega
        · right; rw [List.mem_cons]; left; omega
      · exact .inr (List.mem_cons_of_mem _ e)
theorem foldl_max (xs : List Int) : ∀ x : Int, (x ≤ xs.foldl max x ∧ ∀ y ∈ xs, y ≤ xs.foldl max x) ∧ (xs.foldl max x = x ∨ xs.foldl max x ∈ xs) := by
  induction xs with
  | nil => exact fun x => ⟨⟨Int.le_refl _, fun y hy => nomatch hy⟩, .inl rfl⟩
  | cons z zs ih =>
    intro x
    obtain ⟨⟨h1, h2⟩, h3⟩ := ih (max x z)
    refine ⟨⟨?_, fun y hy => ?_⟩, ?_⟩
    · show x ≤ zs.foldl max (max x z)
      omega
    · show y ≤ zs.foldl max (max x z)
      rcases List.mem_cons.mp hy with e | hy
      · subst e; omega
      · exact h2 y hy
    · show zs.foldl max (max x z) = x ∨ zs.foldl max (max x z) ∈ z :: zs
      rcases h3 with e | e
      · by_cases c : z ≤ x
        · left; omega
        · right; rw [List.mem_cons]; left; omega
      · exact .inr (List.mem_cons_of_mem _ e)
theorem minL_spec {n : Int} {ns : List Int} : (minL (n :: ns) ∈ n :: ns) ∧ ∀ y ∈ n :: ns, minL (n :: ns) ≤ y := by
  obtain ⟨⟨h1, h2⟩, h3⟩ := foldl_min ns n
  refine ⟨?_, fun y hy => ?_⟩
  · rcases h3 with e | e
    · rw [List.mem_cons]; exact .inl e
    · exact List.mem_cons_of_mem _ e
  · rcases List.mem_cons.mp hy with e | hy
    · subst e; exact h1
    · exact h2 y hy
theorem maxL_spec {n : Int} {ns : List Int} : (maxL (n :: ns) ∈ n :: ns) ∧ ∀ y ∈ n :: ns, y ≤ maxL (n :: ns) := by
  obtain ⟨⟨h1, h2⟩, h3⟩ := foldl_max ns n
  refine ⟨?_, fun y hy => ?_⟩
  · rcases h3 with e | e
    · rw [List.mem_cons]; exact .inl e
    · exact List.mem_cons_of_mem _ e
  · rcases List.mem_cons.mp hy with e | hy
    · subst e; exact h1
    · exact h2 y hy
theorem reps1 {K : PySem.W.Frag} {H : Hp} {vs : List V} {d : D} (r : Reps K H vs [d]) : ∃ v, vs = [v] ∧ Rep K H v d := by
  cases r with
  | cons r t =>
    cases t
    exact ⟨_, rfl, r⟩
theorem reps2 {K : PySem.W.Frag} {H : Hp} {vs : List V} {d e : D} (r : Reps K H vs [d, e]) : ∃ v w, vs = [v, w] ∧ Rep K H v d ∧ Rep K H w e := by
  cases r with
  | cons r t =>
    obtain ⟨w, rfl, h⟩ := reps1 t
    exact ⟨_, w, rfl, r, h⟩
theorem good_len {K : PySem.W.Frag} : GoodN K (fun xs H Q => ∃ x n, xs = [x] ∧ LenV K x H n ∧ Q (.int n) H) lenD := by
  intro H0 H xs as d Q s r e q
  match as, e with
  | [.lst ys], e =>
    obtain ⟨v, rfl, rv⟩ := reps1 r
    cases rv with
    | lst h rr =>
    cases e
    refine ⟨_, ys.length, rfl, .inl ⟨_, Same.seq s h, rr.length.symm⟩, q _ _ _ (Grow.refl s) (.int _)⟩
  | [.tup ys], e =>
    obtain ⟨v, rfl, rv⟩ := reps1 r
    cases rv with
    | tup h rr =>
    cases e
    refine ⟨_, ys.length, rfl, .inr ⟨_, Same.seqT s h, rr.length.symm⟩, q _ _ _ (Grow.refl s) (.int _)⟩
  | [.str z], e =>
    obtain ⟨v, rfl, rv⟩ := reps1 r
    cases rv
    have e : (if z.length ≤ 1000000 then some (D.int z.length) else none) = some d := e
    by_cases c : z.length ≤ 1000000
    · rw [if_pos c] at e
      cases e
      exact ⟨_, z.length, rfl, ⟨sz_le c, rfl⟩, q _ _ _ (Grow.refl s) (.int _)⟩
    · rw [if_neg c] at e
      cases e
theorem good_all {K : PySem.W.Frag} : GoodN K (rAll K) allD := by
  intro H0 H xs as d Q s r e q
  match as, e with
  | [.lst ys], e =>
    obtain ⟨v, rfl, rv⟩ := reps1 r
    cases rv with
    | lst h rr =>
    have e : (toBls ys).map (fun bs => D.bl (bs.all id)) = some d := e
    cases e1 : toBls ys with
    | none => rw [e1] at e; cases e
    | some bs =>
      rw [e1] at e
      cases e
      rw [toBls_eq e1] at rr
      rw [rr.bls] at h
      exact ⟨_, bs, rfl, Same.seq s h, q _ _ _ (Grow.refl s) (.bl _)⟩
theorem good_any {K : PySem.W.Frag} : GoodN K (rAny K) anyD := by
  intro H0 H xs as d Q s r e q
  match as, e with
  | [.lst ys], e =>
    obtain ⟨v, rfl, rv⟩ := reps1 r
    cases rv with
    | lst h rr =>
    have e : (toBls ys).map (fun bs => D.bl (bs.any id)) = some d := e
    cases e1 : toBls ys with
    | none => rw [e1] at e; cases e
    | some bs =>
      rw [e1] at e
      cases e
      rw [toBls_eq e1] at rr
      rw [rr.bls] at h
      exact ⟨_, bs, rfl, Same.seq s h, q _ _ _ (Grow.refl s) (.bl _)⟩
theorem good_sum {K : PySem.W.Frag} : GoodN K (rSum K) sumD := by
  intro H0 H xs as d Q s r e q
  match as, e with
  | [.lst ys], e =>
    obtain ⟨v, rfl, rv⟩ := reps1 r
    cases rv with
    | lst h rr =>
    have e : (toInts ys).map (fun bs => D.int bs.sum) = some d := e
    cases e1 : toInts ys with
    | none => rw [e1] at e; cases e
    | some bs =>
      rw [e1] at e
      cases e
      rw [toInts_eq e1] at rr
      rw [rr.ints] at h
      exact ⟨_, bs, rfl, Same.seq s h, q _ _ _ (Grow.refl s) (.int _)⟩
theorem good_min {K : PySem.W.Frag} : GoodN K (fun xs H Q => rMin K xs H Q ∨ ∃ i j, xs = [.int i, .int j] ∧ Q (.int (if j < i then j else i)) H) minD := by
  intro H0 H xs as d Q s r e q
  match as, e with
  | [.lst ys], e =>
    obtain ⟨v, rfl, rv⟩ := reps1 r
    cases rv with
    | lst h rr =>
    cases e1 : toInts ys with
    | none => simp only [minD, e1] at e; cases e
    | some bs =>
      cases bs with
      | nil => simp only [minD, e1] at e; cases e
      | cons n ns =>
        simp only [minD, e1] at e
        cases e
        rw [toInts_eq e1] at rr
        rw [rr.ints] at h
        refine .inl ⟨_, n :: ns, rfl, Same.seq s h, Nat.succ_pos _, fun m h1 h2 => ?_⟩
        have sp := minL_spec (n := n) (ns := ns)
        have em : m = minL (n :: ns) := Int.le_antisymm (h2 _ sp.1) (sp.2 m h1)
        rw [em]
        exact q _ _ _ (Grow.refl s) (.int _)
  | [.int i, .int j], e =>
    obtain ⟨v, w, rfl, rv, rw'⟩ := reps2 r
    cases rv
    cases rw'
    cases e
    refine .inr ⟨i, j, rfl, ?_⟩
    have em : (if j < i then j else i) = min i j := by
      by_cases c : j < i
      · rw [if_pos c]; omega
      · rw [if_neg c]; omega
    rw [em]
    exact q _ _ _ (Grow.refl s) (.int _)
theorem good_max {K : PySem.W.Frag} : GoodN K (fun xs H Q => rMax K xs H Q ∨ ∃ i j, xs = [.int i, .int j] ∧ Q (.int (if j > i then j else i)) H) maxD := by
  intro H0 H xs as d Q s r e q
  match as, e with
  | [.lst ys], e =>
    obtain ⟨v, rfl, rv⟩ := reps1 r
    cases rv with
    | lst h rr =>
    cases e1 : toInts ys with
    | none => simp only [maxD, e1] at e; cases e
    | some bs =>
      cases bs with
      | nil => simp only [maxD, e1] at e; cases e
      | cons n ns =>
        simp only [maxD, e1] at e
        cases e
        rw [toInts_eq e1] at rr
        rw [rr.ints] at h
        refine .inl ⟨_, n :: ns, rfl, Same.seq s h, Nat.succ_pos _, fun m h1 h2 => ?_⟩
        have sp := maxL_spec (n := n) (ns := ns)
        have em : m = maxL (n :: ns) := Int.le_antisymm (sp.2 m h1) (h2 _ sp.1)
        rw [em]
        exact q _ _ _ (Grow.refl s) (.int _)
  | [.int i, .int j], e =>
    obtain ⟨v, w, rfl, rv, rw'⟩ := reps2 r
    cases rv
    cases rw'
    cases e
    refine .inr ⟨i, j, rfl, ?_⟩
    have em : (if j > i then j else i) = max i j := by
      by_cases c : j > i
      · rw [if_pos c]; omega
      · rw [if_neg c]; omega
    rw [em]
    exact q _ _ _ (Grow.refl s) (.int _)
theorem good_list {K : PySem.W.Frag} : GoodN K (fun xs H Q => ∃ p ys, xs = [.ref p] ∧ (SqL K H p ys ∨ SqT K H p ys) ∧ ∀ l, H l = none → Q (.ref l) (upd H l (.lst ys))) listD := by
  intro H0 H xs as d Q s r e q
  match as, e with
  | [.lst ys], e =>
    obtain ⟨v, rfl, rv⟩ := reps1 r
    cases rv with
    | lst h rr =>
    cases e
    exact ⟨_, _, rfl, .inl (Same.seq s h), fun l hl => q _ _ _ (Grow.new s hl) (.lst (SqL.of upd_same) (rr.mono (Grow.new (o := .lst _) s hl).s0))⟩
  | [.tup ys], e =>
    obtain ⟨v, rfl, rv⟩ := reps1 r
    cases rv with
    | tup h rr =>
    cases e
    exact ⟨_, _, rfl, .inr (Same.seqT s h), fun l hl => q _ _ _ (Grow.new s hl) (.lst (SqL.of upd_same) (rr.mono (Grow.new (o := .lst _) s hl).s0))⟩
section
variable {X : Cx} {W : WX} {e : Expr} {es : List Expr} {pos p : Pos} {fl : Env → Res (List D)}
theorem pd_len (hg : Gl X "len") (hm : X.mg "len" = none) (ha : PA X (e :: es) (tDs X.K W fl)) (he : starEach (e :: es) X.env = (false, eval e X.env) :: starEach es X.env := by rfl) (hpl : (backTo pos (starEach es X.env)).any (·.1) = false := by rfl) :
    PE X (.Call (.Name "len" p) (e :: es) [] pos) (tD X.K W (eFn lenD fl)) := pd_fnB call_len good_len PySem.boot_len hg hm ha (by decide) (by decide) he hpl
theorem pd_all (hc : X.calm = true) (hg : Gl X "all") (hm : X.mg "all" = none) (ha : PA X (e :: es) (tDs X.K W fl)) (he : starEach (e :: es) X.env = (false, eval e X.env) :: starEach es X.env := by rfl) (hpl : (backTo pos (starEach es X.env)).any (·.1) = false := by rfl) :
    PE X (.Call (.Name "all" p) (e :: es) [] pos) (tD X.K W (eFn allD fl)) := pd_fnB (cr_all hc) good_all (by decide +kernel) hg hm ha (by decide) (by decide) he hpl
theorem pd_any (hc : X.calm = true) (hg : Gl X "any") (hm : X.mg "any" = none) (ha : PA X (e :: es) (tDs X.K W fl)) (he : starEach (e :: es) X.env = (false, eval e X.env) :: starEach es X.env := by rfl) (hpl : (backTo pos (starEach es X.env)).any (·.1) = false := by rfl) :
    PE X (.Call (.Name "any" p) (e :: es) [] pos) (tD X.K W (eFn anyD fl)) := pd_fnB (cr_any hc) good_any (by decide +kernel) hg hm ha (by decide) (by decide) he hpl
theorem pd_sum (hc : X.calm = true) (hg : Gl X "sum") (hm : X.mg "sum" = none) (ha : PA X (e :: es) (tDs X.K W fl)) (he : starEach (e :: es) X.env = (false, eval e X.env) :: starEach es X.env := by rfl) (hpl : (backTo pos (starEach es X.env)).any (·.1) = false := by rfl) :
    PE X (.Call (.Name "sum" p) (e :: es) [] pos) (tD X.K W (eFn sumD fl)) := pd_fnB (cr_sum hc) good_sum (by decide +kernel) hg hm ha (by decide) (by decide) he hpl
theorem pd_min (hc : X.calm = true) (hg : Gl X "min") (hm : X.mg "min" = none) (ha : PA X (e :: es) (tDs X.K W fl)) (he : starEach (e :: es) X.env = (false, eval e X.env) :: starEach es X.env := by rfl) (hpl : (backTo pos (starEach es X.env)).any (·.1) = false := by rfl) :
    PE X (.Call (.Name "min" p) (e :: es) [] pos) (tD X.K W (eFn minD fl)) := pd_fnB (CallR.or (cr_min hc) (call_min2 hc)) good_min (by decide +kernel) hg hm ha (by decide) (by decide) he hpl
theorem pd_max (hc : X.calm = true) (hg : Gl X "max") (hm : X.mg "max" = none) (ha : PA X (e :: es) (tDs X.K W fl)) (he : starEach (e :: es) X.env = (false, eval e X.env) :: starEach es X.env := by rfl) (hpl : (backTo pos (starEach es X.env)).any (·.1) = false := by rfl) :
    PE X (.Call (.Name "max" p) (e :: es) [] pos) (tD X.K W (eFn maxD fl)) := pd_fnB (CallR.or (cr_max hc) (call_max2 hc)) good_max (by decide +kernel) hg hm ha (by decide) (by decide) he hpl
theorem pd_list (hg : Gl X "list") (hm : X.mg "list" = none) (ha : PA X (e :: es) (tDs X.K W fl)) (he : starEach (e :: es) X.env = (false, eval e X.env) :: starEach es X.env := by rfl) (hpl : (backTo pos (starEach es X.env)).any (·.1) = false := by rfl) :
    PE X (.Call (.Name "list" p) (e :: es) [] pos) (tD X.K W (eFn listD fl)) := pd_fnT call_list_of good_list (by decide +kernel) hg hm ha (by decide) (by decide) he hpl
end
end Dt
namespace Dt
open PySem PySem.Spec PyProof.Rows L2
/-! ### isinstance -/
/-- what isinstance asks of an own class -/
structure CI (K : PySem.W.Frag) (C : Addr) : Prop where
  cl : Cls K C
  ha : PySem.W.findIn K (.ref C) "__class__" = some (some (.builtin "object.__class__"))
  hn : PySem.W.specialIn K (.builtin "object.__class__") "__get__" = some (some (.builtin "getset_descriptor.__get__"))
  htk : PySem.W.takesIn K (.builtin "object.__class__") = some true
  hm : PySem.W.mroIn K C (.type "object") = some true
def tyD (Cs : List Addr) : D → Option Value
  | .non => some (.type "NoneType") | .bl _ => some (.type "bool") | .int _ => some (.type "int") | .str _ => some (.type "str")
  | .lst _ => some (.type "list") | .tup _ => some (.type "tuple") | .dic => some (.type "dict")
  | .ins C _ => if C ∈ Cs then some (.ref C) else none
  | _ => none
def clsD : D → Option Value
  | .ty n => some (.type n) | .cls a => some (.ref a)
  | _ => none
def isiD (K : PySem.W.Frag) (Cs : List Addr) : List D → Option D
  | [x, c] => match tyD Cs x, clsD c with
    | some t, some u => (PySem.W.kitOne K t u).map .bl
    | _, _ => none
  | _ => none
theorem tyD_ok {K : PySem.W.Frag} {Cs : List Addr} (hC : ∀ C ∈ Cs, CI K C) {H0 H : Hp} {x : V} {d : D} {t : Value} (s : Same H0 H) (r : Rep K H0 x d) (e : tyD Cs d = some t) : TyX K H x t := by
  cases d with
  | non => cases r; cases e; exact .base .non
  | bl b => cases r; cases e; exact .base (.bl b)
  | int b => cases r; cases e; exact .base (.int b)
  | str b => cases r; cases e; exact .base (.str b)
  | lst xs =>
    cases e
    cases r with
    | lst h _ =>
    rcases Same.seq s h with (h | ⟨o, h⟩) | ⟨o, its, n, h1, h2, _⟩
    · exact .base (.lst h)
    · exact .base (.frz h)
    · exact .kList h1 h2
  | tup xs =>
    cases e
    cases r with
    | tup h _ =>
    rcases Same.seqT s h with (h | ⟨o, h⟩) | ⟨o, its, n, h1, h2, _⟩
    · exact .base (.tup h)
    · exact .fTuple h
    · exact .kTuple h1 h2
  | dic =>
    cases e
    cases r with
    | dic h => exact .base (.dK (s _ _ h))
  | ins C fs =>
    have e : (if C ∈ Cs then some (Value.ref C) else none) = some t := e
    by_cases c : C ∈ Cs
    · rw [if_pos c] at e
      cases e
      cases r with
      | ins h _ =>
      have q := hC C c
      exact .base (.ins (s _ _ h) q.cl q.ha q.hn q.htk q.hm)
    · rw [if_neg c] at e
      cases e
  | _ => cases e
theorem clsD_ok {K : PySem.W.Frag} {H0 : Hp} {x : V} {d : D} {u : Value} (r : Rep K H0 x d) (e : clsD d = some u) : ClsV x u := by
  cases d with
  | ty n => cases r; cases e; exact .ty n
  | cls a => cases r; cases e; exact .own a
  | _ => cases e
theorem good_isi {K : PySem.W.Frag} {Cs : List Addr} (hC : ∀ C ∈ Cs, CI K C) : GoodN K (rIsi K) (isiD K Cs) := by
  intro H0 H xs as d Q s r e q
  match as, e with
  | [x, c], e =>
    obtain ⟨v, w, rfl, rv, rw'⟩ := reps2 r
    cases e1 : tyD Cs x with
    | none => simp only [isiD, e1] at e; cases e
    | some t =>
      cases e2 : clsD c with
      | none => simp only [isiD, e1, e2] at e; cases e
      | some u =>
        simp only [isiD, e1, e2] at e
        cases e3 : PySem.W.kitOne K t u with
        | none => rw [e3] at e; cases e
        | some b =>
          rw [e3] at e
          cases e
          exact ⟨v, w, t, u, b, rfl, clsD_ok rw' e2, tyD_ok hC s rv e1, e3, q _ _ _ (Grow.refl s) (.bl _)⟩
theorem pd_isi {X : Cx} {W : WX} {e : Expr} {es : List Expr} {pos p : Pos} {fl : Env → Res (List D)} {Cs : List Addr} (hC : ∀ C ∈ Cs, CI X.K C) (hg : Gl X "isinstance") (hm : X.mg "isinstance" = none) (ha : PA X (e :: es) (tDs X.K W fl)) (he : starEach (e :: es) X.env = (false, eval e X.env) :: starEach es X.env := by rfl) (hpl : (backTo pos (starEach es X.env)).any (·.1) = false := by rfl) :
    PE X (.Call (.Name "isinstance" p) (e :: es) [] pos) (tD X.K W (eFn (isiD X.K Cs) fl)) := pd_fnB call_isi (good_isi hC) (by decide +kernel) hg hm ha (by decide) (by decide) he hpl
/-! ### xs.index(y), ints -/
def indexD : D → List D → Option D
  | .lst xs, [.int i] => match toInts xs with
    | some ns => if i ∈ ns then some (.int (ns.idxOf i)) else none
    | none => none
  | _, _ => none
theorem idxOf_le : ∀ {ns : List Int} {m : Nat} {n : Int}, ns[m]? = some n → ns.idxOf n ≤ m
  | [], m, n, h => by simp at h
  | x :: xs, 0, n, h => by
    simp at h
    subst h
    simp [List.idxOf_cons]
  | x :: xs, m + 1, n, h => by
    have ih := idxOf_le (ns := xs) (m := m) (n := n) (by simpa using h)
    rw [List.idxOf_cons]
    cases (x == n)
    · show xs.idxOf n + 1 ≤ m + 1
      omega
    · exact Nat.zero_le _
theorem good_index {K : PySem.W.Frag} : GoodM K (rIndex K) indexD := by
  intro H0 H x xs a as d Q s rx r e q
  match a, as, e with
  | .lst ys, [.int i], e =>
    obtain ⟨v, rfl, rv⟩ := reps1 r
    cases rv
    cases rx with
    | lst h rr =>
    cases e1 : toInts ys with
    | none => simp only [indexD, e1] at e; cases e
    | some ns =>
      simp only [indexD, e1] at e
      by_cases c : i ∈ ns
      · rw [if_pos c] at e
        cases e
        rw [toInts_eq e1] at rr
        rw [rr.ints] at h
        have hl : ns.idxOf i < ns.length := List.idxOf_lt_length_of_mem c
        refine ⟨_, _, .int i, ns.idxOf i, .int i, rfl, rfl, Same.seq s h, rfl, ?_, ?_, by simp [eqV], fun m z hm hz => ?_, q _ _ _ (Grow.refl s) (.int _)⟩
        · rw [List.all_eq_true]
          intro z hz
          obtain ⟨n, _, rfl⟩ := List.mem_map.mp hz
          rfl
        · rw [List.getElem?_map, List.getElem?_eq_getElem hl]
          simp [List.getElem_idxOf]
        · rw [List.getElem?_map] at hz
          cases en : ns[m]? with
          | none => rw [en] at hz; cases hz
          | some n =>
            rw [en] at hz
            cases hz
            have ne : n ≠ i := fun z => by
              subst z
              have hm2 : m < ns.length := Nat.lt_trans hm hl
              have := idxOf_le en
              omega
            simp [eqV, ne]
      · rw [if_neg c] at e
        cases e
theorem pd_index {X : Cx} {W : WX} {e o : Expr} {es : List Expr} {pos apos : Pos} {fa : Env → Res D} {fl : Env → Res (List D)} (ho : PE X o (tD X.K W fa)) (ha : PA X (e :: es) (tDs X.K W fl))
    (hbase : attributeBase o "index" X.env (eval o X.env) = eval o X.env := by rfl)
    (hfew : ((backTo pos (starEach (e :: es) X.env)).all (fun x => !x.1) && (backToKw pos (keywordEach [] X.env)).all (fun x => x.1.isSome)
      && decide ((e :: es).length + ([] : List Keyword).length + (if ([] : List Keyword).isEmpty then 0 else 1) < 30)) = true := by rfl)
    (hline : (apos.endLine == pos.line) = true := by rfl) (hs : starEach (e :: es) X.env = (false, eval e X.env) :: starEach es X.env := by rfl) (hplain : (backTo pos (starEach es X.env)).any (·.1) = false := by rfl) :
    PE X (.Call (.Attribute o "index" apos) (e :: es) [] pos) (tD X.K W (eMt isLst indexD fa fl)) := pd_mtL PySem.F.slot_list_index PySem.F.type_list_index mt_index good_index ho ha hbase hfew hline hs hplain
end Dt
namespace Dt
open PySem PySem.Spec PyProof.Rows L2
/-! ## targets -/
structure OwnB (B : Addr → Prop) (H : Hp) (σ : L2.St) (env : Env) : Prop where
  l : ∀ (i : Nat) (ds : List D) (p : Addr), env[i]? = some (.ow ds) → σ[i]? = some (some (.ref p)) → B p
  o : ∀ (i : Nat) (C : Addr) (fs : List (Str × List D)) (x C' dx : Addr) (vfs : List (Str × V)) (n : Str) (q : Addr), env[i]? = some (.oi C fs) → σ[i]? = some (some (.ref x)) → H x = some (.ins C' dx vfs) → (n, V.ref q) ∈ vfs → B q
theorem OwnB.set {B : Addr → Prop} {H : Hp} {σ : L2.St} {env : Env} {i : Nat} {v : Option V} {d : D} (o : OwnB B H σ env) : OwnB B H (σ.set i v) (env.set i (.sh d)) := ⟨fun j ds p e1 e2 => by
  rcases set_some e1 with ⟨rfl, z⟩ | ⟨hj, z⟩
  · cases z
  · rw [List.getElem?_set_ne hj] at e2
    exact o.l j ds p z e2, fun j C fs x C' dx vfs n q e1 e2 e3 e4 => by
  rcases set_some e1 with ⟨rfl, z⟩ | ⟨hj, z⟩
  · cases z
  · rw [List.getElem?_set_ne hj] at e2
    exact o.o j C fs x C' dx vfs n q z e2 e3 e4⟩
theorem OwnB.grow {K : PySem.W.Frag} {B : Addr → Prop} {σ : L2.St} {env : Env} {H0 H H' : Hp} (o : OwnB B H σ env) (r : ER K σ H0 H env) (s : Same H H') : OwnB B H' σ env := ⟨o.l, fun i C fs x C' dx vfs n q e1 e2 e3 e4 => by
  obtain ⟨x', dx', vfs', h1, h2, _⟩ := r.oi i C fs e1
  rw [e2] at h1
  cases h1
  have := s _ _ h2
  rw [e3] at this
  cases this
  exact o.o i C fs x C dx vfs n q e1 e2 h2 e4⟩
section
variable {K : PySem.W.Frag} {B : Addr → Prop} {σ : L2.St} {env : Env} {H0 H H' : Hp} {i : Nat} {p : Addr} {vs : List V} {ds es : List D} {d : D}
theorem OwnB.setO (o : OwnB B H σ env) (hp : B p) : OwnB B H (σ.set i (some (.ref p))) (env.set i (.ow ds)) := ⟨fun j fs q e1 e2 => by
  rcases set_some e1 with ⟨rfl, z⟩ | ⟨hj, z⟩
  · rcases set_some e2 with ⟨_, w⟩ | ⟨hi, _⟩
    · cases w
      exact hp
    · exact absurd rfl hi
  · rw [List.getElem?_set_ne hj] at e2
    exact o.l j fs q z e2, fun j C fs x C' dx vfs n q e1 e2 e3 e4 => by
  rcases set_some e1 with ⟨rfl, z⟩ | ⟨hj, z⟩
  · cases z
  · rw [List.getElem?_set_ne hj] at e2
    exact o.o j C fs x C' dx vfs n q z e2 e3 e4⟩
theorem OwnB.frz (o : OwnB B H σ env) : OwnB B H σ (env.set i (.sh d)) := ⟨fun j ds p e1 e2 => by
  rcases set_some e1 with ⟨rfl, z⟩ | ⟨hj, z⟩
  · cases z
  · exact o.l j ds p z e2, fun j C fs x C' dx vfs n q e1 e2 e3 e4 => by
  rcases set_some e1 with ⟨rfl, z⟩ | ⟨hj, z⟩
  · cases z
  · exact o.o j C fs x C' dx vfs n q z e2 e3 e4⟩
theorem OwnB.put (o : OwnB B H σ env) (r : ER K σ H0 H env) (hi : env[i]? = some (.ow es)) (hσ : σ[i]? = some (some (.ref p))) : OwnB B (upd H p (.lst vs)) σ (env.set i (.ow ds)) := ⟨fun j fs q e1 e2 => by
  rcases set_some e1 with ⟨rfl, z⟩ | ⟨hj, z⟩
  · exact o.l i es q hi e2
  · exact o.l j fs q z e2, fun j C fs x C' dx vfs n q e1 e2 e3 e4 => by
  rcases set_some e1 with ⟨rfl, z⟩ | ⟨hj, z⟩
  · cases z
  · obtain ⟨x', dx', vfs', h1, h2, _⟩ := r.oi j C fs z
    rw [e2] at h1
    cases h1
    obtain ⟨p', ws, g1, g2, _⟩ := r.ow i es hi
    rw [hσ] at g1
    cases g1
    have xp : x ≠ p := fun w => by
      rw [w, g2] at h2
      cases h2
    rw [upd_ne xp] at e3
    exact o.o j C fs x C' dx vfs n q z e2 e3 e4⟩
theorem ER.newo (r : ER K σ H0 H env) (s : Same H H') (hp : H p = none) : ∀ (j : Nat) (C : Addr) (fs : List (Str × List D)) (x C' dx : Addr) (vfs : List (Str × V)) (n : Str), env[j]? = some (.oi C fs) → σ[j]? = some (some (.ref x)) → H' x = some (.ins C' dx vfs) → (n, V.ref p) ∉ vfs := fun j C fs x C' dx vfs n e1 e2 e3 e4 => by
  obtain ⟨x', dx', vfs', h1, h2, _, h4, _⟩ := r.oi j C fs e1
  rw [e2] at h1
  cases h1
  have := s _ _ h2
  rw [e3] at this
  cases this
  obtain ⟨⟨ws, h5⟩, _⟩ := h4.mem e4
  rw [hp] at h5
  cases h5
end
theorem wipe_get (σ : L2.St) (j : Nat) : ∀ vs : List Nat, (L2.wipe σ vs)[j]? = if j ∈ vs then (σ[j]?).map (fun _ => none) else σ[j]?
  | [] => by simp [L2.wipe]
  | w :: vs => by
    have ih := wipe_get σ j vs
    show ((L2.wipe σ vs).set w none)[j]? = _
    by_cases e : w = j
    · subst e
      rw [if_pos List.mem_cons_self]
      by_cases hl : w < σ.length
      · rw [List.getElem?_set_self (by rw [L2.wipe_length]; exact hl), List.getElem?_eq_getElem hl]
        rfl
      · rw [List.getElem?_eq_none (by rw [List.length_set, L2.wipe_length]; omega), List.getElem?_eq_none (by omega)]
        rfl
    · rw [List.getElem?_set_ne e, ih]
      by_cases c : j ∈ vs
      · rw [if_pos c, if_pos (List.mem_cons_of_mem _ c)]
      · rw [if_neg c, if_neg (fun z => by
          rcases List.mem_cons.mp z with z | z
          · exact e z.symm
          · exact c z)]
theorem wipe_set {σ : L2.St} {i : Nat} {v : Option V} {vs : List Nat} (h : i ∈ vs) : L2.wipe (σ.set i v) vs = L2.wipe σ vs := by
  apply List.ext_getElem?
  intro j
  rw [wipe_get, wipe_get]
  by_cases c : j ∈ vs
  · rw [if_pos c, if_pos c]
    by_cases e : i = j
    · subst e
      by_cases hl : i < σ.length
      · rw [List.getElem?_set_self hl, List.getElem?_eq_getElem hl]
        rfl
      · rw [List.getElem?_eq_none (by rw [List.length_set]; omega), List.getElem?_eq_none (by omega)]
    · rw [List.getElem?_set_ne e]
  · rw [if_neg c, if_neg c]
    have e : i ≠ j := fun z => c (z ▸ h)
    rw [List.getElem?_set_ne e]
theorem wipe_wipe {σ : L2.St} {vs : List Nat} : L2.wipe (L2.wipe σ vs) vs = L2.wipe σ vs := by
  apply List.ext_getElem?
  intro j
  rw [wipe_get, wipe_get]
  by_cases c : j ∈ vs
  · rw [if_pos c, if_pos c]
    cases σ[j]? <;> rfl
  · rw [if_neg c, if_neg c]
/-- what a target leaves: the slots ts alone are changed -/
structure Tgt (ts : List Nat) (σ σ' : L2.St) (env env' : Env) : Prop where
  wp : ∀ vs : List Nat, (∀ i ∈ ts, i ∈ vs) → L2.wipe σ' vs = L2.wipe σ vs
  ow : ∀ B H, OwnB B H σ env → OwnB B H σ' env'
theorem Tgt.refl {σ : L2.St} {env : Env} : Tgt [] σ σ env env := ⟨fun _ _ => rfl, fun _ _ h => h⟩
theorem Tgt.trans {t u : List Nat} {σ σ1 σ2 : L2.St} {e e1 e2 : Env} (a : Tgt t σ σ1 e e1) (b : Tgt u σ1 σ2 e1 e2) : Tgt (t ++ u) σ σ2 e e2 :=
  ⟨fun vs h => (b.wp vs fun i hi => h i (List.mem_append_right _ hi)).trans (a.wp vs fun i hi => h i (List.mem_append_left _ hi)), fun B H o => b.ow B H (a.ow B H o)⟩
abbrev Bt := D → Env → Res Env
abbrev Bts := List D → Env → Res Env
def bNm (i : Nat) : Bt := fun d env => .ok (env.set i (.sh d))
def bsNil : Bts := fun ds env => match ds with
  | [] => .ok env
  | _ => .no
def bsCons (b : Bt) (r : Bts) : Bts := fun ds env => match ds with
  | d :: ds => (b d env).bind fun e => r ds e
  | [] => .no
def bTup (r : Bts) : Bt := fun d env => match d with
  | .tup ds => r ds env
  | _ => .no
def tG (K : PySem.W.Frag) (ts : List Nat) (b : Bt) : TG := fun v σ H Q => ∃ A env d, ER K σ A H env ∧ Rep K A v d ∧ ∃ env', b d env = .ok env' ∧ ∀ σ', ER K σ' A H env' → Tgt ts σ σ' env env' → Q σ' H
def tGs (K : PySem.W.Frag) (ts : List Nat) (b : Bts) : TGs := fun vs σ H Q => ∃ A env ds, ER K σ A H env ∧ Reps K A vs ds ∧ ∃ env', b ds env = .ok env' ∧ ∀ σ', ER K σ' A H env' → Tgt ts σ σ' env env' → Q σ' H
theorem PG.imp {X : Cx} {e : Expr} {t t' : TG} (h : PG X e t) (i : ∀ v σ H Q, t' v σ H Q → t v σ H Q) : PG X e t' := ⟨fun pins s σ H v u Q I r w => h.run pins s σ H v u Q I r (i v σ H Q w)⟩
theorem PGs.imp {X : Cx} {e : List Expr} {t t' : TGs} (h : PGs X e t) (i : ∀ v σ H Q, t' v σ H Q → t v σ H Q) : PGs X e t' := ⟨fun pins s σ H v u Q I r w => h.run pins s σ H v u Q I r (i v σ H Q w)⟩
section
variable {X : Cx} {pos : Pos} {e : Expr} {es : List Expr} {b : Bt} {r : Bts} {ts us : List Nat}
theorem gd_name {i : Nat} {x : Str} (hN : X.N.Nodup) (hi : X.N[i]? = some x := by rfl) (hx : Loc X.env.scope x := by first | exact Or.inl rfl | exact Or.inr rfl) (hf : X.fn x = true ∨ X.env.scope.names.lookup x = some .local := by first | exact .inl rfl | exact .inr rfl | assumption) : PG X (.Name x pos) (tG X.K [i] (bNm i)) :=
  PG.imp (pg_name hN hi hx hf) fun v σ H Q h => by
    obtain ⟨A, env, d, er, rv, env', e1, k⟩ := h
    cases e1
    exact k _ (er.set rv) ⟨fun vs hv => wipe_set (hv i List.mem_cons_self), fun B H o => o.set⟩
theorem gds_nil : PGs X [] (tGs X.K [] bsNil) := PGs.imp pgs_nil fun v σ H Q h => by
  obtain ⟨A, env, ds, er, rv, env', e1, k⟩ := h
  cases ds with
  | nil =>
    cases rv
    cases e1
    exact ⟨rfl, k _ er Tgt.refl⟩
  | cons d ds => cases e1
theorem gds_cons (h1 : PG X e (tG X.K ts b)) (h2 : PGs X es (tGs X.K us r)) (ha : (assignEach (e :: es) X.env).map (·.2) = assign e X.env :: (assignEach es X.env).map (·.2) := by rfl) : PGs X (e :: es) (tGs X.K (ts ++ us) (bsCons b r)) := PGs.imp (pgs_cons h1 h2 ha) fun v σ H Q h => by
  obtain ⟨A, env, ds, er, rv, env', e1, k⟩ := h
  cases ds with
  | nil => cases e1
  | cons d ds =>
    cases rv with
    | cons rv rt =>
    have e1 : (b d env).bind (fun e => r ds e) = .ok env' := e1
    refine ⟨_, _, rfl, A, env, d, er, rv, ?_⟩
    cases e2 : b d env with
    | no => rw [e2] at e1; cases e1
    | ex C => rw [e2] at e1; cases e1
    | ok env1 =>
      rw [e2] at e1
      exact ⟨env1, rfl, fun σ1 er1 t1 => ⟨A, env1, ds, er1, rt, env', e1, fun σ2 er2 t2 => k σ2 er2 (t1.trans t2)⟩⟩
/-- how many -/
def BtN (n : Nat) (r : Bts) : Prop := ∀ ds env env', r ds env = .ok env' → ds.length = n
theorem btn_nil : BtN 0 bsNil := fun ds env env' h => by
  cases ds with
  | nil => rfl
  | cons d ds => cases h
theorem btn_cons {n : Nat} (h : BtN n r) : BtN (n + 1) (bsCons b r) := fun ds env env' e => by
  cases ds with
  | nil => cases e
  | cons d ds =>
    have e1 : (b d env).bind (fun e => r ds e) = .ok env' := e
    cases e2 : b d env with
    | no => rw [e2] at e1; cases e1
    | ex C => rw [e2] at e1; cases e1
    | ok env1 =>
      rw [e2] at e1
      rw [List.length_cons, h ds env1 env' e1]
theorem gd_tup {k n : Nat} (hc : X.calm = true) (h : PGs X es (tGs X.K ts r)) (hr : BtN n r) (hn : (assignEach es X.env).length = n := by rfl) (hst : (assignEach es X.env).findIdx? (·.1) = none := by rfl) : PG X (.Tuple es k pos) (tG X.K ts (bTup r)) :=
  PG.imp (pg_tup hc h hn hst) fun v σ H Q h => by
    obtain ⟨A, env, d, er, rv, env', e1, k⟩ := h
    cases d with
    | tup ds =>
      cases rv with
      | tup q rr =>
      exact ⟨_, _, rfl, Same.seqT er.sub q, by rw [rr.length]; exact hr _ _ _ e1, A, env, ds, er, rr, env', e1, k⟩
    | _ => cases e1
end
/-! ## what is walked -/
structure Yl (K : PySem.W.Frag) (H0 : Hp) (J : It) (ds : List D) : Prop where
  go : ∀ i A B, Same H0 A → Same A B → i < ds.length → J.go i B
  stop : ∀ A B, Same H0 A → Same A B → J.stop ds.length B
  yld : ∀ i A B x B', Same H0 A → Same A B → i < ds.length → J.yld i B x B' → ∃ d A', ds[i]? = some d ∧ Grow A B A' B' ∧ Rep K A' x d
theorem Yl.mono {K : PySem.W.Frag} {H0 H1 : Hp} {J : It} {ds : List D} (h : Yl K H0 J ds) (s : Same H0 H1) : Yl K H1 J ds :=
  ⟨fun i A B a b => h.go i A B (s.trans a) b, fun A B a b => h.stop A B (s.trans a) b, fun i A B x B' a b => h.yld i A B x B' (s.trans a) b⟩
abbrev tI (K : PySem.W.Frag) (W : WX) (f : Env → Res (List D)) : TI := tR K (fun A (J : It) ds => Yl K A J ds) W f
theorem PI.imp {X : Cx} {tg e : Expr} {t t' : TI} (h : PI X tg e t) (i : ∀ σ H Q, t' σ H Q → t σ H Q) : PI X tg e t' := ⟨fun pins s σ H Q I w => h.run pins s σ H Q I (i σ H Q w)⟩
def toL : D → Res (List D)
  | .lst xs => .ok xs
  | _ => .no
def toT : D → Res (List D)
  | .tup xs => .ok xs
  | _ => .no
def iL (fa : Env → Res D) : Env → Res (List D) := fun env => (fa env).bind toL
def iT (fa : Env → Res D) : Env → Res (List D) := fun env => (fa env).bind toT
def enumFrom : Nat → List D → List D
  | _, [] => []
  | n, d :: ds => .tup [.int (n : Nat), d] :: enumFrom (n + 1) ds
def iE (fl : Env → Res (List D)) : Env → Res (List D) := fun env => (fl env).bind fun as => match as with
  | [.lst xs] => .ok (enumFrom 0 xs)
  | _ => .no
def zipD : List D → List D → List D
  | x :: xs, y :: ys => .tup [x, y] :: zipD xs ys
  | _, _ => []
def iZ (fl : Env → Res (List D)) : Env → Res (List D) := fun env => (fl env).bind fun as => match as with
  | [.lst xs, .lst ys] => .ok (zipD xs ys)
  | _ => .no
def rangeD (lo n : Int) : List D := (List.range (n - lo).toNat).map fun (i : Nat) => .int (lo + i)
def iR1 (fl : Env → Res (List D)) : Env → Res (List D) := fun env => (fl env).bind fun as => match as with
  | [.int n] => if n ≤ 1000000 ∧ -1000000 ≤ n then .ok (rangeD 0 n) else .no
  | _ => .no
def iR2 (fl : Env → Res (List D)) : Env → Res (List D) := fun env => (fl env).bind fun as => match as with
  | [.int lo, .int n] => if (-1000000 ≤ lo ∧ lo ≤ 1000000) ∧ n ≤ 1000000 ∧ -1000000 ≤ n then .ok (rangeD lo n) else .no
  | _ => .no
theorem enumFrom_len : ∀ (n : Nat) (ds : List D), (enumFrom n ds).length = ds.length
  | _, [] => rfl
  | n, d :: ds => by
    show (enumFrom (n + 1) ds).length + 1 = ds.length + 1
    rw [enumFrom_len]
theorem enumFrom_get : ∀ (n : Nat) (ds : List D) (i : Nat), (enumFrom n ds)[i]? = (ds[i]?).map fun d => .tup [.int ((n + i : Nat) : Int), d]
  | _, [], i => by simp [enumFrom]
  | n, d :: ds, 0 => by simp [enumFrom]
  | n, d :: ds, i + 1 => by
    show (enumFrom (n + 1) ds)[i]? = (ds[i]?).map _
    rw [enumFrom_get (n + 1) ds i, show n + 1 + i = n + (i + 1) by omega]
theorem zipD_len : ∀ (xs ys : List D), (zipD xs ys).length = min xs.length ys.length
  | [], ys => by simp [zipD]
  | x :: xs, [] => by simp [zipD]
  | x :: xs, y :: ys => by
    show (zipD xs ys).length + 1 = min (xs.length + 1) (ys.length + 1)
    rw [zipD_len]; omega
theorem zipD_get : ∀ (xs ys : List D) (i : Nat) (x y : D), xs[i]? = some x → ys[i]? = some y → (zipD xs ys)[i]? = some (.tup [x, y])
  | [], ys, i, x, y, h, _ => by simp at h
  | x :: xs, [], i, _, _, _, h => by simp at h
  | x :: xs, y :: ys, 0, a, b, h1, h2 => by
    simp at h1 h2
    subst h1 h2
    rfl
  | x :: xs, y :: ys, i + 1, a, b, h1, h2 => zipD_get xs ys i a b (by simpa using h1) (by simpa using h2)
section
variable {X : Cx} {W : WX} {pos p tpos : Pos} {tg e : Expr} {elts : List Expr} {kk : Nat} {fa : Env → Res D} {fl : Env → Res (List D)}
theorem yl_list {K : PySem.W.Frag} {A : Hp} {a : Addr} {vs : List V} {ds : List D} (h : SqL K A a vs) (r : Reps K A vs ds) : Yl K A (Itl K a) ds := by
  have hl := r.length
  refine ⟨fun i B C s1 s2 hi => ?_, fun B C s1 s2 => ?_, fun i B C x C' s1 s2 hi y => ?_⟩
  · exact walk_list.goes i C (by omega) (Same.seq s2 (Same.seq s1 h))
  · rw [← hl]
    exact walk_list.stops C (Same.seq s2 (Same.seq s1 h))
  · obtain ⟨e1, e2⟩ := walk_list.yields i C x C' (by omega) (Same.seq s2 (Same.seq s1 h)) y
    subst e1
    obtain ⟨d, e3, rd⟩ := r.get' e2
    exact ⟨d, B, e3, Grow.refl s2, rd.mono s1⟩
theorem id_list (h : PE X e (tD X.K W fa)) : PI X tg e (tI X.K W (iL fa)) := PI.imp (pi_list h) fun σ H Q h => by
  obtain ⟨H0, env, er, k⟩ := h
  refine ⟨H0, env, er, Kt.seq er k fun x a A B gr er' rx k' => ?_⟩
  cases a with
  | lst ds =>
    cases rx with
    | lst q r =>
    exact ⟨_, rfl, ⟨_, Same.seq er'.sub q⟩, k' _ A B (Grow.refl er'.sub) (yl_list q r)⟩
  | _ => exact k'.elim
theorem yl_tup {K : PySem.W.Frag} {A : Hp} {a : Addr} {vs : List V} {ds : List D} (h : SqT K A a vs) (r : Reps K A vs ds) : Yl K A (Itt K a) ds := by
  have hl := r.length
  refine ⟨fun i B C s1 s2 hi => ?_, fun B C s1 s2 => ?_, fun i B C x C' s1 s2 hi y => ?_⟩
  · exact walk_tup.goes i C (by omega) (Same.seqT s2 (Same.seqT s1 h))
  · rw [← hl]
    exact walk_tup.stops C (Same.seqT s2 (Same.seqT s1 h))
  · obtain ⟨e1, e2⟩ := walk_tup.yields i C x C' (by omega) (Same.seqT s2 (Same.seqT s1 h)) y
    subst e1
    obtain ⟨d, e3, rd⟩ := r.get' e2
    exact ⟨d, B, e3, Grow.refl s2, rd.mono s1⟩
theorem id_tup (h : PE X e (tD X.K W fa)) : PI X tg e (tI X.K W (iT fa)) := PI.imp (pi_tup h) fun σ H Q h => by
  obtain ⟨H0, env, er, k⟩ := h
  refine ⟨H0, env, er, Kt.seq er k fun x a A B gr er' rx k' => ?_⟩
  cases a with
  | tup ds =>
    cases rx with
    | tup q r =>
    exact ⟨_, rfl, ⟨_, Same.seqT er'.sub q⟩, k' _ A B (Grow.refl er'.sub) (yl_tup q r)⟩
  | _ => exact k'.elim
theorem yl_enum {K : PySem.W.Frag} {A : Hp} {a : Addr} {vs : List V} {ds : List D} (h : SqL K A a vs) (r : Reps K A vs ds) : Yl K A (Ite K a) (enumFrom 0 ds) := by
  have hl := r.length
  refine ⟨fun i B C s1 s2 hi => ?_, fun B C s1 s2 => ?_, fun i B C x C' s1 s2 hi y => ?_⟩
  · rw [enumFrom_len] at hi
    exact walk_enum.goes i C (by omega) (Same.seq s2 (Same.seq s1 h))
  · rw [enumFrom_len, ← hl]
    exact walk_enum.stops C (Same.seq s2 (Same.seq s1 h))
  · rw [enumFrom_len] at hi
    obtain ⟨T, u, v, e1, e2, e3, e4, e5⟩ := walk_enum.yields i C x C' (by omega) (Same.seq s2 (Same.seq s1 h)) y
    subst e1 e3
    cases e4
    obtain ⟨d, e6, rd⟩ := r.get' e5
    refine ⟨.tup [.int (i : Nat), d], upd B T (.tup [.int (i : Nat), v]), ?_, Grow.new s2 e2, .tup (SqT.of upd_same) (.cons (.int _) (.cons ((rd.mono s1).mono (Grow.new (o := .tup _) s2 e2).s0) .nil))⟩
    rw [enumFrom_get, e6, Nat.zero_add]
    rfl
theorem id_enum (hg : Gl X "enumerate") (hm : X.mg "enumerate" = none) (ha : PA X [e] (tDs X.K W fl)) (hs : starEach [e] X.env = [(false, eval e X.env)] := by rfl) : PI X (.Tuple elts kk tpos) (.Call (.Name "enumerate" p) [e] [] pos) (tI X.K W (iE fl)) :=
  PI.imp (pi_enum hg hm ha hs) fun σ H Q h => by
  obtain ⟨H0, env, er, k⟩ := h
  refine ⟨H0, env, er, Kt.seq er k fun x a A B gr er' rx k' => ?_⟩
  match a, k', rx with
  | [.lst ds], k', rx =>
    obtain ⟨v, rfl, rv⟩ := reps1 rx
    cases rv with
    | lst q r =>
    exact ⟨_, _, rfl, Same.seq er'.sub q, k' _ A B (Grow.refl er'.sub) (yl_enum q r)⟩
theorem yl_zip {K : PySem.W.Frag} {A : Hp} {a b : Addr} {vs ws : List V} {ds es : List D} (h : SqL K A a vs) (r : Reps K A vs ds) (h2 : SqL K A b ws) (r2 : Reps K A ws es) : Yl K A (Itz K a b) (zipD ds es) := by
  have hl := r.length
  have hl2 := r2.length
  have w := walk_zip (K := K) (a := a) (b := b) (xs := vs) (ys := ws) rfl
  refine ⟨fun i B C s1 s2 hi => ?_, fun B C s1 s2 => ?_, fun i B C x C' s1 s2 hi y => ?_⟩
  · rw [zipD_len] at hi
    exact w.goes i C (by omega) ⟨Same.seq s2 (Same.seq s1 h), Same.seq s2 (Same.seq s1 h2)⟩
  · rw [zipD_len, ← hl, ← hl2]
    exact w.stops C ⟨Same.seq s2 (Same.seq s1 h), Same.seq s2 (Same.seq s1 h2)⟩
  · rw [zipD_len] at hi
    obtain ⟨T, u, v, e1, e2, e3, e4, e5⟩ := w.yields i C x C' (by omega) ⟨Same.seq s2 (Same.seq s1 h), Same.seq s2 (Same.seq s1 h2)⟩ y
    subst e1 e3
    obtain ⟨d, e6, rd⟩ := r.get' e4
    obtain ⟨d2, e7, rd2⟩ := r2.get' e5
    have s3 := (Grow.new (o := .tup [u, v]) s2 e2).s0
    exact ⟨.tup [d, d2], upd B T (.tup [u, v]), zipD_get _ _ _ _ _ e6 e7, Grow.new s2 e2, .tup (SqT.of upd_same) (.cons ((rd.mono s1).mono s3) (.cons ((rd2.mono s1).mono s3) .nil))⟩
theorem id_zip {e2 : Expr} (hg : Gl X "zip") (hm : X.mg "zip" = none) (ha : PA X [e, e2] (tDs X.K W fl)) (hs : starEach [e, e2] X.env = (false, eval e X.env) :: starEach [e2] X.env := by rfl) (hpl : (backTo pos (starEach [e2] X.env)).any (·.1) = false := by rfl) :
    PI X (.Tuple elts kk tpos) (.Call (.Name "zip" p) [e, e2] [] pos) (tI X.K W (iZ fl)) :=
  PI.imp (pi_zip hg hm ha hs hpl) fun σ H Q h => by
  obtain ⟨H0, env, er, k⟩ := h
  refine ⟨H0, env, er, Kt.seq er k fun x a A B gr er' rx k' => ?_⟩
  match a, k', rx with
  | [.lst ds, .lst es], k', rx =>
    obtain ⟨v, w, rfl, rv, rw'⟩ := reps2 rx
    cases rv with
    | lst q r =>
    cases rw' with
    | lst q2 r2 =>
    exact ⟨_, _, _, _, rfl, Same.seq er'.sub q, Same.seq er'.sub q2, k' _ A B (Grow.refl er'.sub) (yl_zip q r q2 r2)⟩
theorem yl_range {K : PySem.W.Frag} {A : Hp} {lo n : Int} : Yl K A (Itr lo (n - lo).toNat) (rangeD lo n) := by
  have hl : (rangeD lo n).length = (n - lo).toNat := by
    unfold rangeD
    rw [List.length_map, List.length_range]
  refine ⟨fun i B C s1 s2 hi => ?_, fun B C s1 s2 => ?_, fun i B C x C' s1 s2 hi y => ?_⟩
  · rw [hl] at hi
    exact hi
  · rw [hl]
    exact Nat.le_refl _
  · rw [hl] at hi
    obtain ⟨e1, e2⟩ := y
    subst e1 e2
    refine ⟨.int (lo + i), B, ?_, Grow.refl s2, .int _⟩
    unfold rangeD
    rw [List.getElem?_map, List.getElem?_range hi]
    rfl
theorem id_range1 (hg : Gl X "range") (hm : X.mg "range" = none) (ha : PA X [e] (tDs X.K W fl)) (hs : starEach [e] X.env = [(false, eval e X.env)] := by rfl) : PI X tg (.Call (.Name "range" p) [e] [] pos) (tI X.K W (iR1 fl)) :=
  PI.imp (pi_range1 hg hm ha hs) fun σ H Q h => by
  obtain ⟨H0, env, er, k⟩ := h
  refine ⟨H0, env, er, Kt.seq er k fun x a A B gr er' rx k' => ?_⟩
  match a, k', rx with
  | [.int n], k', r =>
    obtain ⟨v, rfl, rv⟩ := reps1 r
    cases rv
    have k : Kt (fun A (J : It) ds => Yl X.K A J ds) W σ A B (if n ≤ 1000000 ∧ -1000000 ≤ n then .ok (rangeD 0 n) else .no) Q := k'
    by_cases c : n ≤ 1000000 ∧ -1000000 ≤ n
    · rw [if_pos c] at k
      refine ⟨n, rfl, by omega, by omega, ?_⟩
      have z := yl_range (K := X.K) (A := A) (lo := 0) (n := n)
      rw [Int.sub_zero] at z
      exact k _ A B (Grow.refl er'.sub) z
    · rw [if_neg c] at k
      exact k.elim
theorem id_range2 {e2 : Expr} (hg : Gl X "range") (hm : X.mg "range" = none) (ha : PA X [e, e2] (tDs X.K W fl)) (hs : starEach [e, e2] X.env = [(false, eval e X.env), (false, eval e2 X.env)] := by rfl) (hs2 : starEach [e2] X.env = [(false, eval e2 X.env)] := by rfl) : PI X tg (.Call (.Name "range" p) [e, e2] [] pos) (tI X.K W (iR2 fl)) :=
  PI.imp (pi_range2 hg hm ha hs hs2) fun σ H Q h => by
  obtain ⟨H0, env, er, k⟩ := h
  refine ⟨H0, env, er, Kt.seq er k fun x a A B gr er' rx k' => ?_⟩
  match a, k', rx with
  | [.int lo, .int n], k', r =>
    obtain ⟨v, w, rfl, rv, rw'⟩ := reps2 r
    cases rv
    cases rw'
    have k : Kt (fun A (J : It) ds => Yl X.K A J ds) W σ A B (if (-1000000 ≤ lo ∧ lo ≤ 1000000) ∧ n ≤ 1000000 ∧ -1000000 ≤ n then .ok (rangeD lo n) else .no) Q := k'
    by_cases c : (-1000000 ≤ lo ∧ lo ≤ 1000000) ∧ n ≤ 1000000 ∧ -1000000 ≤ n
    · rw [if_pos c] at k
      exact ⟨lo, n, rfl, by omega, k _ A B (Grow.refl er'.sub) yl_range⟩
    · rw [if_neg c] at k
      exact k.elim
end
/-! ## list comprehensions -/
def bYes : Env → Res Bool := fun _ => .ok true
def compS (bt : Bt) (ft : Env → Res Bool) (fe : Env → Res D) (env : Env) : List D → Res (List D)
  | [] => .ok []
  | d :: ds => (bt d env).bind fun env1 => (ft env1).bind fun b => if b = true then (fe env1).bind fun y => (compS bt ft fe env ds).bind fun r => .ok (y :: r) else compS bt ft fe env ds
def eLC (vs : List Nat) (bt : Bt) (ft : Env → Res Bool) (fe : Env → Res D) (fi : Env → Res (List D)) : Env → Res D := fun env => (fi env).bind fun ds => if ds.length ≤ 1000000 then (match compS bt ft fe (wipeE env vs) ds with
  | .ok r => .ok (.lst r)
  | _ => .no) else .no
abbrev W0 : WX := fun _ _ _ _ => False
theorem Grow.put {H0 H A B : Hp} {p : Addr} {o : HO} (g : Grow H0 H A B) (hp : H p = none) (ha : A p = none) : Grow H0 H A (upd B p o) where
  s0 := g.s0
  s := fun b x e => by
    rw [upd_ne (ne_of_none e hp)]
    exact g.s b x e
  sub := fun b x e => by
    rw [upd_ne (ne_of_none e ha)]
    exact g.sub b x e
  fr := g.fr
theorem Grow.know {H0 H A B : Hp} {p : Addr} {o : HO} (g : Grow H0 H A B) (hp : H p = none) (ha : A p = none) (hb : B p = some o) : Grow H0 H (upd A p o) B where
  s0 := g.s0.trans (Same.new ha)
  s := g.s
  sub := fun b x e => by
    by_cases hq : b = p
    · subst hq
      rw [upd_same] at e
      cases e
      exact hb
    · rw [upd_ne hq] at e
      exact g.sub b x e
  fr := fun q hq e => by
    have ne : q ≠ p := fun z => hq (by rw [z]; exact hp)
    rw [upd_ne ne]
    exact g.fr q hq e
theorem t_lc {K : PySem.W.Frag} {W : WX} {σ : L2.St} {H : Hp} {Q : VK} {vs ts : List Nat} {bt : Bt} {ft : Env → Res Bool} {fe : Env → Res D} {fi : Env → Res (List D)} (hts : ∀ i ∈ ts, i ∈ vs) (h : tD K W (eLC vs bt ft fe fi) σ H Q) :
    tLc (tI K W fi) (tG K ts bt) (tDB K W0 ft) (tD K W0 fe) vs σ H Q := by
  obtain ⟨H0, env, er, k⟩ := h
  refine ⟨H0, env, er, Kt.seq er k fun J ds A B gr er' yl k' => ?_⟩
  intro P hP
  by_cases hlen : ds.length ≤ 1000000
  · rw [if_pos hlen] at k'
    cases e : compS bt ft fe (wipeE env vs) ds with
    | no => rw [e] at k'; exact k'.elim
    | ex C => rw [e] at k'; exact k'.elim
    | ok tot =>
      rw [e] at k'
      have hA : A P = none := Same.free er'.sub hP
      refine ⟨fun i m H' => m = ds.length - i ∧ i ≤ ds.length ∧ ∃ A' acc ys rest, Grow A B A' H' ∧ H' P = some (.lst acc) ∧ A' P = none ∧ Reps K A' acc ys ∧ compS bt ft fe (wipeE env vs) (ds.drop i) = .ok rest ∧ ys ++ rest = tot ∧ ys.length ≤ i,
        ⟨ds.length, rfl, Nat.zero_le _, A, [], [], tot, (Grow.refl er'.sub).put hP hA, upd_same, hA, .nil, e, rfl, Nat.le_refl _⟩, ?_⟩
      rintro i m H' ⟨rfl, hi, A', acc, ys, rest, g, hp, ha, ra, hc, ht, hy⟩
      by_cases hlt : i < ds.length
      · refine .inr ⟨yl.go i A' H' g.s0 g.sub hlt, _, fun H'' p => ⟨ds.length - (i + 1), by omega, rfl, hlt, p⟩, fun x H'' yd => ?_⟩
        obtain ⟨d, A2, hd, g2, rx⟩ := yl.yld i A' H' x H'' g.s0 g.sub hlt yd
        have ed : ds.drop i = d :: ds.drop (i + 1) := by
          rw [List.drop_eq_getElem_cons hlt]
          rw [List.getElem?_eq_getElem hlt] at hd
          cases hd
          rfl
        rw [ed] at hc
        have hc : (bt d (wipeE env vs)).bind (fun env1 => (ft env1).bind fun b => if b = true then (fe env1).bind fun y => (compS bt ft fe (wipeE env vs) (ds.drop (i + 1))).bind fun r => .ok (y :: r) else compS bt ft fe (wipeE env vs) (ds.drop (i + 1))) = .ok rest := hc
        cases e1 : bt d (wipeE env vs) with
        | no => rw [e1] at hc; cases hc
        | ex C => rw [e1] at hc; cases hc
        | ok env1 =>
          rw [e1] at hc
          have hc : (ft env1).bind (fun b => if b = true then (fe env1).bind fun y => (compS bt ft fe (wipeE env vs) (ds.drop (i + 1))).bind fun r => .ok (y :: r) else compS bt ft fe (wipeE env vs) (ds.drop (i + 1))) = .ok rest := hc
          have hp2 : H'' P = some (.lst acc) := g2.s _ _ hp
          have ha2 : A2 P = none := g2.fr P (by rw [hp]; exact fun z => nomatch z) ha
          refine ⟨A2, wipeE env vs, d, ER.wipe (er'.grow (g.trans g2)) vs, rx, env1, e1, fun σ2 er2 tg => ⟨?_, ?_⟩⟩
          · rw [tg.wp vs hts, wipe_wipe]
          · refine ⟨A2, env1, er2, ?_⟩
            cases e2 : ft env1 with
            | no => rw [e2] at hc; cases hc
            | ex C => rw [e2] at hc; cases hc
            | ok b =>
              rw [e2] at hc
              intro b' A3 H3 g3 eb
              cases (show b' = b from eb)
              have hp3 : H3 P = some (.lst acc) := g3.s _ _ hp2
              have ha3 : A3 P = none := g3.fr P (by rw [hp2]; exact fun z => nomatch z) ha2
              have g13 : Grow A B A3 H3 := (g.trans g2).trans g3
              cases b with
              | false =>
                refine iteF ⟨A3, acc, ys, rest, g13, hp3, ha3, (ra.mono g2.s0).mono g3.s0, hc, ht, Nat.le_succ_of_le hy⟩
              | true =>
                refine iteT ⟨A3, env1, er2.grow g3, ?_⟩
                have hc : (fe env1).bind (fun y => (compS bt ft fe (wipeE env vs) (ds.drop (i + 1))).bind fun r => .ok (y :: r)) = .ok rest := hc
                cases e3 : fe env1 with
                | no => rw [e3] at hc; cases hc
                | ex C => rw [e3] at hc; cases hc
                | ok y =>
                  rw [e3] at hc
                  intro v A4 H4 g4 rv
                  have hp4 : H4 P = some (.lst acc) := g4.s _ _ hp3
                  have ha4 : A4 P = none := g4.fr P (by rw [hp3]; exact fun z => nomatch z) ha3
                  cases e4 : compS bt ft fe (wipeE env vs) (ds.drop (i + 1)) with
                  | no => simp only [e4, Res.bind_ok, Res.bind_no] at hc; cases hc
                  | ex C => simp only [e4, Res.bind_ok, Res.bind_ex] at hc; cases hc
                  | ok rest' =>
                    simp only [e4, Res.bind_ok] at hc
                    cases hc
                    have r4 := ((ra.mono g2.s0).mono g3.s0).mono g4.s0
                    refine ⟨acc, hp4, ?_, A4, acc ++ [v], ys ++ [y], rest', ((g13.trans g4).put hP ha4), upd_same, ha4, r4.append (.cons rv .nil), rfl, ?_, ?_⟩
                    · rw [ra.length]
                      exact sz_lt (by omega)
                    · rw [List.append_assoc]
                      exact ht
                    · rw [List.length_append]
                      exact Nat.succ_le_succ hy
      · have ei : i = ds.length := by omega
        subst ei
        refine .inl ⟨yl.stop A' H' g.s0 g.sub, ?_⟩
        rw [List.drop_length] at hc
        cases hc
        rw [List.append_nil] at ht
        subst ht
        exact k' _ (upd A' P (.lst acc)) H' (g.know hP ha hp) (.lst (SqL.of upd_same) (ra.mono (Same.new ha)))
  · rw [if_neg hlen] at k'
    exact k'.elim
section
variable {X : Cx} {W : WX} {elt tg iter : Expr} {ifs : List Expr} {scope : Scope} {own : List (Str × Nat)} {pos : Pos} {bt : Bt} {ft : Env → Res Bool} {fe : Env → Res D} {fi : Env → Res (List D)} {ts : List Nat}
theorem ptsd_nil {X : Cx} {W : WX} : PTs X [] (tDB X.K W bYes) := ⟨fun pins s σ H Q I h => pts_nil.run pins s σ H Q I (by
  obtain ⟨H0, env, er, k⟩ := h
  exact k true H0 H (Grow.refl er.sub) rfl)⟩
theorem ptsd_one {X : Cx} {W : WX} {c : Expr} {fc : Env → Res Bool} (h : PT X c (tDB X.K W fc)) : PTs X [c] (tDB X.K W fc) := pts_one h
theorem pd_lc (hc : X.calm = true) (hN : X.N.Nodup) (hi : PI X tg iter (tI X.K W fi)) (ok : BlkOk X.N X.env.scope scope own) (hts : ∀ i ∈ ts, i ∈ own.map (·.2))
    (hg : ∀ (s : Shared) (H : Hp) (C : Addr) (cl : List (Str × Addr)) (fp : List Addr), PG (X.blk s H scope (compEnvC scope cl C X.env) fp) tg (tG X.K ts bt)) (ht : ∀ (s : Shared) (H : Hp) (C : Addr) (cl : List (Str × Addr)) (fp : List Addr), PTs (X.blk s H scope (compEnvC scope cl C X.env) fp) ifs (tDB X.K W0 ft))
    (he : ∀ (s : Shared) (H : Hp) (C : Addr) (cl : List (Str × Addr)) (fp : List Addr), PE (X.blk s H scope (compEnvC scope cl C X.env) fp) elt (tD X.K W0 fe)) (hs : ∀ x, foldedSetIterable iter X.env x = pure x := by intro _; rfl) :
    PE X (.ListComp elt [⟨tg, iter, ifs, 0⟩] scope pos) (tD X.K W (eLC (own.map (·.2)) bt ft fe fi)) := PE.imp (pe_lc hc hN hi ok hg ht he hs) fun _ _ _ h => t_lc hts h
end
/-! ## calls of defs -/
def spD (K : PySem.W.Frag) (n : Nat) (φ : List D → Res D) : Sp := fun vs H Q E => ∃ H0 ds, Same H0 H ∧ Reps K H0 vs ds ∧ ds.length = n ∧ Kt (rD K) (fun c d _ H => E c d H) [] H0 H (φ ds) Q
theorem spD_len {K : PySem.W.Frag} {n : Nat} {φ : List D → Res D} {ps : List Str} (h : ps.length = n) : ∀ vs H Q E, spD K n φ vs H Q E → vs.length = ps.length := fun vs H Q E ⟨H0, ds, _, r, l, _⟩ => by
  rw [r.length, l, h]
/-- a promise told by another function of the data -/
theorem spD_imp {K : PySem.W.Frag} {n : Nat} {φ ψ : List D → Res D} (h : ∀ ds, ψ ds = φ ds ∨ ψ ds = .no) : ∀ vs H Q E, spD K n ψ vs H Q E → spD K n φ vs H Q E := fun vs H Q E ⟨H0, ds, s, r, l, k⟩ => ⟨H0, ds, s, r, l, by
  rcases h ds with e | e
  · rw [← e]; exact k
  · rw [e] at k; exact k.elim⟩
theorem t_call {K : PySem.W.Frag} {W : WX} {σ : L2.St} {H : Hp} {Q : VK} {n : Nat} {φ : List D → Res D} {fl : Env → Res (List D)} (hn : ∀ env ds, fl env = .ok ds → ds.length = n) (h : tD K W (eCall φ fl) σ H Q) : tCallS (spD K n φ) (WE W) (tDs K W fl) σ H Q := by
  obtain ⟨H0, env, er, k⟩ := h
  refine ⟨H0, env, er, ?_⟩
  have hl := hn env
  unfold eCall at k
  cases e : fl env with
  | no => rw [e] at k; exact k
  | ex C => rw [e] at k; exact k
  | ok ds =>
    rw [e] at k
    intro xs A B g r
    refine ⟨A, ds, g.sub, r, hl ds e, ?_⟩
    have k2 := Kt.shift g k
    cases e2 : φ ds with
    | no => rw [Res.bind_ok, e2] at k2; exact k2
    | ex C => rw [Res.bind_ok, e2] at k2; exact k2
    | ok d => rw [Res.bind_ok, e2] at k2; exact k2
def ArgE (n : Nat) (f : Env → Res (List D)) : Prop := ∀ env ds, f env = .ok ds → ds.length = n
theorem arge_nil : ArgE 0 aNil := fun env ds h => by
  cases h
  rfl
theorem arge_cons {n : Nat} {fa : Env → Res D} {fl : Env → Res (List D)} (h : ArgE n fl) : ArgE (n + 1) (aCons fa fl) := fun env ds e => by
  unfold aCons at e
  cases e1 : fa env with
  | no => rw [e1] at e; cases e
  | ex C => rw [e1] at e; cases e
  | ok a =>
    rw [e1] at e
    cases e2 : fl env with
    | no => rw [e2] at e; cases e
    | ex C => rw [e2] at e; cases e
    | ok r =>
      rw [e2] at e
      cases e
      rw [List.length_cons, h env r e2]
theorem ArgE.le {n : Nat} {f : Env → Res (List D)} (h : ArgE n f) : ArgN n f := fun env ds e => Nat.le_of_eq (h env ds e)
section
variable {X : Cx} {W : WX} {k n : Nat} {f : Addr} {fd : FuncData} {ps : List Str} {φ : List D → Res D} {x : Str} {p pos : Pos} {e : Expr} {es : List Expr} {fl : Env → Res (List D)}
theorem pd_call (F : FnOk X.prog X.w X.K X.mg X.base (L2.CX X.prog X.w) k f fd ps (spD X.K n φ)) (hr : Room k X.A) (tk : Takes X W) (hg : Gl X x) (hm : X.mg x = some (.ref f)) (hk : PySem.W.keepIn X.K (.ref f) = true) (hb : Binds X.K fd ps [])
    (ha : PA X (e :: es) (tDs X.K W fl)) (hn : ArgE n fl) (hdb : (x == ("__debug__" : Str)) = false := by decide) (he : starEach (e :: es) X.env = (false, eval e X.env) :: starEach es X.env := by rfl) (hpl : (backTo pos (starEach es X.env)).any (·.1) = false := by rfl) :
    PE X (.Call (.Name x p) (e :: es) [] pos) (tD X.K W (eCall φ fl)) := PE.imp (pe_callS F hr hg hm hk hb (fun σ => passAt tk σ) ha hdb he hpl) fun _ _ _ h => t_call hn h
end
end Dt
namespace Dt
open PySem PySem.Spec PyProof.Rows L2
/-! ## statements -/
inductive Fl where
  | nx (e : Env) | rt (d : D) | bk (e : Env) | ct (e : Env)
/-- what holds of the known part and the heap all along; P: of one's own addresses -/
structure Gd (G : Hp → Hp → Prop) (P : Addr → Prop) : Prop where
  grow : ∀ {A H A' H'}, G A H → Grow A H A' H' → G A' H'
  put : ∀ {A H p o}, G A H → A p = none → P p → G A (upd H p o)
  know : ∀ {A H p o}, G A H → A p = none → H p = some o → P p → G (upd A p o) H
  fresh : ∀ {A H p}, G A H → H p = none → P p
structure Stt (K : PySem.W.Frag) (G : Hp → Hp → Prop) (P : Addr → Prop) (σ : L2.St) (A H : Hp) (env : Env) : Prop where
  er : ER K σ A H env
  ow : OwnB P H σ env
  g : G A H
def KS (K : PySem.W.Frag) (W : WX) (G : Hp → Hp → Prop) (P : Addr → Prop) (Dd : Ends) : Res Fl → Prop
  | .no => False
  | .ex C => ∀ σ A H, G A H → W (.ref C) none σ H
  | .ok (.nx env) => ∀ σ A H, Stt K G P σ A H env → Dd.nx σ H
  | .ok (.bk env) => ∀ σ A H, Stt K G P σ A H env → Dd.bk σ H
  | .ok (.ct env) => ∀ σ A H, Stt K G P σ A H env → Dd.ct σ H
  | .ok (.rt d) => ∀ v A H, G A H → Rep K A v d → Dd.rt v H
def tS (K : PySem.W.Frag) (W : WX) (G : Hp → Hp → Prop) (P : Addr → Prop) (g : Env → Res Fl) : TS := fun Dd σ H => ∃ A env, Stt K G P σ A H env ∧ KS K W G P Dd (g env)
def sNil : Env → Res Fl := fun env => .ok (.nx env)
def sSeq (g1 g2 : Env → Res Fl) : Env → Res Fl := fun env => match g1 env with
  | .ok (.nx e) => g2 e
  | r => r
def bOk {α : Type} (r : Res Env) (k : Env → Res α) : Res α := match r with
  | .ok e => k e
  | _ => .no
@[simp] theorem bOk_ok {α : Type} (e : Env) (k : Env → Res α) : bOk (.ok e) k = k e := rfl
def sAsg (fa : Env → Res D) (bt : Bt) : Env → Res Fl := fun env => (fa env).bind fun d => bOk (bt d env) fun e => .ok (.nx e)
def sPar (i j : Nat) (fl : Env → Res (List D)) : Env → Res Fl := fun env => (fl env).bind fun ds => match ds with
  | [a, b] => .ok (.nx ((env.set i (.sh a)).set j (.sh b)))
  | _ => .no
def sRet (fa : Env → Res D) : Env → Res Fl := fun env => (fa env).bind fun d => .ok (.rt d)
def sRetN : Env → Res Fl := fun _ => .ok (.rt .non)
def sDrop (fa : Env → Res D) : Env → Res Fl := fun env => (fa env).bind fun _ => .ok (.nx env)
def sIf (fc : Env → Res Bool) (g1 g2 : Env → Res Fl) : Env → Res Fl := fun env => (fc env).bind fun c => if c = true then g1 env else g2 env
def sNever : Env → Res Fl := fun _ => .no
def sRaise (C : Addr) : Env → Res Fl := fun _ => .ex C
def forS (bt : Bt) (gb : Env → Res Fl) : List D → Env → Res Fl
  | [], env => .ok (.nx env)
  | d :: ds, env => bOk (bt d env) fun e => match gb e with
    | .ok (.nx e2) => forS bt gb ds e2
    | .ok (.ct e2) => forS bt gb ds e2
    | .ok (.bk e2) => .ok (.nx e2)
    | r => r
def sFor (fi : Env → Res (List D)) (bt : Bt) (gb : Env → Res Fl) : Env → Res Fl := fun env => (fi env).bind fun ds => forS bt gb ds env
def whileS (ft : Env → Res Bool) (gb : Env → Res Fl) : Nat → Env → Res Fl
  | 0, _ => .no
  | n + 1, env => (ft env).bind fun b => if b = true then (match gb env with
    | .ok (.nx e2) => whileS ft gb n e2
    | .ok (.ct e2) => whileS ft gb n e2
    | .ok (.bk e2) => .ok (.nx e2)
    | r => r) else .ok (.nx env)
def sWhile (nf : Env → Nat) (ft : Env → Res Bool) (gb : Env → Res Fl) : Env → Res Fl := fun env => whileS ft gb (nf env) env
section
variable {K : PySem.W.Frag} {W : WX} {G : Hp → Hp → Prop} {P : Addr → Prop} {σ : L2.St} {A H A' H' : Hp} {env : Env} {fa : Env → Res D} {Dd : Ends}
theorem Stt.grow (gd : Gd G P) (s : Stt K G P σ A H env) (g : Grow A H A' H') : Stt K G P σ A' H' env := ⟨s.er.grow g, s.ow.grow s.er g.s, gd.grow s.g g⟩
/-- an expression within a statement -/
theorem ks_seq {α β : Type} {R : Hp → β → α → Prop} {f : Env → Res α} {r : α → Res Fl} {Q : β → Hp → Prop} (gd : Gd G P) (s : Stt K G P σ A H env) (k : KS K W G P Dd ((f env).bind r))
    (h : ∀ x a A' H', Stt K G P σ A' H' env → R A' x a → KS K W G P Dd (r a) → Q x H') : tR K R W f σ H Q := by
  refine ⟨A, env, s.er, ?_⟩
  cases e : f env with
  | no => rw [e] at k; exact k
  | ex C =>
    rw [e] at k
    exact fun A' H' g => k σ A' H' (gd.grow s.g g)
  | ok a =>
    rw [e] at k
    exact fun x A' H' g q => h x a A' H' (s.grow gd g) q k
end
section
variable {X : Cx} {W : WX} {G : Hp → Hp → Prop} {P : Addr → Prop} {st : Stmt} {rest body : List Stmt} {g1 g2 gb : Env → Res Fl} {e a b c tg iter : Expr} {pos pos' px py pt : Pos} {fa : Env → Res D} {fc : Env → Res Bool} {fl fi : Env → Res (List D)} {bt : Bt} {ts : List Nat}
theorem sd_nil : PSs X [] (tS X.K W G P sNil) := PSs.imp pss_nil fun Dd σ H h => by
  obtain ⟨A, env, s, k⟩ := h
  exact k σ A H s
theorem sd_one (h : PS X st (tS X.K W G P g1)) : PSs X [st] (tS X.K W G P g1) := pss_one h
theorem sd_cons (h1 : PS X st (tS X.K W G P g1)) (h2 : PSs X rest (tS X.K W G P g2)) : PSs X (st :: rest) (tS X.K W G P (sSeq g1 g2)) := PSs.imp (pss_cons h1 h2) fun Dd σ H h => by
  obtain ⟨A, env, s, k⟩ := h
  refine ⟨A, env, s, ?_⟩
  unfold sSeq at k
  cases e : g1 env with
  | no => rw [e] at k; exact k
  | ex C => rw [e] at k; exact k
  | ok f =>
    rw [e] at k
    cases f with
    | nx e2 => exact fun σ' A' H' s' => ⟨A', e2, s', k⟩
    | rt d => exact k
    | bk e2 => exact k
    | ct e2 => exact k
theorem sd_asg (gd : Gd G P) (he : PE X e (tD X.K W fa)) (hg : PG X tg (tG X.K ts bt)) (hs : swapsWithSole [tg] e pos.line X.env = pure false := by rfl) (hw : swappedStores [tg] e X.env = pure none := by rfl)
    (h1 : (assignEach [tg] X.env).map (·.2) = [assign tg X.env] := by rfl) : PS X (.Assign [tg] e pos) (tS X.K W G P (sAsg fa bt)) := PS.imp (ps_asg he hg hs hw h1) fun Dd σ H h => by
  obtain ⟨A, env, s, k⟩ := h
  refine ks_seq gd s k fun x d A' H' s' rx k' => ⟨A', env, d, s'.er, rx, ?_⟩
  cases e1 : bt d env with
  | no => rw [e1] at k'; exact k'.elim
  | ex C => rw [e1] at k'; exact k'.elim
  | ok env' =>
    rw [e1] at k'
    exact ⟨env', rfl, fun σ' er tgt => k' σ' A' H' ⟨er, tgt.ow P _ s'.ow, s'.g⟩⟩
theorem gn_imp {K : PySem.W.Frag} {i : Nat} {te : TE} {Dd : Ends} {σ : L2.St} {H : Hp} (gd : Gd G P) (ht : ∀ σ H Q, tD K W fa σ H Q → te σ H Q) (h : tS K W G P (sAsg fa (bNm i)) Dd σ H) : tAsg te (gName i) Dd σ H := by
  obtain ⟨A, env, s, k⟩ := h
  exact ht _ _ _ (ks_seq gd s k fun x d A' H' s' rx k' => k' (σ.set i (some x)) A' H' ⟨s'.er.set rx, s'.ow.set, s'.g⟩)
/-- name = e -/
theorem sd_set (gd : Gd G P) {i : Nat} {x : Str} {pos' : Pos} (hN : X.N.Nodup) (he : PE X e (tD X.K W fa)) (hi : X.N[i]? = some x := by rfl) (hx : Loc X.env.scope x := by first | exact Or.inl rfl | exact Or.inr rfl) (hs : swapsWith e (some (.Name x pos')) pos.line X.env = pure false := by rfl) (hf : X.fn x = true ∨ X.env.scope.names.lookup x = some .local := by first | exact .inl rfl | exact .inr rfl | assumption) :
    PS X (.Assign [.Name x pos'] e pos) (tS X.K W G P (sAsg fa (bNm i))) := PS.imp (ps_set hN hi hx he hs hf) fun Dd σ H h => gn_imp gd (fun _ _ _ h => h) h
/-- name = [..] on one line -/
theorem sd_setLc (gd : Gd G P) {i : Nat} {y : Str} {py : Pos} {elt tg iter : Expr} {ifs : List Expr} {scope : Scope} {own : List (Str × Nat)} {pos spos : Pos} {ft : Env → Res Bool} {fe : Env → Res D} (hc : X.calm = true) (hN : X.N.Nodup) (hi : PI X tg iter (tI X.K W fi)) (ok : BlkOk X.N X.env.scope scope own) (hts : ∀ i ∈ ts, i ∈ own.map (·.2))
    (hg : ∀ (s : Shared) (H : Hp) (C : Addr) (cl : List (Str × Addr)) (fp : List Addr), PG (X.blk s H scope (compEnvC scope cl C X.env) fp) tg (tG X.K ts bt)) (ht : ∀ (s : Shared) (H : Hp) (C : Addr) (cl : List (Str × Addr)) (fp : List Addr), PTs (X.blk s H scope (compEnvC scope cl C X.env) fp) ifs (tDB X.K W0 ft))
    (he : ∀ (s : Shared) (H : Hp) (C : Addr) (cl : List (Str × Addr)) (fp : List Addr), PE (X.blk s H scope (compEnvC scope cl C X.env) fp) elt (tD X.K W0 fe))
    (hy : X.N[i]? = some y := by rfl) (hyl : X.env.scope.names.lookup y = some .local := by rfl)
    (hsw : swapsWith (.ListComp elt [⟨tg, iter, ifs, 0⟩] scope pos) (some (.Name y py)) spos.line X.env = pure true := by exact sw_true rfl rfl rfl (by decide +kernel)) (hs : ∀ x, foldedSetIterable iter X.env x = pure x := by intro _; rfl) :
    PS X (.Assign [.Name y py] (.ListComp elt [⟨tg, iter, ifs, 0⟩] scope pos) spos) (tS X.K W G P (sAsg (eLC (own.map (·.2)) bt ft fe fi) (bNm i))) := PS.imp (ps_setLc hc hN hy hyl hsw hi ok hg ht he hs) fun Dd σ H h => gn_imp gd (fun _ _ _ h => t_lc hts h) h
/-- a, b = e1, e2 -/
theorem sd_par (gd : Gd G P) {i j : Nat} {x y : Str} {kt k2 pt2} (hc : X.calm = true) (hN : X.N.Nodup) (ha : PA X [a, b] (tDs X.K W fl)) (hi : X.N[i]? = some x := by rfl) (hj : X.N[j]? = some y := by rfl) (hij : i ≠ j := by decide)
    (hx : X.env.scope.names.lookup x = some .local := by rfl) (hy : X.env.scope.names.lookup y = some .local := by rfl)
    (hw : swappedStores [.Tuple [.Name x px, .Name y py] kt pt] (.Tuple [a, b] k2 pt2) X.env = pure (some [x, y]) := by rfl)
    (hs : swapsWithSole [.Tuple [.Name x px, .Name y py] kt pt] (.Tuple [a, b] k2 pt2) pos.line X.env = pure false := by rfl) :
    PS X (.Assign [.Tuple [.Name x px, .Name y py] kt pt] (.Tuple [a, b] k2 pt2) pos) (tS X.K W G P (sPar i j fl)) := PS.imp (ps_par hc hN hi hj hij hx hy ha hw hs) fun Dd σ H h => by
  obtain ⟨A, env, s, k⟩ := h
  refine ks_seq gd s k fun vs ds A' H' s' r k' => ?_
  match ds, k', r with
  | [d1, d2], k', r =>
    obtain ⟨v, w, rfl, rv, rw'⟩ := reps2 r
    exact ⟨v, w, rfl, k' _ A' H' ⟨(s'.er.set rv).set rw', s'.ow.set.set, s'.g⟩⟩
theorem sd_ret (gd : Gd G P) (he : PE X e (tD X.K W fa)) : PS X (.Return (some e) pos) (tS X.K W G P (sRet fa)) := PS.imp (ps_ret he) fun Dd σ H h => by
  obtain ⟨A, env, s, k⟩ := h
  exact ks_seq gd s k fun x d A' H' s' r k' => k' x A' H' s'.g r
theorem sd_retN (gd : Gd G P) : PS X (.Return none pos) (tS X.K W G P sRetN) := PS.imp ps_retN fun Dd σ H h => by
  obtain ⟨A, env, s, k⟩ := h
  exact k .non A H s.g .non
theorem sd_drop (gd : Gd G P) (he : PE X e (tD X.K W fa)) (hs : swapsWith e none pos.line X.env = pure false := by rfl) : PS X (.Expr e pos) (tS X.K W G P (sDrop fa)) := PS.imp (ps_expr he hs) fun Dd σ H h => by
  obtain ⟨A, env, s, k⟩ := h
  exact ks_seq gd s k fun x d A' H' s' r k' => k' σ A' H' s'
theorem sd_doc {x : Str} {j : Nat} : PS X (.Expr (.Constant (.str x) j pos) pos') (tS X.K W G P sNil) := PS.imp ps_doc fun Dd σ H h => by
  obtain ⟨A, env, s, k⟩ := h
  exact k σ A H s
theorem sd_pass : PS X (.Pass pos) (tS X.K W G P sNil) := PS.imp ps_pass fun Dd σ H h => by
  obtain ⟨A, env, s, k⟩ := h
  exact k σ A H s
theorem sd_if (gd : Gd G P) {c : Expr} {p q : List Stmt} (hc : PT X c (tDB X.K W fc)) (ha : PSs X p (tS X.K W G P g1)) (hb : PSs X q (tS X.K W G P g2)) : PS X (.If c p q pos) (tS X.K W G P (sIf fc g1 g2)) := PS.imp (ps_if hc ha hb) fun Dd σ H h => by
  obtain ⟨A, env, s, k⟩ := h
  refine ks_seq gd s k fun x d A' H' s' r k' => ?_
  cases (show x = d from r)
  cases x with
  | true => exact iteT ⟨A', env, s', k'⟩
  | false => exact iteF ⟨A', env, s', k'⟩
theorem sd_never : PS X st (tS X.K W G P sNever) := PS.imp ps_never fun Dd σ H h => by
  obtain ⟨A, env, s, k⟩ := h
  exact k
theorem sd_raise (hc : X.calm = true) (tk : Takes X W) {C : Addr} {e : Expr} (hm : PMk X e (fun _ H Q => Q (.ref C) none H)) : PS X (.Raise (some e) none pos) (tS X.K W G P (sRaise C)) := PS.imp (ps_raise hc tk hm) fun Dd σ H h => by
  obtain ⟨A, env, s, k⟩ := h
  exact k σ A H s.g
/-- the same with one thing more said of the known part -/
theorem Gd.since (gd : Gd G P) (A0 : Hp) : Gd (fun A H => G A H ∧ Same A0 A) P where
  grow := fun h g => ⟨gd.grow h.1 g, h.2.trans g.s0⟩
  put := fun h ha hp => ⟨gd.put h.1 ha hp, h.2⟩
  know := fun h ha hb hp => ⟨gd.know h.1 ha hb hp, h.2.trans (Same.new ha)⟩
  fresh := fun h hp => gd.fresh h.1 hp
theorem sd_for (gd : Gd G P) (hp : PassesOwn (model X.prog X.w) X.A X.env X.xe) (hc : X.calm = true) (hi : PI X tg iter (tI X.K W fi)) (hg : PG X tg (tG X.K ts bt)) (hb : ∀ G', Gd G' P → PSs X body (tS X.K W G' P gb))
    (hs : ∀ x, foldedSetIterable iter X.env x = pure x := by intro _; rfl) : PS X (.For tg iter body [] pos) (tS X.K W G P (sFor fi bt gb)) := by
  refine ⟨fun pins s σ H Dd I h => ?_⟩
  obtain ⟨A, env, s0, k⟩ := h
  -- the known part at the walk's begin is not told yet: the body's reading says ∃ A0
  have body' : PSs X body (fun Dd σ H => ∃ A0, tS X.K W (fun A H => G A H ∧ Same A0 A) P gb Dd σ H) := ⟨fun pins s σ H Dd I h => by
    obtain ⟨A0, h⟩ := h
    exact (hb _ (gd.since A0)).run pins s σ H Dd I h⟩
  refine (ps_for hp hc hi hg body' hs).run pins s σ H Dd I ?_
  refine ks_seq gd s0 k fun J ds A1 H1 s1 yl k' => ?_
  refine ⟨fun i m σ H => m = ds.length - i ∧ i ≤ ds.length ∧ ∃ A env, Stt X.K (fun A H => G A H ∧ Same A1 A) P σ A H env ∧ KS X.K W G P Dd (forS bt gb (ds.drop i) env), ⟨ds.length, rfl, Nat.zero_le _, A1, env, ⟨s1.er, s1.ow, s1.g, Same.refl _⟩, k'⟩, ?_⟩
  rintro i m σ2 H2 ⟨rfl, hle, A2, env2, s2, k2⟩
  by_cases hlt : i < ds.length
  · refine .inr ⟨yl.go i A2 H2 s2.g.2 s2.er.sub hlt, fun σ' H' => ∃ A env, Stt X.K (fun A H => G A H ∧ Same A1 A) P σ' A H' env ∧ KS X.K W G P Dd (forS bt gb (ds.drop (i + 1)) env), fun σ' H' n => ⟨ds.length - (i + 1), by omega, rfl, hlt, n⟩, fun x H3 yd => ?_⟩
    obtain ⟨d, A3, hd, g3, rx⟩ := yl.yld i A2 H2 x H3 s2.g.2 s2.er.sub hlt yd
    have s3 := s2.grow (gd.since A1) g3
    have ed : ds.drop i = d :: ds.drop (i + 1) := by
      rw [List.drop_eq_getElem_cons hlt]
      rw [List.getElem?_eq_getElem hlt] at hd
      cases hd
      rfl
    rw [ed] at k2
    refine ⟨A3, env2, d, s3.er, rx, ?_⟩
    unfold forS at k2
    cases e1 : bt d env2 with
    | no => rw [e1] at k2; exact k2.elim
    | ex C => rw [e1] at k2; exact k2.elim
    | ok env3 =>
      rw [e1, bOk_ok] at k2
      refine ⟨env3, rfl, fun σ3 er3 tgt => ⟨A1, A3, env3, ⟨er3, tgt.ow P _ s3.ow, s3.g⟩, ?_⟩⟩
      cases e2 : gb env3 with
      | no => rw [e2] at k2; exact k2
      | ex C => rw [e2] at k2; exact fun σ A H g => k2 σ A H g.1
      | ok f =>
        rw [e2] at k2
        cases f with
        | nx e4 => exact fun σ A H s => ⟨A, e4, s, k2⟩
        | ct e4 => exact fun σ A H s => ⟨A, e4, s, k2⟩
        | bk e4 => exact fun σ A H s => k2 σ A H ⟨s.er, s.ow, s.g.1⟩
        | rt d => exact fun v A H g r => k2 v A H g.1 r
  · have ei : i = ds.length := by omega
    subst ei
    rw [List.drop_length] at k2
    exact .inl ⟨yl.stop A2 H2 s2.g.2 s2.er.sub, k2 σ2 A2 H2 ⟨s2.er, s2.ow, s2.g.1⟩⟩
theorem sd_while (gd : Gd G P) {c : Expr} (nf : Env → Nat) (hp : PassesOwn (model X.prog X.w) X.A X.env X.xe) (hc : PT X c (tDB X.K W fc)) (hb : PSs X body (tS X.K W G P gb)) : PS X (.While c body [] pos) (tS X.K W G P (sWhile nf fc gb)) := PS.imp (ps_while hp hc hb) fun Dd σ H h => by
  obtain ⟨A, env, s, k⟩ := h
  refine ⟨fun m σ H => ∃ A env, Stt X.K G P σ A H env ∧ KS X.K W G P Dd (whileS fc gb m env), ⟨nf env, A, env, s, k⟩, ?_⟩
  rintro m σ1 H1 ⟨A1, env1, s1, k1⟩
  cases m with
  | zero => exact k1.elim
  | succ m =>
    refine ks_seq gd s1 k1 fun x d A' H' s' r k' => ?_
    cases (show x = d from r)
    cases x with
    | false => exact iteF (k' σ1 A' H' s')
    | true =>
      have k' : KS X.K W G P Dd (match gb env1 with
        | .ok (.nx e2) => whileS fc gb m e2
        | .ok (.ct e2) => whileS fc gb m e2
        | .ok (.bk e2) => .ok (.nx e2)
        | r => r) := k'
      refine iteT ⟨fun σ H => ∃ A env, Stt X.K G P σ A H env ∧ KS X.K W G P Dd (whileS fc gb m env), fun σ' H' h => ⟨m, Nat.lt_succ_self m, h⟩, A', env1, s', ?_⟩
      cases e2 : gb env1 with
      | no => rw [e2] at k'; exact k'
      | ex C => rw [e2] at k'; exact k'
      | ok f =>
        rw [e2] at k'
        cases f with
        | nx e4 => exact fun σ A H s => ⟨A, e4, s, k'⟩
        | ct e4 => exact fun σ A H s => ⟨A, e4, s, k'⟩
        | bk e4 => exact k'
        | rt d => exact k'
/-! ### lists of one's own -/
def frz (i : Nat) (env : Env) : Env := match env[i]? with
  | some (.ow ds) => env.set i (.sh (.lst ds))
  | _ => env
theorem stt_frz {K : PySem.W.Frag} {σ : L2.St} {A H : Hp} {env : Env} (gd : Gd G P) (i : Nat) (s : Stt K G P σ A H env) : ∃ A', Stt K G P σ A' H (frz i env) := by
  unfold frz
  cases e : env[i]? with
  | none => exact ⟨A, s⟩
  | some sl =>
    cases sl with
    | no => exact ⟨A, s⟩
    | sh d => exact ⟨A, s⟩
    | oi C fs => exact ⟨A, s⟩
    | ow ds =>
      obtain ⟨p, vs, h1, h2, h3, h4, h5⟩ := s.er.freeze e
      exact ⟨_, h5, s.ow.frz, gd.know s.g h2 h1 (s.ow.l i ds p e h3)⟩
theorem sd_frz (gd : Gd G P) (i : Nat) (h : PSs X rest (tS X.K W G P g1)) : PSs X rest (tS X.K W G P fun env => g1 (frz i env)) := PSs.imp h fun Dd σ H h => by
  obtain ⟨A, env, s, k⟩ := h
  obtain ⟨A', s'⟩ := stt_frz gd i s
  exact ⟨A', _, s', k⟩
theorem sd_frz1 (gd : Gd G P) (i : Nat) (h : PS X st (tS X.K W G P g1)) : PS X st (tS X.K W G P fun env => g1 (frz i env)) := PS.imp h fun Dd σ H h => by
  obtain ⟨A, env, s, k⟩ := h
  obtain ⟨A', s'⟩ := stt_frz gd i s
  exact ⟨A', _, s', k⟩
/-- name = a written list: one's own -/
def sAsgO (i : Nat) (fl : Env → Res (List D)) : Env → Res Fl := fun env => (fl env).bind fun ds => .ok (.nx (env.set i (.ow ds)))
theorem stt_new {K : PySem.W.Frag} {σ : L2.St} {A H : Hp} {env : Env} {i : Nat} {p : Addr} {vs : List V} {ds : List D} (gd : Gd G P) (s : Stt K G P σ A H env) (hp : H p = none) (r : Reps K A vs ds) : Stt K G P (σ.set i (some (.ref p))) A (upd H p (.lst vs)) (env.set i (.ow ds)) := by
  have hA : A p = none := Same.free s.er.sub hp
  have g : Grow A H A (upd H p (.lst vs)) := (Grow.refl s.er.sub).put hp hA
  refine ⟨(s.er.grow g).setO upd_same hA r (fun j es e z => ?_) (s.er.newo g.s hp), (s.ow.grow s.er g.s).setO (gd.fresh s.g hp), gd.grow s.g g⟩
  obtain ⟨q, ws, h1, h2, _⟩ := s.er.ow j es e
  rw [z] at h1
  cases h1
  rw [hp] at h2
  cases h2
theorem sd_setO (gd : Gd G P) {i n : Nat} {x : Str} {es : List Expr} {pos' lpos : Pos} (hN : X.N.Nodup) (ha : PA X es (tDs X.K W fl)) (hn : ArgN n fl) (hz : n ≤ sizeLine := by decide) (hi : X.N[i]? = some x := by rfl) (hx : Loc X.env.scope x := by first | exact Or.inl rfl | exact Or.inr rfl) (hs : swapsWith (.List es lpos) (some (.Name x pos')) pos.line X.env = pure false := by rfl) (hf : X.fn x = true ∨ X.env.scope.names.lookup x = some .local := by first | exact .inl rfl | exact .inr rfl | assumption) :
    PS X (.Assign [.Name x pos'] (.List es lpos) pos) (tS X.K W G P (sAsgO i fl)) := PS.imp (ps_set hN hi hx (pe_lst ha) hs hf) fun Dd σ H h => by
  obtain ⟨A, env, s, k⟩ := h
  have hl := hn env
  refine ⟨A, env, s.er, ?_⟩
  unfold sAsgO at k
  cases e : fl env with
  | no => rw [e] at k; exact k
  | ex C => rw [e] at k; exact fun A' H' g => k σ A' H' (gd.grow s.g g)
  | ok ds =>
    rw [e] at k
    intro xs A' H' g r
    refine ⟨by rw [r.length]; exact Nat.le_trans (hl ds e) hz, fun p hp => ?_⟩
    exact k _ A' _ (stt_new gd (s.grow gd g) hp r)
/-- a, b = [..], [..]: two of one's own -/
def sParO (i j : Nat) (f1 f2 : Env → Res (List D)) : Env → Res Fl := fun env => (f1 env).bind fun a => (f2 env).bind fun b => .ok (.nx ((env.set i (.ow a)).set j (.ow b)))
theorem sd_parO (gd : Gd G P) {i j n m : Nat} {x y : Str} {es fs : List Expr} {p1 p2 : Pos} {f1 f2 : Env → Res (List D)} {kt k2 pt2} (hc : X.calm = true) (hN : X.N.Nodup) (ha : PA X es (tDs X.K W f1)) (hb : PA X fs (tDs X.K W f2)) (hn : ArgN n f1) (hm : ArgN m f2) (hz : n ≤ sizeLine := by decide) (hz2 : m ≤ sizeLine := by decide)
    (hi : X.N[i]? = some x := by rfl) (hj : X.N[j]? = some y := by rfl) (hij : i ≠ j := by decide)
    (hx : X.env.scope.names.lookup x = some .local := by rfl) (hy : X.env.scope.names.lookup y = some .local := by rfl)
    (he : starEach [.List es p1, .List fs p2] X.env = (false, eval (.List es p1) X.env) :: starEach [.List fs p2] X.env := by rfl) (he2 : starEach [.List fs p2] X.env = (false, eval (.List fs p2) X.env) :: starEach [] X.env := by rfl)
    (hw : swappedStores [.Tuple [.Name x px, .Name y py] kt pt] (.Tuple [.List es p1, .List fs p2] k2 pt2) X.env = pure (some [x, y]) := by rfl)
    (hs : swapsWithSole [.Tuple [.Name x px, .Name y py] kt pt] (.Tuple [.List es p1, .List fs p2] k2 pt2) pos.line X.env = pure false := by rfl) :
    PS X (.Assign [.Tuple [.Name x px, .Name y py] kt pt] (.Tuple [.List es p1, .List fs p2] k2 pt2) pos) (tS X.K W G P (sParO i j f1 f2)) :=
  PS.imp (ps_par hc hN hi hj hij hx hy (pa_cons (pe_lst ha) (pa_cons (pe_lst hb) pa_nil he2) he) hw hs) fun Dd σ H h => by
  obtain ⟨A, env, s, k⟩ := h
  have hl1 := hn env
  have hl2 := hm env
  refine ⟨A, env, s.er, ?_⟩
  unfold sParO at k
  cases e1 : f1 env with
  | no => rw [e1] at k; exact k
  | ex C => rw [e1] at k; exact fun A' H' g => k σ A' H' (gd.grow s.g g)
  | ok a =>
    rw [e1, Res.bind_ok] at k
    intro xs A' H' g r
    refine ⟨by rw [r.length]; exact Nat.le_trans (hl1 a e1) hz, fun p hp => ?_⟩
    have s1 := s.grow gd g
    have hA : A' p = none := Same.free s1.er.sub hp
    have gp : Grow A' H' A' (upd H' p (.lst xs)) := (Grow.refl s1.er.sub).put hp hA
    have s2 := s1.grow gd gp
    refine ⟨A', env, s2.er, ?_⟩
    cases e2 : f2 env with
    | no => rw [e2] at k; exact k
    | ex C => rw [e2] at k; exact fun A' H' g => k σ A' H' (gd.grow s2.g g)
    | ok b =>
      rw [e2, Res.bind_ok] at k
      intro ys A3 H3 g3 r3
      refine ⟨by rw [r3.length]; exact Nat.le_trans (hl2 b e2) hz2, fun q hq => ⟨_, _, rfl, ?_⟩⟩
      have s3 := s2.grow gd g3
      have hp3 : H3 p = some (.lst xs) := g3.s _ _ upd_same
      have ha3 : A3 p = none := g3.fr p (by rw [upd_same]; exact fun z => nomatch z) hA
      have pne : p ≠ q := ne_of_none hp3 hq
      have st4 : Stt X.K G P (σ.set i (some (.ref p))) A3 H3 (env.set i (.ow a)) := by
        refine ⟨s3.er.setO hp3 ha3 (r.mono (gp.trans g3).s0) (fun j es e z => ?_) (s1.er.newo (gp.trans g3).s hp), s3.ow.setO (gd.fresh s1.g hp), s3.g⟩
        obtain ⟨q', ws, h1, h2, h3, _⟩ := s1.er.ow j es e
        rw [z] at h1
        cases h1
        rw [hp] at h2
        cases h2
      exact k _ A3 _ (stt_new gd st4 hq r3)
/-- xs.append(e), xs one's own -/
def sApp (i : Nat) (fa : Env → Res D) : Env → Res Fl := fun env => match env[i]? with
  | some (.ow ds) => if ds.length < 1000000 then (fa env).bind fun d => .ok (.nx (env.set i (.ow (ds ++ [d])))) else .no
  | _ => .no
theorem sd_app (gd : Gd G P) (i : Nat) {x : Str} {xp apos cpos : Pos} (he : PE X e (tD X.K W fa)) (hi : X.N[i]? = some x := by rfl) (hv : Vis X.env.scope x := by first | exact Or.inl rfl | exact Or.inr (Or.inl rfl) | exact Or.inr (Or.inr rfl))
    (hse : starEach [e] X.env = (false, eval e X.env) :: starEach [] X.env := by rfl)
    (hbase : attributeBase (.Name x xp) "append" X.env (eval (.Name x xp) X.env) = eval (.Name x xp) X.env := by rfl)
    (hfew : ((backTo cpos (starEach [e] X.env)).all (fun x => !x.1) && (backToKw cpos (keywordEach [] X.env)).all (fun x => x.1.isSome)
      && decide (([e] : List Expr).length + ([] : List Keyword).length + (if ([] : List Keyword).isEmpty then 0 else 1) < 30)) = true := by rfl)
    (hline : (apos.endLine == cpos.line) = true := by rfl) (hplain : (backTo cpos (starEach ([] : List Expr) X.env)).any (·.1) = false := by rfl)
    (hsw : swapsWith (.Call (.Attribute (.Name x xp) "append" apos) [e] [] cpos) none pos.line X.env = pure false := by rfl)
    (hd : (x == ("__debug__" : Str)) = false := by decide) (hcd : (x == ("__classdict__" : Str)) = false := by decide) :
    PS X (.Expr (.Call (.Attribute (.Name x xp) "append" apos) [e] [] cpos) pos) (tS X.K W G P (sApp i fa)) :=
  PS.imp (ps_expr (pe_bm PySem.F.plainAttrs_list PySem.F.slot_list_append PySem.F.type_list_append mt_append (pe_var hi hv hd hcd) (pa_cons he pa_nil hse) hbase hfew hline hse hplain) hsw) fun Dd σ H h => by
  obtain ⟨A, env, s, k⟩ := h
  unfold sApp at k
  cases e1 : env[i]? with
  | none => rw [e1] at k; exact k.elim
  | some sl =>
    cases sl with
    | no => rw [e1] at k; exact k.elim
    | sh d => rw [e1] at k; exact k.elim
    | oi C fs => rw [e1] at k; exact k.elim
    | ow ds =>
      rw [e1] at k
      have k : KS X.K W G P Dd (if ds.length < 1000000 then (fa env).bind fun d => .ok (.nx (env.set i (.ow (ds ++ [d])))) else .no) := k
      by_cases hl : ds.length < 1000000
      · rw [if_pos hl] at k
        obtain ⟨p, vs, h1, h2, h3, h4⟩ := s.er.ow i ds e1
        refine ⟨.ref p, h1, .inl ⟨rfl, vs, SqL.of h2⟩, ?_⟩
        refine ks_seq (Q := fun x H' => ∃ l xs y, V.ref p = .ref l ∧ [x] = [y] ∧ H' l = some (.lst xs) ∧ xs.length < sizeLine ∧ Dd.nx σ (upd H' l (.lst (xs ++ [y])))) gd s k fun x d A' H' s' r k' => ?_
        obtain ⟨q, ws, g1, g2, g3, g4⟩ := s'.er.ow i ds e1
        rw [h1] at g1
        cases g1
        refine ⟨p, ws, x, rfl, rfl, g2, by rw [g4.length]; exact sz_lt hl, k' σ A' _ ⟨s'.er.put e1 h1 (g4.append (.cons r .nil)), s'.ow.put s'.er e1 h1, gd.put s'.g g3 (s'.ow.l i ds p e1 h1)⟩⟩
      · rw [if_neg hl] at k
        exact k.elim
/-! ### one's own list as a value that is only looked at -/
def viewS : Sl → Sl
  | .ow ds => .sh (.lst ds)
  | .oi C fs => .sh (.ins C (fs.map fun f => (f.1, .lst f.2)))
  | s => s
def view (env : Env) : Env := env.map viewS
def isSc : D → Bool
  | .non => true | .bl _ => true | .int _ => true | .str _ => true
  | _ => false
def eView (fa : Env → Res D) : Env → Res D := fun env => match fa (view env) with
  | .ok d => if isSc d = true then .ok d else .no
  | _ => .no
/-- what is one's own -/
def OwnP (H : Hp) (σ : L2.St) (env : Env) (a : Addr) : Prop := (∃ (i : Nat) (ds : List D), env[i]? = some (Sl.ow ds) ∧ σ[i]? = some (some (V.ref a))) ∨
  (∃ (i : Nat) (C : Addr) (fs : List (Str × List D)), env[i]? = some (Sl.oi C fs) ∧ ∃ x dx vfs, σ[i]? = some (some (V.ref x)) ∧ H x = some (.ins C dx vfs) ∧ (a = x ∨ ∃ n, (n, V.ref a) ∈ vfs))
theorem OwnP.no {K : PySem.W.Frag} {σ : L2.St} {A H : Hp} {env : Env} (r : ER K σ A H env) {a : Addr} (h : OwnP H σ env a) : A a = none := by
  rcases h with ⟨i, ds, h1, h2⟩ | ⟨i, C, fs, h1, x, dx, vfs, h2, h3, h4⟩
  · obtain ⟨p, vs, g1, g2, g3, g4⟩ := r.ow i ds h1
    rw [h2] at g1
    cases g1
    exact g3
  · obtain ⟨x', dx', vfs', g1, g2, g3, g4, _⟩ := r.oi i C fs h1
    rw [h2] at g1
    cases g1
    rw [h3] at g2
    cases g2
    rcases h4 with rfl | ⟨n, h4⟩
    · exact g3
    · exact (g4.mem h4).2
theorem RepL.repf {K : PySem.W.Frag} {A A' H : Hp} {vs : List (Str × V)} {fs : List (Str × List D)} (r : RepL K A H vs fs) (s : Same A A') (k : ∀ n q, (n, V.ref q) ∈ vs → A' q = H q) : Repf K A' vs (fs.map fun f => (f.1, .lst f.2)) := by
  induction r with
  | nil => exact .nil
  | cons h1 h2 h3 h4 _ ih => exact .cons (.lst (SqL.of ((k _ _ List.mem_cons_self).trans h1)) (h3.mono s)) (ih fun n q hq => k n q (List.mem_cons_of_mem _ hq))
theorem view_er {K : PySem.W.Frag} {σ : L2.St} {A H : Hp} {env : Env} (r : ER K σ A H env) : ∃ A', Same A A' ∧ ER K σ A' H (view env) := by
  classical
  have sm : Same A (fun a => if OwnP H σ env a then H a else A a) := fun a o e => by
    by_cases c : OwnP H σ env a
    · rw [c.no r] at e
      cases e
    · show (if _ then _ else _) = _
      rw [if_neg c]
      exact e
  refine ⟨fun a => if OwnP H σ env a then H a else A a, sm, ?_⟩
  have old : ∀ (i : Nat) (s : Sl), (view env)[i]? = some s → ∃ t, env[i]? = some t ∧ s = viewS t := fun i s e => by
    unfold view at e
    rw [List.getElem?_map] at e
    cases h : env[i]? with
    | none => rw [h] at e; cases e
    | some t =>
      rw [h] at e
      cases e
      exact ⟨t, rfl, rfl⟩
  refine ⟨fun a o e => ?_, by unfold view; rw [List.length_map, r.len], fun i d e => ?_, fun i ds e => ?_, fun i j ds es p e1 e2 => ?_, fun i C fs e => ?_, fun i j C C' fs fs' e => ?_⟩
  · by_cases c : OwnP H σ env a
    · simp only [if_pos c] at e
      exact e
    · simp only [if_neg c] at e
      exact r.sub a o e
  · obtain ⟨t, h1, h2⟩ := old i _ e
    cases t with
    | no => cases h2
    | sh d' =>
      cases h2
      obtain ⟨v, g1, g2⟩ := r.sh i _ h1
      exact ⟨v, g1, g2.mono sm⟩
    | ow ds =>
      cases h2
      obtain ⟨p, vs, g1, g2, g3, g4⟩ := r.ow i ds h1
      refine ⟨_, g1, .lst (SqL.of ?_) (g4.mono sm)⟩
      show (if _ then _ else _) = _
      rw [if_pos (.inl ⟨i, ds, h1, g1⟩)]
      exact g2
    | oi C fs =>
      cases h2
      obtain ⟨x, dx, vfs, g1, g2, g3, g4, _⟩ := r.oi i C fs h1
      refine ⟨_, g1, .ins (dx := dx) (fs := vfs) ?_ (g4.repf sm fun n q hq => ?_)⟩
      · show (if _ then _ else _) = _
        rw [if_pos (.inr ⟨i, C, fs, h1, x, dx, vfs, g1, g2, .inl rfl⟩)]
        exact g2
      · show (if _ then _ else _) = _
        rw [if_pos (.inr ⟨i, C, fs, h1, x, dx, vfs, g1, g2, .inr ⟨n, hq⟩⟩)]
  · obtain ⟨t, h1, h2⟩ := old i _ e
    cases t <;> cases h2
  · obtain ⟨t, h1, h2⟩ := old i _ e1
    cases t <;> cases h2
  · obtain ⟨t, h1, h2⟩ := old i _ e
    cases t <;> cases h2
  · obtain ⟨t, h1, h2⟩ := old i _ e
    cases t <;> cases h2
theorem pd_view {fa : Env → Res D} (h : PE X e (tD X.K W fa)) : PE X e (tD X.K W (eView fa)) := PE.imp h fun σ H Q h => by
  obtain ⟨A, env, er, k⟩ := h
  obtain ⟨A', sm, er'⟩ := view_er er
  refine ⟨A', view env, er', ?_⟩
  unfold eView at k
  cases e : fa (view env) with
  | no => rw [e] at k; exact k.elim
  | ex C => rw [e] at k; exact k.elim
  | ok d =>
    rw [e] at k
    have k : Kt (rD X.K) W σ A H (if isSc d = true then .ok d else .no) Q := k
    by_cases c : isSc d = true
    · rw [if_pos c] at k
      intro v B H' g r
      refine k v A H' (Grow.keep er.sub g.s) ?_
      cases d with
      | non => cases r; exact .non
      | bl b => cases r; exact .bl b
      | int b => cases r; exact .int b
      | str b => cases r; exact .str b
      | _ => exact absurd (show false = true from c) Bool.false_ne_true
    · rw [if_neg c] at k
      exact k.elim
end
/-! ## a def by its body -/
def envOf (n : Nat) (ds : List D) : Env := ds.map Sl.sh ++ List.replicate (n - ds.length) .no
def fin : Res Fl → Res D
  | .ok (.nx _) => .ok .non
  | .ok (.rt d) => .ok d
  | .ex C => .ex C
  | _ => .no
def run (n : Nat) (g : Env → Res Fl) (ds : List D) : Res D := fin (g (envOf n ds))
theorem er_start {K : PySem.W.Frag} {N : List Str} {vs : List V} {ds : List D} {A H : Hp} (s : Same A H) (r : Reps K A vs ds) : ER K (L2.start N vs) A H (envOf N.length ds) := by
  have hl := r.length
  have key : ∀ (i : Nat) (sl : Sl), (envOf N.length ds)[i]? = some sl → sl = .no ∨ ∃ d, ds[i]? = some d ∧ sl = .sh d := fun i sl e => by
    unfold envOf at e
    by_cases hi : i < ds.length
    · rw [List.getElem?_append_left (by simpa using hi), List.getElem?_map, List.getElem?_eq_getElem hi] at e
      cases e
      exact .inr ⟨_, List.getElem?_eq_getElem hi, rfl⟩
    · rw [List.getElem?_append_right (by simpa using hi), List.getElem?_replicate] at e
      split at e
      · cases e
        exact .inl rfl
      · cases e
  refine ⟨s, ?_, fun i d e => ?_, fun i es e => ?_, fun i j es fs p e => ?_, fun i C fs e => ?_, fun i j C C' fs fs' e => ?_⟩
  · unfold envOf L2.start
    rw [List.length_append, List.length_append, List.length_map, List.length_map, List.length_replicate, List.length_replicate, hl]
  · rcases key i _ e with z | ⟨d', h1, h2⟩
    · cases z
    · cases h2
      obtain ⟨v, g1, g2⟩ := r.get h1
      refine ⟨v, ?_, g2⟩
      unfold L2.start
      have hi : i < vs.length := by
        rw [hl]
        exact (List.getElem?_eq_some_iff.mp h1).1
      rw [List.getElem?_append_left (by simpa using hi), List.getElem?_map, g1]
      rfl
  · rcases key i _ e with z | ⟨d', h1, h2⟩
    · cases z
    · cases h2
  · rcases key i _ e with z | ⟨d', h1, h2⟩
    · cases z
    · cases h2
  · rcases key i _ e with z | ⟨d', h1, h2⟩
    · cases z
    · cases h2
  · rcases key i _ e with z | ⟨d', h1, h2⟩
    · cases z
    · cases h2
theorem env_plain {n : Nat} {ds : List D} {i : Nat} {s : Sl} (e : (envOf n ds)[i]? = some s) : s = .no ∨ ∃ d, s = .sh d := by
  unfold envOf at e
  by_cases hi : i < ds.length
  · rw [List.getElem?_append_left (by simpa using hi), List.getElem?_map, List.getElem?_eq_getElem hi] at e
    cases e
    exact .inr ⟨_, rfl⟩
  · rw [List.getElem?_append_right (by simpa using hi), List.getElem?_replicate] at e
    split at e
    · cases e
      exact .inl rfl
    · cases e
theorem own_start {B : Addr → Prop} {H : Hp} {σ : L2.St} {n : Nat} {ds : List D} : OwnB B H σ (envOf n ds) := by
  refine ⟨fun i es p e => ?_, fun i C fs x C' dx vfs n q e => ?_⟩
  · rcases env_plain e with z | ⟨d, z⟩ <;> cases z
  · rcases env_plain e with z | ⟨d, z⟩ <;> cases z
theorem gd_entry (A0 H0 : Hp) : Gd (fun A H => Grow A0 H0 A H) (fun p => H0 p = none) where
  grow := fun h g => h.trans g
  put := fun h ha hp => h.put hp ha
  know := fun h ha hb hp => h.know hp ha hb
  fresh := fun h hp => Same.free h.s hp
section
variable {P : Program} {w : World} {K : PySem.W.Frag} {mg : Str → Option Value} {base : Heap} {x qual : Str} {params : Arguments} {body : List Stmt} {scope : Scope} {f : Addr} {fd : FuncData} {dvs : List V} {kws : List (Str × V)}
/-- THE RULE: the def's promise is its body's function -/
theorem fn_dt {N ps : List Str} {k : Nat} {g : Env → Res Fl} (F : L2.FunD K x qual params body scope dvs kws f fd) (S : FnScope N ps scope)
    (hb : ∀ (cdv : Value) (A : Around) (outer : List PySem.Env) (s : Shared) (H : Hp) (E : XK) (G : Hp → Hp → Prop) (P' : Addr → Prop), Room k (A.deeper (envOfC qual scope s.heap.objs.size f cdv)) → Gd G P' →
      PSs (cxOf (L2.CX P w) P w K mg base N qual scope f cdv A outer s H E) body (tS K (fun c d _ H => E c d H) G P' g)) : FnOk P w K mg base (L2.CX P w) (k + 1) f fd ps (spD K ps.length (run N.length g)) := by
  refine F.ok S (spD_len rfl) fun cdv A outer s H vs Q E hr h => ?_
  obtain ⟨H0, ds, sm, r, hl, kk⟩ := h
  refine ⟨_, hb cdv A outer s H E _ _ hr (gd_entry H0 H), H0, envOf N.length ds, ⟨er_start sm r, own_start, Grow.refl sm⟩, ?_⟩
  · unfold run at kk
    cases e : g (envOf N.length ds) with
    | no => rw [e] at kk; exact kk
    | ex C =>
      rw [e] at kk
      exact fun σ A B g => kk A B g
    | ok fl =>
      rw [e] at kk
      cases fl with
      | nx env => exact fun σ A B s => kk .non A B s.g .non
      | rt d => exact fun v A B g r => kk v A B g r
      | bk env => exact kk.elim
      | ct env => exact kk.elim
end
/-! ## the law's own def: nothing leaves it -/
def fin0 : Res Fl → Res D
  | .ok (.nx _) => .ok .non
  | .ok (.rt d) => .ok d
  | _ => .no
def run0 (n : Nat) (g : Env → Res Fl) (ds : List D) : Res D := fin0 (g (envOf n ds))
section
variable {P : Program} {w : World} {K : PySem.W.Frag} {mg : Str → Option Value} {base : Heap} {x qual : Str} {params : Arguments} {body : List Stmt} {scope : Scope} {f : Addr} {fd : FuncData} {dvs : List V} {kws : List (Str × V)}
theorem fn_dt0 {N ps : List Str} {k : Nat} {g : Env → Res Fl} (F : L2.FunD K x qual params body scope dvs kws f fd) (S : FnScope N ps scope)
    (hb : ∀ (cdv : Value) (A : Around) (outer : List PySem.Env) (s : Shared) (H : Hp) (E : XK) (G : Hp → Hp → Prop) (P' : Addr → Prop), Room k (A.deeper (envOfC qual scope s.heap.objs.size f cdv)) → Gd G P' →
      PSs (cxOf CX0 P w K mg base N qual scope f cdv A outer s H E).nox body (tS K W0 G P' g)) : FnOk P w K mg base CX0 (k + 1) f fd ps (spD K ps.length (run0 N.length g)) := by
  refine F.ok S (spD_len rfl) fun cdv A outer s H vs Q E hr h => ?_
  obtain ⟨H0, ds, sm, r, hl, kk⟩ := h
  refine ⟨_, (hb cdv A outer s H E _ _ hr (gd_entry H0 H)).nox, H0, envOf N.length ds, ⟨er_start sm r, own_start, Grow.refl sm⟩, ?_⟩
  · unfold run0 at kk
    cases e : g (envOf N.length ds) with
    | no => rw [e] at kk; exact kk
    | ex C => rw [e] at kk; exact kk.elim
    | ok fl =>
      rw [e] at kk
      cases fl with
      | nx env => exact fun σ A B s => kk .non A B s.g .non
      | rt d => exact fun v A B g r => kk v A B g r
      | bk env => exact kk.elim
      | ct env => exact kk.elim
end
end Dt
namespace Dt
open PySem PySem.Spec PyProof.Rows L2
/-- a measure: the int that stands in a slot -/
def fuel (i : Nat) (env : Env) : Nat := match env[i]? with
  | some (.sh (.int n)) => n.toNat + 1
  | _ => 0
/-! ## a def as it is held, called by name -/
def Held (P : Program) (w : World) (K : PySem.W.Frag) (mg : Str → Option Value) (base : Heap) (k : Nat) (f : Addr) (ps : List Str) (φ : List D → Res D) : Prop :=
  ∃ fd, FnOk P w K mg base (L2.CX P w) k f fd ps (spD K ps.length φ) ∧ Binds K fd ps [] ∧ PySem.W.keepIn K (.ref f) = true
section
variable {X : Cx} {W : WX} {k j : Nat} {f : Addr} {ps : List Str} {φ : List D → Res D} {x : Str} {p pos : Pos} {e : Expr} {es : List Expr} {fl : Env → Res (List D)}
theorem pd_callH (F : Held X.prog X.w X.K X.mg X.base k f ps φ) (hr : Room k X.A) (tk : Takes X W) (hg : Gl X x) (hm : X.mg x = some (.ref f))
    (ha : PA X (e :: es) (tDs X.K W fl)) (hn : ArgE ps.length fl) (hdb : (x == ("__debug__" : Str)) = false := by decide) (he : starEach (e :: es) X.env = (false, eval e X.env) :: starEach es X.env := by rfl) (hpl : (backTo pos (starEach es X.env)).any (·.1) = false := by rfl) :
    PE X (.Call (.Name x p) (e :: es) [] pos) (tD X.K W (eCall φ fl)) := by
  obtain ⟨fd, F, b, kp⟩ := F
  exact pd_call F hr tk hg hm kp b ha hn hdb he hpl
end
/-! ## the module's constants -/
theorem pd_globI {X : Cx} {W : WX} {x : Str} {i : Int} {pos : Pos} (hg : Gl X x) (h : ∃ t, X.mg x = some (.int i t)) (hd : (x == ("__debug__" : Str)) = false := by decide) : PE X (.Name x pos) (tD X.K W (eC (.int i))) := by
  obtain ⟨t, h⟩ := h
  exact pd_glob hg h (v := .int i) ⟨t, rfl⟩ (fun _ => .int i) hd
theorem pd_globS {X : Cx} {W : WX} {x z : Str} {pos : Pos} (hg : Gl X x) (h : ∃ t, X.mg x = some (.str z t)) (hd : (x == ("__debug__" : Str)) = false := by decide) : PE X (.Name x pos) (tD X.K W (eC (.str z))) := by
  obtain ⟨t, h⟩ := h
  exact pd_glob hg h (v := .str z) ⟨t, rfl⟩ (fun _ => .str z) hd
/-! ## the head: facts of one's own -/
open He
def obsX (fs : List (PySem.W.Frag → Bool)) (fn : List DefD) (K : PySem.W.Frag) : AlD := ((fs.all fun f => f K) && fn.all fun d => d.ok K, fn.map fun d => fnW K d.at_)
def SaysX (fs : List (PySem.W.Frag → Bool)) (fn : List DefD) (K : PySem.W.Frag) : Prop := obsX fs fn K = valD fn
def obsXG (n : Nat) (fs : List (PySem.W.Frag → Bool)) (fn : List DefD) (g : Addr → Option Obj) : AlD := obsX fs fn (frG g (asD g n))
def hookX (n : Nat) (fs : List (PySem.W.Frag → Bool)) (fn : List DefD) : PySem.W.Hook where
  α := AlD
  obs := fun s => obsXG n fs fn s.heap.get?
  val := fun _ => valD fn
  says := fun _ h => ∃ K : PySem.W.Frag, K.In h ∧ SaysX fs fn K
  of := fun _ _ e => ⟨_, frG_in, e⟩
  keeps := fun _ _ _ ⟨K, hK, c⟩ k => ⟨K, PySem.W.Frag.In.keeps hK k, c⟩
theorem obsXG_eq {n : Nat} {fs : List (PySem.W.Frag → Bool)} {fn : List DefD} {g : Addr → Option Obj} {s : Shared} (h : ∀ a, g a = s.heap.get? a) : obsXG n fs fn g = (hookX n fs fn).obs s := by
  have e : g = s.heap.get? := funext h
  rw [e] <;> rfl
section
variable {fs : List (PySem.W.Frag → Bool)} {fn : List DefD} {K : PySem.W.Frag}
theorem SaysX.fact (c : SaysX fs fn K) (i : Nat) {f : PySem.W.Frag → Bool} (h : fs[i]? = some f := by rfl) : f K = true := by
  have c1 := (ba (show ((fs.all fun f => f K) && fn.all fun d => d.ok K) = true from congrArg (fun z : AlD => z.1) c)).1
  exact List.all_eq_true.mp c1 f (List.mem_of_getElem? h)
theorem SaysX.def_ (c : SaysX fs fn K) (i : Nat) {d : DefD} (h : fn[i]? = some d := by rfl) : ∃ fd, FunD K d.name d.qual d.params d.body d.scope (d.dvs K) (d.kws K) (fAd K d.at_) fd := by
  have c2 := (ba (show ((fs.all fun f => f K) && fn.all fun d => d.ok K) = true from congrArg (fun z : AlD => z.1) c)).2
  have e : fn.map (fun d => fnW K d.at_) = fn.map DefD.val := congrArg (fun z : AlD => z.2) c
  have e2 : (fn.map fun d => fnW K d.at_)[i]? = (fn.map DefD.val)[i]? := by rw [e]
  rw [List.getElem?_map, List.getElem?_map, h] at e2
  exact DefD.funD (Option.some.inj e2) (List.all_eq_true.mp c2 d (List.mem_of_getElem? h))
end
/-! ## the law's end -/
/-- the law's promise: what it gives is true -/
theorem law_sp {K : PySem.W.Frag} {φ : List D → Res D} {H : Hp} {a : Addr} {ns : List Int} (h : φ [.lst (ns.map D.int)] = .ok (.bl true)) (hS : SqL K H a (ns.map V.int)) :
    spD K 1 φ [.ref a] H (fun v _ => v = .bl true) fun _ _ _ => False := by
  refine ⟨H, [.lst (ns.map D.int)], Same.refl H, .cons (.lst hS Reps.of_ints) .nil, rfl, ?_⟩
  rw [h]
  intro v A B g r
  cases r
  rfl
theorem law_cx {P : Program} {w : World} (H : Hp) (s : Shared) (e : Value) (s' : Shared) (h : L2.CX P w [] H s (fun _ _ _ => False) e s') : False := by
  obtain ⟨_, _, _, _, _, _, _, _, _, _, _, _, z⟩ := h
  exact z.elim
end Dt
namespace Dt
open PySem PySem.Spec PyProof.Rows L2
/-! ## plain lemmas -/
section
variable {K : PySem.W.Frag}
theorem kit_int_int : PySem.W.kitOne K (.type "int") (.type "int") = some true := kit_ty (by decide +kernel)
theorem kit_int_bool : PySem.W.kitOne K (.type "int") (.type "bool") = some false := kit_ty (by decide +kernel)
theorem kit_int_tuple : PySem.W.kitOne K (.type "int") (.type "tuple") = some false := kit_ty (by decide +kernel)
theorem kit_int_list : PySem.W.kitOne K (.type "int") (.type "list") = some false := kit_ty (by decide +kernel)
theorem kit_int_str : PySem.W.kitOne K (.type "int") (.type "str") = some false := kit_ty (by decide +kernel)
theorem kit_bool_int : PySem.W.kitOne K (.type "bool") (.type "int") = some true := kit_ty (by decide +kernel)
theorem kit_bool_bool : PySem.W.kitOne K (.type "bool") (.type "bool") = some true := kit_ty (by decide +kernel)
theorem kit_bool_tuple : PySem.W.kitOne K (.type "bool") (.type "tuple") = some false := kit_ty (by decide +kernel)
theorem kit_bool_list : PySem.W.kitOne K (.type "bool") (.type "list") = some false := kit_ty (by decide +kernel)
theorem kit_bool_str : PySem.W.kitOne K (.type "bool") (.type "str") = some false := kit_ty (by decide +kernel)
theorem kit_non_int : PySem.W.kitOne K (.type "NoneType") (.type "int") = some false := kit_ty (by decide +kernel)
theorem kit_non_bool : PySem.W.kitOne K (.type "NoneType") (.type "bool") = some false := kit_ty (by decide +kernel)
theorem kit_non_tuple : PySem.W.kitOne K (.type "NoneType") (.type "tuple") = some false := kit_ty (by decide +kernel)
theorem kit_non_list : PySem.W.kitOne K (.type "NoneType") (.type "list") = some false := kit_ty (by decide +kernel)
theorem kit_non_str : PySem.W.kitOne K (.type "NoneType") (.type "str") = some false := kit_ty (by decide +kernel)
theorem kit_tuple_int : PySem.W.kitOne K (.type "tuple") (.type "int") = some false := kit_ty (by decide +kernel)
theorem kit_tuple_bool : PySem.W.kitOne K (.type "tuple") (.type "bool") = some false := kit_ty (by decide +kernel)
theorem kit_tuple_tuple : PySem.W.kitOne K (.type "tuple") (.type "tuple") = some true := kit_ty (by decide +kernel)
theorem kit_tuple_list : PySem.W.kitOne K (.type "tuple") (.type "list") = some false := kit_ty (by decide +kernel)
theorem kit_tuple_str : PySem.W.kitOne K (.type "tuple") (.type "str") = some false := kit_ty (by decide +kernel)
theorem kit_list_int : PySem.W.kitOne K (.type "list") (.type "int") = some false := kit_ty (by decide +kernel)
theorem kit_list_bool : PySem.W.kitOne K (.type "list") (.type "bool") = some false := kit_ty (by decide +kernel)
theorem kit_list_tuple : PySem.W.kitOne K (.type "list") (.type "tuple") = some false := kit_ty (by decide +kernel)
theorem kit_list_list : PySem.W.kitOne K (.type "list") (.type "list") = some true := kit_ty (by decide +kernel)
theorem kit_list_str : PySem.W.kitOne K (.type "list") (.type "str") = some false := kit_ty (by decide +kernel)
theorem kit_str_int : PySem.W.kitOne K (.type "str") (.type "int") = some false := kit_ty (by decide +kernel)
theorem kit_str_bool : PySem.W.kitOne K (.type "str") (.type "bool") = some false := kit_ty (by decide +kernel)
theorem kit_str_tuple : PySem.W.kitOne K (.type "str") (.type "tuple") = some false := kit_ty (by decide +kernel)
theorem kit_str_list : PySem.W.kitOne K (.type "str") (.type "list") = some false := kit_ty (by decide +kernel)
theorem kit_str_str : PySem.W.kitOne K (.type "str") (.type "str") = some true := kit_ty (by decide +kernel)
theorem kit_dict_int : PySem.W.kitOne K (.type "dict") (.type "int") = some false := kit_ty (by decide +kernel)
theorem kit_dict_bool : PySem.W.kitOne K (.type "dict") (.type "bool") = some false := kit_ty (by decide +kernel)
theorem kit_dict_tuple : PySem.W.kitOne K (.type "dict") (.type "tuple") = some false := kit_ty (by decide +kernel)
theorem kit_dict_list : PySem.W.kitOne K (.type "dict") (.type "list") = some false := kit_ty (by decide +kernel)
theorem kit_dict_str : PySem.W.kitOne K (.type "dict") (.type "str") = some false := kit_ty (by decide +kernel)
end
/-- small numbers -/
def Sm (i : Int) : Prop := i.natAbs < 2 ^ 250
theorem lim_of {i : Int} {n : Nat} (h : i.natAbs < 2 ^ n) (hn : n ≤ 9000) : i.natAbs < lim := by
  unfold lim
  exact Nat.lt_of_lt_of_le h (Nat.pow_le_pow_right (by decide) hn)
theorem mulOk_sm {i j : Int} (h : Sm i) (h' : Sm j) : mulOk i j = true := by
  unfold mulOk
  rw [decide_eq_true (lim_of h (by decide)), decide_eq_true (lim_of h' (by decide))]
  simp
theorem sm_lim {i : Int} (h : Sm i) : i.natAbs < lim := lim_of h (by decide)
theorem sm_small {i : Int} (h : i.natAbs < 2 ^ 60) : Sm i := Nat.lt_of_lt_of_le h (Nat.pow_le_pow_right (by decide) (by decide))
theorem sm_of_le {i j : Int} (h : i.natAbs ≤ j.natAbs) (hj : Sm j) : Sm i := Nat.lt_of_le_of_lt h hj
theorem Sm.div {i j : Int} (h : Sm i) (h0 : 0 ≤ i) (hj : 0 ≤ j) : Sm (i / j) := sm_of_le (by
  have h1 := Int.ediv_nonneg h0 hj
  have h2 : i / j ≤ i := Int.ediv_le_self j h0
  omega) h
/-! ### comprehensions -/
section
variable {bt : Bt} {ft : Env → Res Bool} {fe : Env → Res D} {env : Env}
theorem compS_of {α : Type} (xs : List α) (enc out : α → D) (H : ∀ x ∈ xs, ∃ e1, bt (enc x) env = .ok e1 ∧ fe e1 = .ok (out x)) : compS bt bYes fe env (xs.map enc) = .ok (xs.map out) := by
  induction xs with
  | nil => rfl
  | cons x xs ih =>
    obtain ⟨e1, h1, h2⟩ := H x List.mem_cons_self
    have ih := ih fun y hy => H y (List.mem_cons_of_mem _ hy)
    show (bt (enc x) env).bind _ = _
    rw [h1]
    show (fe e1).bind (fun y => (compS bt bYes fe env (xs.map enc)).bind fun r => .ok (y :: r)) = _
    rw [h2, ih]
    rfl
theorem compS_filter {α : Type} (xs : List α) (enc out : α → D) (p : α → Bool) (H : ∀ x ∈ xs, ∃ e1, bt (enc x) env = .ok e1 ∧ ft e1 = .ok (p x) ∧ (p x = true → fe e1 = .ok (out x))) : compS bt ft fe env (xs.map enc) = .ok ((xs.filter p).map out) := by
  induction xs with
  | nil => rfl
  | cons x xs ih =>
    obtain ⟨e1, h1, h2, h3⟩ := H x List.mem_cons_self
    have ih := ih fun y hy => H y (List.mem_cons_of_mem _ hy)
    show (bt (enc x) env).bind _ = _
    rw [h1]
    show (ft e1).bind _ = _
    rw [h2]
    cases e : p x with
    | false =>
      show compS bt ft fe env (xs.map enc) = _
      rw [ih, List.filter_cons, e]
      rfl
    | true =>
      show (fe e1).bind (fun y => (compS bt ft fe env (xs.map enc)).bind fun r => .ok (y :: r)) = _
      rw [h3 e, ih, List.filter_cons, e]
      rfl
end
theorem toBls_map' {α : Type} (p : α → Bool) : ∀ xs : List α, toBls (xs.map fun x => D.bl (p x)) = some (xs.map p)
  | [] => rfl
  | x :: xs => by
    show (toBls (xs.map fun x => D.bl (p x))).map (p x :: ·) = _
    rw [toBls_map' p xs]
    rfl
theorem toInts_map' {α : Type} (p : α → Int) : ∀ xs : List α, toInts (xs.map fun x => D.int (p x)) = some (xs.map p)
  | [] => rfl
  | x :: xs => by
    show (toInts (xs.map fun x => D.int (p x))).map (p x :: ·) = _
    rw [toInts_map' p xs]
    rfl
/-! ### a for over a list: an invariant of the slots -/
theorem forS_inv {α : Type} {bt : Bt} {gb : Env → Res Fl} (enc : α → D) (I : Nat → Env → Prop) : ∀ (xs : List α) (n : Nat) (env : Env), I n env →
    (∀ (i : Nat) (x : α) (env : Env), xs[i]? = some x → I (n + i) env → ∃ e1, bt (enc x) env = .ok e1 ∧ ∃ e2, gb e1 = .ok (.nx e2) ∧ I (n + i + 1) e2) → ∃ e, forS bt gb (xs.map enc) env = .ok (.nx e) ∧ I (n + xs.length) e
  | [], n, env, h, _ => ⟨env, rfl, h⟩
  | x :: xs, n, env, h, H => by
    obtain ⟨e1, h1, e2, h2, h3⟩ := H 0 x env rfl h
    obtain ⟨e, h4, h5⟩ := forS_inv enc I xs (n + 1) e2 h3 (fun i y env hy hi => by
      have := H (i + 1) y env hy (by rw [show n + (i + 1) = n + 1 + i by omega]; exact hi)
      rw [show n + (i + 1) + 1 = n + 1 + i + 1 by omega] at this
      exact this)
    refine ⟨e, ?_, by rw [List.length_cons, show n + (xs.length + 1) = n + 1 + xs.length by omega]; exact h5⟩
    show bOk (bt (enc x) env) _ = _
    rw [h1, bOk_ok, h2]
    exact h4
/-! ### tariffs, books -/
abbrev Tr := Int × Int
def tr (t : Tr) : D := .tup [.int t.1, .int t.2]
def bk (l : List Tr) : D := .lst (l.map tr)
def trP (t : Tr) : PyData := .tuple [.int t.1, .int t.2]
theorem toPy_tr (t : Tr) : toPy (tr t) = some (trP t) := rfl
theorem toPys_tr : ∀ l : List Tr, toPys (l.map tr) = some (l.map trP)
  | [] => rfl
  | t :: l => by
    show (match toPy (tr t), toPys (l.map tr) with | some a, some b => some (a :: b) | _, _ => none) = _
    rw [toPy_tr, toPys_tr l]
    rfl
theorem toPy_bk (l : List Tr) : toPy (bk l) = some (.list (l.map trP)) := by
  show (toPys (l.map tr)).map PyData.list = _
  rw [toPys_tr]
  rfl
theorem canLay_trs : ∀ l : List Tr, PyData.canLayAll0 (l.map trP) = true
  | [] => rfl
  | t :: l => by
    show ((trP t).canLay0 && PyData.canLayAll0 (l.map trP)) = true
    rw [canLay_trs l]
    rfl
theorem eqv_tr (t u : Tr) : PyData.eqv (trP t) (trP u) = decide (t = u) := by
  show (t.1 == u.1 && (t.2 == u.2 && true)) = _
  obtain ⟨a, b⟩ := t
  obtain ⟨c, d⟩ := u
  rw [Bool.eq_iff_iff]
  simp
theorem eqvAll_trs : ∀ l m : List Tr, PyData.eqvAll (l.map trP) (m.map trP) = decide (l = m)
  | [], [] => rfl
  | [], _ :: _ => rfl
  | _ :: _, [] => rfl
  | t :: l, u :: m => by
    show (PyData.eqv (trP t) (trP u) && PyData.eqvAll (l.map trP) (m.map trP)) = _
    rw [eqv_tr, eqvAll_trs l m, Bool.eq_iff_iff]
    simp
theorem depth_trs : ∀ l : List Tr, PyData.depthAll (l.map trP) ≤ 1
  | [] => Nat.zero_le _
  | t :: l => by
    show max (PyData.depth (trP t)) (PyData.depthAll (l.map trP)) ≤ 1
    have := depth_trs l
    have h : PyData.depth (trP t) = 1 := rfl
    omega
theorem shaped_bk (l : List Tr) : SeqAt.shaped (.list (l.map trP)) = true := by
  show (PyData.canLayAll0 (l.map trP) && decide (PyData.depthAll (l.map trP) + 1 ≤ 64)) = true
  rw [canLay_trs, decide_eq_true (by have := depth_trs l; omega)]
  rfl
theorem shaped_tr (t : Tr) : SeqAt.shaped (trP t) = true := rfl
theorem eqB_bk (l m : List Tr) : eqB (bk l) (bk m) = some (decide (l = m)) := by
  unfold eqB
  show (match scV (bk l), scV (bk m) with
  | some x, some y => if scal x y = true then some (decide (x = y)) else none
  | _, _ => match toPy (bk l), toPy (bk m) with
    | some x, some y => if (SeqAt.shaped x && SeqAt.shaped y) = true then some (PyData.eqv x y) else none
    | _, _ => none) = _
  rw [toPy_bk, toPy_bk]
  show (if (SeqAt.shaped (.list (l.map trP)) && SeqAt.shaped (.list (m.map trP))) = true then some (PyData.eqvAll (l.map trP) (m.map trP)) else none) = _
  rw [shaped_bk, shaped_bk, eqvAll_trs]
  rfl
theorem eqB_tr (t u : Tr) : eqB (tr t) (tr u) = some (decide (t = u)) := by
  show (if (SeqAt.shaped (trP t) && SeqAt.shaped (trP u)) = true then some (PyData.eqv (trP t) (trP u)) else none) = _
  rw [eqv_tr]
  rfl
theorem eqB_int (i j : Int) : eqB (.int i) (.int j) = some (decide (i = j)) := by
  show some (decide (V.int i = V.int j)) = _
  congr 1
  rw [Bool.eq_iff_iff]
  simp
theorem eqB_bl (i j : Bool) : eqB (.bl i) (.bl j) = some (decide (i = j)) := by
  show some (decide (V.bl i = V.bl j)) = _
  congr 1
  rw [Bool.eq_iff_iff]
  simp
/-! ### operations at ints -/
section
variable {i j : Int} {a b : D}
theorem ix0 : ixD (.tup [a, b]) (.int 0) = some a := rfl
theorem ix1 : ixD (.tup [a, b]) (.int 1) = some b := rfl
theorem len_tup2 : lenD [.tup [a, b]] = some (.int 2) := rfl
theorem eqD_int : eqD (.int i) (.int j) = some (.bl (decide (i = j))) := by unfold eqD; rw [eqB_int]; rfl
theorem neD_int : neD (.int i) (.int j) = some (.bl (!decide (i = j))) := by unfold neD; rw [eqB_int]; rfl
theorem addD_int : addD (.int i) (.int j) = some (.int (i + j)) := rfl
theorem subD_int : subD (.int i) (.int j) = some (.int (i - j)) := rfl
theorem ltD_int : ltD (.int i) (.int j) = some (.bl (decide (i < j))) := rfl
theorem leD_int : leD (.int i) (.int j) = some (.bl (decide (i ≤ j))) := rfl
theorem gtD_int : gtD (.int i) (.int j) = some (.bl (decide (j < i))) := rfl
theorem geD_int : geD (.int i) (.int j) = some (.bl (decide (j ≤ i))) := rfl
theorem negD_int : negD (.int i) = some (.int (-i)) := rfl
theorem divD_int (h : 0 < j) (h2 : j.natAbs < lim) : divD (.int i) (.int j) = some (.int (i / j)) := by
  show (if (decide (0 < j) && decide (j.natAbs < lim)) = true then some (D.int (i / j)) else none) = _
  rw [decide_eq_true h, decide_eq_true h2]
  rfl
theorem modD_int (h : 0 < j) : modD (.int i) (.int j) = some (.int (i % j)) := by
  show (if decide (0 < j) = true then some (D.int (i % j)) else none) = _
  rw [decide_eq_true h]
  rfl
theorem mulD_int (h : mulOk i j = true) : mulD (.int i) (.int j) = some (.int (i * j)) := by
  show (if mulOk i j = true then some (D.int (i * j)) else none) = _
  rw [h]
  rfl
theorem lenD_lst {xs : List D} : lenD [.lst xs] = some (.int xs.length) := rfl
theorem lenD_tup {xs : List D} : lenD [.tup xs] = some (.int xs.length) := rfl
theorem allD_map {α : Type} {xs : List α} {p : α → Bool} : allD [.lst (xs.map fun x => .bl (p x))] = some (.bl (xs.all p)) := by
  show (toBls _).map _ = _
  rw [toBls_map']
  show some (D.bl ((xs.map p).all id)) = _
  rw [List.all_map]
  rfl
theorem anyD_map {α : Type} {xs : List α} {p : α → Bool} : anyD [.lst (xs.map fun x => .bl (p x))] = some (.bl (xs.any p)) := by
  show (toBls _).map _ = _
  rw [toBls_map']
  show some (D.bl ((xs.map p).any id)) = _
  rw [List.any_map]
  rfl
end
/-! ### the greatest common divisor -/
def gcdI (a b : Int) : Int := (Nat.gcd a.toNat b.toNat : Nat)
theorem gcdI_step {a b : Int} (ha : 0 ≤ a) (hb : 0 < b) : gcdI b (a % b) = gcdI a b := by
  unfold gcdI
  have e : (a % b).toNat = a.toNat % b.toNat := by
    have h1 : (a % b).toNat = ((a.toNat : Int) % (b.toNat : Int)).toNat := by
      rw [Int.toNat_of_nonneg ha, Int.toNat_of_nonneg (Int.le_of_lt hb)]
    rw [h1, ← Int.natCast_emod, Int.toNat_natCast]
  rw [e, Nat.gcd_comm b.toNat, ← Nat.gcd_rec, Nat.gcd_comm]
theorem gcdI_zero {a : Int} (ha : 0 ≤ a) : gcdI a 0 = a := by
  unfold gcdI
  rw [show (0 : Int).toNat = 0 from rfl, Nat.gcd_zero_right, Int.toNat_of_nonneg ha]
theorem gcdI_pos {a b : Int} (hb : 0 < b) : 0 < gcdI a b := by
  unfold gcdI
  have : 0 < Nat.gcd a.toNat b.toNat := Nat.gcd_pos_of_pos_right _ (by omega)
  omega
theorem gcdI_le {a b : Int} (hb : 0 < b) : gcdI a b ≤ b := by
  unfold gcdI
  have : Nat.gcd a.toNat b.toNat ≤ b.toNat := Nat.gcd_le_right _ (by omega)
  omega
theorem common_loop : ∀ (n : Nat) (a b : Int) (r : Env), 0 ≤ a → 0 ≤ b → b.toNat < n →
    whileS (bV (eOp gtD (eVar 1) (eC (.int 0)))) (sPar 0 1 (aCons (eVar 1) (aCons (eOp modD (eVar 0) (eVar 1)) aNil))) n (.sh (.int a) :: .sh (.int b) :: r) = .ok (.nx (.sh (.int (gcdI a b)) :: .sh (.int 0) :: r))
  | 0, a, b, r, _, _, h => absurd h (Nat.not_lt_zero _)
  | n + 1, a, b, r, ha, hb, h => by
    unfold whileS
    simp only [bV, eOp, eVar, eC, List.getElem?_cons_succ, List.getElem?_cons_zero, Res.bind_ok, gtD_int, ofO_some, toB, sPar, aCons, aNil]
    by_cases c : 0 < b
    · have h0 : 0 ≤ a % b := Int.emod_nonneg a (by omega)
      have h1 : a % b < b := Int.emod_lt_of_pos a c
      simp only [decide_eq_true c, if_true, modD_int c, ofO_some, Res.bind_ok, List.set_cons_zero, List.set_cons_succ]
      rw [common_loop n b (a % b) r hb h0 (by omega), gcdI_step ha c]
    · have e : b = 0 := by omega
      subst e
      simp only [gcdI_zero ha]
      rfl
/-- the same loop in the slots 2 and 3 -/
theorem common_loop2 : ∀ (n : Nat) (a b : Int) (x y : Sl) (r : Env), 0 ≤ a → 0 ≤ b → b.toNat < n →
    whileS (bV (eOp gtD (eVar 3) (eC (.int 0)))) (sPar 2 3 (aCons (eVar 3) (aCons (eOp modD (eVar 2) (eVar 3)) aNil))) n (x :: y :: .sh (.int a) :: .sh (.int b) :: r) = .ok (.nx (x :: y :: .sh (.int (gcdI a b)) :: .sh (.int 0) :: r))
  | 0, a, b, x, y, r, _, _, h => absurd h (Nat.not_lt_zero _)
  | n + 1, a, b, x, y, r, ha, hb, h => by
    unfold whileS
    simp only [bV, eOp, eVar, eC, List.getElem?_cons_succ, List.getElem?_cons_zero, Res.bind_ok, gtD_int, ofO_some, toB, sPar, aCons, aNil]
    by_cases c : 0 < b
    · have h0 : 0 ≤ a % b := Int.emod_nonneg a (by omega)
      have h1 : a % b < b := Int.emod_lt_of_pos a c
      simp only [decide_eq_true c, if_true, modD_int c, ofO_some, Res.bind_ok, List.set_cons_zero, List.set_cons_succ]
      rw [common_loop2 n b (a % b) x y r hb h0 (by omega), gcdI_step ha c]
    · have e : b = 0 := by omega
      subst e
      simp only [gcdI_zero ha]
      rfl
/-- lowest terms -/
def low (a b : Int) : Tr := (a / gcdI a b, b / gcdI a b)
/-- what a tariff costs, so often as the amount's second number is -/
def cst (t p : Tr) : Int := t.1 * p.2 + t.2 * p.1
/-- an amount -/
structure Am (p : Tr) : Prop where
  n0 : 0 ≤ p.1
  d0 : 0 < p.2
  gc : gcdI p.1 p.2 = 1
theorem gcdI_dvd {a b : Int} (ha : 0 ≤ a) (hb : 0 ≤ b) : gcdI a b ∣ a ∧ gcdI a b ∣ b := by
  unfold gcdI
  constructor
  · have := Nat.gcd_dvd_left a.toNat b.toNat
    have h := Int.natCast_dvd_natCast.mpr this
    rwa [Int.toNat_of_nonneg ha] at h
  · have := Nat.gcd_dvd_right a.toNat b.toNat
    have h := Int.natCast_dvd_natCast.mpr this
    rwa [Int.toNat_of_nonneg hb] at h
theorem toNat_ediv {a b : Int} (ha : 0 ≤ a) (hb : 0 ≤ b) : (a / b).toNat = a.toNat / b.toNat := by
  have h1 : (a / b).toNat = ((a.toNat : Int) / (b.toNat : Int)).toNat := by
    rw [Int.toNat_of_nonneg ha, Int.toNat_of_nonneg hb]
  rw [h1, ← Int.natCast_ediv, Int.toNat_natCast]
theorem low_am {a b : Int} (ha : 0 ≤ a) (hb : 0 < b) : Am (low a b) := by
  have g := gcdI_pos (a := a) hb
  obtain ⟨d1, d2⟩ := gcdI_dvd ha (Int.le_of_lt hb)
  refine ⟨Int.ediv_nonneg ha (Int.le_of_lt g), Int.ediv_pos_of_pos_of_dvd hb (Int.le_of_lt g) d2, ?_⟩
  show gcdI (a / gcdI a b) (b / gcdI a b) = 1
  have hg : (gcdI a b).toNat = Nat.gcd a.toNat b.toNat := by
    unfold gcdI
    rw [Int.toNat_natCast]
  have e : gcdI (a / gcdI a b) (b / gcdI a b) = ((Nat.gcd (a.toNat / Nat.gcd a.toNat b.toNat) (b.toNat / Nat.gcd a.toNat b.toNat) : Nat) : Int) := by
    show ((Nat.gcd (a / gcdI a b).toNat (b / gcdI a b).toNat : Nat) : Int) = _
    rw [toNat_ediv ha (Int.le_of_lt g), toNat_ediv (Int.le_of_lt hb) (Int.le_of_lt g), hg]
  have gp : 0 < Nat.gcd a.toNat b.toNat := Nat.gcd_pos_of_pos_right _ (by omega)
  rw [e, Nat.gcd_div (Nat.gcd_dvd_left _ _) (Nat.gcd_dvd_right _ _), Nat.div_self gp]
  rfl
theorem low_eq {a b : Int} (ha : 0 ≤ a) (hb : 0 < b) : (low a b).1 * b = a * (low a b).2 := by
  obtain ⟨⟨x, hx⟩, ⟨y, hy⟩⟩ := gcdI_dvd ha (Int.le_of_lt hb)
  have g := gcdI_pos (a := a) hb
  have e1 : a / gcdI a b = x := Int.ediv_eq_of_eq_mul_right (by omega) hx
  have e2 : b / gcdI a b = y := Int.ediv_eq_of_eq_mul_right (by omega) hy
  show a / gcdI a b * b = a * (b / gcdI a b)
  rw [e1, e2]
  conv => lhs; rw [hy]
  conv => rhs; rw [hx]
  rw [Int.mul_left_comm, Int.mul_assoc, Int.mul_comm x y]
theorem low_of_am {p : Tr} (h : Am p) : low p.1 p.2 = p := by
  unfold low
  rw [h.gc, Int.ediv_one, Int.ediv_one]
theorem cst_nonneg {t p : Tr} (h1 : 0 ≤ t.1) (h2 : 0 ≤ t.2) (h : Am p) : 0 ≤ cst t p := Int.add_nonneg (Int.mul_nonneg h1 (Int.le_of_lt h.d0)) (Int.mul_nonneg h2 h.n0)
/-! ### tariffs and books under the operations -/
section
variable {t u : Tr} {l m : List Tr} {K : PySem.W.Frag} {Cs : List Addr}
theorem ix0_tr : ixD (tr t) (.int 0) = some (.int t.1) := rfl
theorem ix1_tr : ixD (tr t) (.int 1) = some (.int t.2) := rfl
theorem len_tr : lenD [tr t] = some (.int 2) := rfl
theorem ty_tr : tyD Cs (tr t) = some (.type "tuple") := rfl
theorem ty_bk : tyD Cs (bk l) = some (.type "list") := rfl
theorem len_bk : lenD [bk l] = some (.int l.length) := by
  show some (D.int ((l.map tr).length : Int)) = _
  rw [List.length_map]
theorem toL_bk : toL (bk l) = .ok (l.map tr) := rfl
theorem toL_lst {xs : List D} : toL (.lst xs) = .ok xs := rfl
theorem toT_tup {xs : List D} : toT (.tup xs) = .ok xs := rfl
theorem toT_tr : toT (tr t) = .ok [.int t.1, .int t.2] := rfl
theorem list_bk : listD [bk l] = some (bk l) := rfl
theorem eqD_bk : eqD (bk l) (bk m) = some (.bl (decide (l = m))) := by
  unfold eqD
  rw [eqB_bk]
  rfl
theorem neD_bk : neD (bk l) (bk m) = some (.bl (!decide (l = m))) := by
  unfold neD
  rw [eqB_bk]
  rfl
theorem eqD_tr : eqD (tr t) (tr u) = some (.bl (decide (t = u))) := by
  unfold eqD
  rw [eqB_tr]
  rfl
theorem neD_tr : neD (tr t) (tr u) = some (.bl (!decide (t = u))) := by
  unfold neD
  rw [eqB_tr]
  rfl
theorem eqD_bk0 : eqD (bk l) (.lst []) = some (.bl (decide (l = []))) := eqD_bk (m := [])
theorem neD_bk0 : neD (bk l) (.lst []) = some (.bl (!decide (l = []))) := neD_bk (m := [])
theorem atI_map {α β : Type} (f : α → β) {xs : List α} {j : Nat} {x : α} (h : xs[j]? = some x) : atI (xs.map f) (j : Int) = some (f x) := atI_nat (by rw [List.getElem?_map, h]; rfl)
theorem ix_bk {j : Nat} (h : l[j]? = some t) : ixD (bk l) (.int (j : Int)) = some (tr t) := atI_map tr h
theorem pair_eq (a b : Int) : D.tup [.int a, .int b] = tr (a, b) := rfl
end
/-- a comprehension over a book, a list: the whole expression -/
theorem eLC_of {α : Type} {vs : List Nat} {bt : Bt} {fe : Env → Res D} {fi : Env → Res (List D)} {env : Env} (xs : List α) (enc out : α → D) (hi : fi env = .ok (xs.map enc)) (hl : xs.length ≤ 1000000)
    (H : ∀ x ∈ xs, ∃ e1, bt (enc x) (wipeE env vs) = .ok e1 ∧ fe e1 = .ok (out x)) : eLC vs bt bYes fe fi env = .ok (.lst (xs.map out)) := by
  unfold eLC
  rw [hi, Res.bind_ok, if_pos (by rw [List.length_map]; exact hl), compS_of xs enc out H]
theorem eLC_filter {α : Type} {vs : List Nat} {bt : Bt} {ft : Env → Res Bool} {fe : Env → Res D} {fi : Env → Res (List D)} {env : Env} (xs : List α) (enc out : α → D) (p : α → Bool) (hi : fi env = .ok (xs.map enc)) (hl : xs.length ≤ 1000000)
    (H : ∀ x ∈ xs, ∃ e1, bt (enc x) (wipeE env vs) = .ok e1 ∧ ft e1 = .ok (p x) ∧ (p x = true → fe e1 = .ok (out x))) : eLC vs bt ft fe fi env = .ok (.lst ((xs.filter p).map out)) := by
  unfold eLC
  rw [hi, Res.bind_ok, if_pos (by rw [List.length_map]; exact hl), compS_filter xs enc out p H]
theorem indexD_ints {ns : List Int} {i : Int} (h : i ∈ ns) : indexD (.lst (ns.map D.int)) [.int i] = some (.int (ns.idxOf i)) := by
  show (match toInts (ns.map D.int) with
    | some ns => if i ∈ ns then some (D.int (ns.idxOf i)) else none
    | none => none) = _
  rw [toInts_map]
  show (if i ∈ ns then some (D.int (ns.idxOf i)) else none) = _
  rw [if_pos h]
theorem minD_ints {ns : List Int} (h : ns ≠ []) : minD [.lst (ns.map D.int)] = some (.int (minL ns)) := by
  show (match toInts (ns.map D.int) with
    | some (n :: ns) => some (D.int (minL (n :: ns)))
    | _ => none) = _
  rw [toInts_map]
  cases ns with
  | nil => exact absurd rfl h
  | cons n ns => rfl
theorem minL_mem {ns : List Int} (h : ns ≠ []) : minL ns ∈ ns := by
  cases ns with
  | nil => exact absurd rfl h
  | cons n ns => exact minL_spec.1
theorem minL_le {ns : List Int} {y : Int} (hy : y ∈ ns) : minL ns ≤ y := by
  cases ns with
  | nil => cases hy
  | cons n ns => exact minL_spec.2 y hy
section
variable {K : PySem.W.Frag} {Cs : List Addr} {i : Int} {b : Bool} {z : Str} {xs : List D} {t : Tr} {l : List Tr}
theorem isi_of {x : D} {t : Value} {c : String} {r : Bool} (h : tyD Cs x = some t) (hk : PySem.W.kitOne K t (.type c) = some r) : isiD K Cs [x, .ty c] = some (.bl r) := by
  have e : isiD K Cs [x, .ty c] = (match tyD Cs x, some (Value.type c) with
    | some t, some u => (PySem.W.kitOne K t u).map D.bl
    | _, _ => none) := rfl
  rw [e, h]
  show (PySem.W.kitOne K t (.type c)).map D.bl = _
  rw [hk]
  rfl
theorem isi_int_int : isiD K Cs [(.int i), .ty "int"] = some (.bl true) := isi_of rfl kit_int_int
theorem isi_int_bool : isiD K Cs [(.int i), .ty "bool"] = some (.bl false) := isi_of rfl kit_int_bool
theorem isi_int_tuple : isiD K Cs [(.int i), .ty "tuple"] = some (.bl false) := isi_of rfl kit_int_tuple
theorem isi_int_list : isiD K Cs [(.int i), .ty "list"] = some (.bl false) := isi_of rfl kit_int_list
theorem isi_int_str : isiD K Cs [(.int i), .ty "str"] = some (.bl false) := isi_of rfl kit_int_str
theorem isi_bl_int : isiD K Cs [(.bl b), .ty "int"] = some (.bl true) := isi_of rfl kit_bool_int
theorem isi_bl_bool : isiD K Cs [(.bl b), .ty "bool"] = some (.bl true) := isi_of rfl kit_bool_bool
theorem isi_bl_tuple : isiD K Cs [(.bl b), .ty "tuple"] = some (.bl false) := isi_of rfl kit_bool_tuple
theorem isi_bl_list : isiD K Cs [(.bl b), .ty "list"] = some (.bl false) := isi_of rfl kit_bool_list
theorem isi_bl_str : isiD K Cs [(.bl b), .ty "str"] = some (.bl false) := isi_of rfl kit_bool_str
theorem isi_non_int : isiD K Cs [.non, .ty "int"] = some (.bl false) := isi_of rfl kit_non_int
theorem isi_non_bool : isiD K Cs [.non, .ty "bool"] = some (.bl false) := isi_of rfl kit_non_bool
theorem isi_non_tuple : isiD K Cs [.non, .ty "tuple"] = some (.bl false) := isi_of rfl kit_non_tuple
theorem isi_non_list : isiD K Cs [.non, .ty "list"] = some (.bl false) := isi_of rfl kit_non_list
theorem isi_non_str : isiD K Cs [.non, .ty "str"] = some (.bl false) := isi_of rfl kit_non_str
theorem isi_str_int : isiD K Cs [(.str z), .ty "int"] = some (.bl false) := isi_of rfl kit_str_int
theorem isi_str_bool : isiD K Cs [(.str z), .ty "bool"] = some (.bl false) := isi_of rfl kit_str_bool
theorem isi_str_tuple : isiD K Cs [(.str z), .ty "tuple"] = some (.bl false) := isi_of rfl kit_str_tuple
theorem isi_str_list : isiD K Cs [(.str z), .ty "list"] = some (.bl false) := isi_of rfl kit_str_list
theorem isi_str_str : isiD K Cs [(.str z), .ty "str"] = some (.bl true) := isi_of rfl kit_str_str
theorem isi_tup_int : isiD K Cs [(.tup xs), .ty "int"] = some (.bl false) := isi_of rfl kit_tuple_int
theorem isi_tup_bool : isiD K Cs [(.tup xs), .ty "bool"] = some (.bl false) := isi_of rfl kit_tuple_bool
theorem isi_tup_tuple : isiD K Cs [(.tup xs), .ty "tuple"] = some (.bl true) := isi_of rfl kit_tuple_tuple
theorem isi_tup_list : isiD K Cs [(.tup xs), .ty "list"] = some (.bl false) := isi_of rfl kit_tuple_list
theorem isi_tup_str : isiD K Cs [(.tup xs), .ty "str"] = some (.bl false) := isi_of rfl kit_tuple_str
theorem isi_lst_int : isiD K Cs [(.lst xs), .ty "int"] = some (.bl false) := isi_of rfl kit_list_int
theorem isi_lst_bool : isiD K Cs [(.lst xs), .ty "bool"] = some (.bl false) := isi_of rfl kit_list_bool
theorem isi_lst_tuple : isiD K Cs [(.lst xs), .ty "tuple"] = some (.bl false) := isi_of rfl kit_list_tuple
theorem isi_lst_list : isiD K Cs [(.lst xs), .ty "list"] = some (.bl true) := isi_of rfl kit_list_list
theorem isi_lst_str : isiD K Cs [(.lst xs), .ty "str"] = some (.bl false) := isi_of rfl kit_list_str
theorem isi_tr_int : isiD K Cs [(tr t), .ty "int"] = some (.bl false) := isi_of rfl kit_tuple_int
theorem isi_tr_bool : isiD K Cs [(tr t), .ty "bool"] = some (.bl false) := isi_of rfl kit_tuple_bool
theorem isi_tr_tuple : isiD K Cs [(tr t), .ty "tuple"] = some (.bl true) := isi_of rfl kit_tuple_tuple
theorem isi_tr_list : isiD K Cs [(tr t), .ty "list"] = some (.bl false) := isi_of rfl kit_tuple_list
theorem isi_tr_str : isiD K Cs [(tr t), .ty "str"] = some (.bl false) := isi_of rfl kit_tuple_str
theorem isi_bk_int : isiD K Cs [(bk l), .ty "int"] = some (.bl false) := isi_of rfl kit_list_int
theorem isi_bk_bool : isiD K Cs [(bk l), .ty "bool"] = some (.bl false) := isi_of rfl kit_list_bool
theorem isi_bk_tuple : isiD K Cs [(bk l), .ty "tuple"] = some (.bl false) := isi_of rfl kit_list_tuple
theorem isi_bk_list : isiD K Cs [(bk l), .ty "list"] = some (.bl true) := isi_of rfl kit_list_list
theorem isi_bk_str : isiD K Cs [(bk l), .ty "str"] = some (.bl false) := isi_of rfl kit_list_str
theorem isi_dic_int : isiD K Cs [.dic, .ty "int"] = some (.bl false) := isi_of rfl kit_dict_int
theorem isi_dic_bool : isiD K Cs [.dic, .ty "bool"] = some (.bl false) := isi_of rfl kit_dict_bool
theorem isi_dic_tuple : isiD K Cs [.dic, .ty "tuple"] = some (.bl false) := isi_of rfl kit_dict_tuple
theorem isi_dic_list : isiD K Cs [.dic, .ty "list"] = some (.bl false) := isi_of rfl kit_dict_list
theorem isi_dic_str : isiD K Cs [.dic, .ty "str"] = some (.bl false) := isi_of rfl kit_dict_str
theorem isL_bk : isLst (bk l) = true := rfl
end
theorem smallv (i : Int) (h : i.natAbs < 10 ^ 70) : i.natAbs < lim := lim_of (n := 250) (Nat.lt_trans h (by decide)) (by decide)
theorem divD_2 {i : Int} : divD (.int i) (.int 2) = some (.int (i / 2)) := divD_int (by decide) (smallv 2 (by decide))
theorem modD_2 {i : Int} : modD (.int i) (.int 2) = some (.int (i % 2)) := modD_int (by decide)
theorem divD_3 {i : Int} : divD (.int i) (.int 3) = some (.int (i / 3)) := divD_int (by decide) (smallv 3 (by decide))
theorem modD_3 {i : Int} : modD (.int i) (.int 3) = some (.int (i % 3)) := modD_int (by decide)
theorem divD_4 {i : Int} : divD (.int i) (.int 4) = some (.int (i / 4)) := divD_int (by decide) (smallv 4 (by decide))
theorem modD_4 {i : Int} : modD (.int i) (.int 4) = some (.int (i % 4)) := modD_int (by decide)
theorem divD_5 {i : Int} : divD (.int i) (.int 5) = some (.int (i / 5)) := divD_int (by decide) (smallv 5 (by decide))
theorem modD_5 {i : Int} : modD (.int i) (.int 5) = some (.int (i % 5)) := modD_int (by decide)
theorem divD_6 {i : Int} : divD (.int i) (.int 6) = some (.int (i / 6)) := divD_int (by decide) (smallv 6 (by decide))
theorem modD_6 {i : Int} : modD (.int i) (.int 6) = some (.int (i % 6)) := modD_int (by decide)
theorem divD_7 {i : Int} : divD (.int i) (.int 7) = some (.int (i / 7)) := divD_int (by decide) (smallv 7 (by decide))
theorem modD_7 {i : Int} : modD (.int i) (.int 7) = some (.int (i % 7)) := modD_int (by decide)
theorem divD_8 {i : Int} : divD (.int i) (.int 8) = some (.int (i / 8)) := divD_int (by decide) (smallv 8 (by decide))
theorem modD_8 {i : Int} : modD (.int i) (.int 8) = some (.int (i % 8)) := modD_int (by decide)
theorem divD_9 {i : Int} : divD (.int i) (.int 9) = some (.int (i / 9)) := divD_int (by decide) (smallv 9 (by decide))
theorem modD_9 {i : Int} : modD (.int i) (.int 9) = some (.int (i % 9)) := modD_int (by decide)
theorem divD_10 {i : Int} : divD (.int i) (.int 10) = some (.int (i / 10)) := divD_int (by decide) (smallv 10 (by decide))
theorem modD_10 {i : Int} : modD (.int i) (.int 10) = some (.int (i % 10)) := modD_int (by decide)
theorem divD_11 {i : Int} : divD (.int i) (.int 11) = some (.int (i / 11)) := divD_int (by decide) (smallv 11 (by decide))
theorem modD_11 {i : Int} : modD (.int i) (.int 11) = some (.int (i % 11)) := modD_int (by decide)
theorem divD_13 {i : Int} : divD (.int i) (.int 13) = some (.int (i / 13)) := divD_int (by decide) (smallv 13 (by decide))
theorem modD_13 {i : Int} : modD (.int i) (.int 13) = some (.int (i % 13)) := modD_int (by decide)
theorem divD_15 {i : Int} : divD (.int i) (.int 15) = some (.int (i / 15)) := divD_int (by decide) (smallv 15 (by decide))
theorem modD_15 {i : Int} : modD (.int i) (.int 15) = some (.int (i % 15)) := modD_int (by decide)
theorem divD_17 {i : Int} : divD (.int i) (.int 17) = some (.int (i / 17)) := divD_int (by decide) (smallv 17 (by decide))
theorem modD_17 {i : Int} : modD (.int i) (.int 17) = some (.int (i % 17)) := modD_int (by decide)
theorem divD_24 {i : Int} : divD (.int i) (.int 24) = some (.int (i / 24)) := divD_int (by decide) (smallv 24 (by decide))
theorem modD_24 {i : Int} : modD (.int i) (.int 24) = some (.int (i % 24)) := modD_int (by decide)
theorem divD_40 {i : Int} : divD (.int i) (.int 40) = some (.int (i / 40)) := divD_int (by decide) (smallv 40 (by decide))
theorem modD_40 {i : Int} : modD (.int i) (.int 40) = some (.int (i % 40)) := modD_int (by decide)
theorem divD_41 {i : Int} : divD (.int i) (.int 41) = some (.int (i / 41)) := divD_int (by decide) (smallv 41 (by decide))
theorem modD_41 {i : Int} : modD (.int i) (.int 41) = some (.int (i % 41)) := modD_int (by decide)
theorem divD_44 {i : Int} : divD (.int i) (.int 44) = some (.int (i / 44)) := divD_int (by decide) (smallv 44 (by decide))
theorem modD_44 {i : Int} : modD (.int i) (.int 44) = some (.int (i % 44)) := modD_int (by decide)
theorem divD_60 {i : Int} : divD (.int i) (.int 60) = some (.int (i / 60)) := divD_int (by decide) (smallv 60 (by decide))
theorem modD_60 {i : Int} : modD (.int i) (.int 60) = some (.int (i % 60)) := modD_int (by decide)
theorem divD_90 {i : Int} : divD (.int i) (.int 90) = some (.int (i / 90)) := divD_int (by decide) (smallv 90 (by decide))
theorem modD_90 {i : Int} : modD (.int i) (.int 90) = some (.int (i % 90)) := modD_int (by decide)
theorem divD_100 {i : Int} : divD (.int i) (.int 100) = some (.int (i / 100)) := divD_int (by decide) (smallv 100 (by decide))
theorem modD_100 {i : Int} : modD (.int i) (.int 100) = some (.int (i % 100)) := modD_int (by decide)
theorem divD_120 {i : Int} : divD (.int i) (.int 120) = some (.int (i / 120)) := divD_int (by decide) (smallv 120 (by decide))
theorem modD_120 {i : Int} : modD (.int i) (.int 120) = some (.int (i % 120)) := modD_int (by decide)
theorem divD_T30 {i : Int} : divD (.int i) (.int 1000000000000000000000000000000) = some (.int (i / 1000000000000000000000000000000)) := divD_int (by decide) (smallv 1000000000000000000000000000000 (by decide))
theorem modD_T30 {i : Int} : modD (.int i) (.int 1000000000000000000000000000000) = some (.int (i % 1000000000000000000000000000000)) := modD_int (by decide)
theorem divD_T40 {i : Int} : divD (.int i) (.int 10000000000000000000000000000000000000000) = some (.int (i / 10000000000000000000000000000000000000000)) := divD_int (by decide) (smallv 10000000000000000000000000000000000000000 (by decide))
theorem modD_T40 {i : Int} : modD (.int i) (.int 10000000000000000000000000000000000000000) = some (.int (i % 10000000000000000000000000000000000000000)) := modD_int (by decide)
theorem divD_T60 {i : Int} : divD (.int i) (.int 1000000000000000000000000000000000000000000000000000000000000) = some (.int (i / 1000000000000000000000000000000000000000000000000000000000000)) := divD_int (by decide) (smallv 1000000000000000000000000000000000000000000000000000000000000 (by decide))
theorem modD_T60 {i : Int} : modD (.int i) (.int 1000000000000000000000000000000000000000000000000000000000000) = some (.int (i % 1000000000000000000000000000000000000000000000000000000000000)) := modD_int (by decide)
theorem powD_30 : powD (.int 10) (.int 30) = some (.int 1000000000000000000000000000000) := by
  have e : (10 : Int) ^ (30 : Int).toNat = 1000000000000000000000000000000 := by decide +kernel
  show (if (decide ((0 : Int) ≤ 30) && decide ((30 : Int) ≤ 1000) && decide ((10 : Int).natAbs < 2 ^ 60)) = true then some (D.int ((10 : Int) ^ (30 : Int).toNat)) else none) = _
  rw [e]
  rfl
theorem powD_40 : powD (.int 10) (.int 40) = some (.int 10000000000000000000000000000000000000000) := by
  have e : (10 : Int) ^ (40 : Int).toNat = 10000000000000000000000000000000000000000 := by decide +kernel
  show (if (decide ((0 : Int) ≤ 40) && decide ((40 : Int) ≤ 1000) && decide ((10 : Int).natAbs < 2 ^ 60)) = true then some (D.int ((10 : Int) ^ (40 : Int).toNat)) else none) = _
  rw [e]
  rfl
theorem powD_60 : powD (.int 10) (.int 60) = some (.int 1000000000000000000000000000000000000000000000000000000000000) := by
  have e : (10 : Int) ^ (60 : Int).toNat = 1000000000000000000000000000000000000000000000000000000000000 := by decide +kernel
  show (if (decide ((0 : Int) ≤ 60) && decide ((60 : Int) ≤ 1000) && decide ((10 : Int).natAbs < 2 ^ 60)) = true then some (D.int ((10 : Int) ^ (60 : Int).toNat)) else none) = _
  rw [e]
  rfl
theorem low_sm {a b : Int} (ha : 0 ≤ a) (hb : 0 < b) (h1 : Sm a) (h2 : Sm b) : Sm (low a b).1 ∧ Sm (low a b).2 :=
  ⟨Sm.div h1 ha (Int.le_of_lt (gcdI_pos hb)), Sm.div h2 (Int.le_of_lt hb) (Int.le_of_lt (gcdI_pos hb))⟩
theorem sm_lt {i : Int} (h0 : 0 ≤ i) (h : i < 1000000000000000000000000000000000000000000000000000000000000000000000) : Sm i := by
  unfold Sm
  have h1 : i.natAbs < 1000000000000000000000000000000000000000000000000000000000000000000000 := by omega
  exact Nat.lt_trans h1 (by decide)
theorem mulOk_r {i j : Int} (h : j.natAbs < 2 ^ 60) : mulOk i j = true := by
  unfold mulOk
  rw [decide_eq_true h]
  simp
theorem mulOk_l {i j : Int} (h : i.natAbs < 2 ^ 60) : mulOk i j = true := by
  unfold mulOk
  rw [decide_eq_true h]
  simp
theorem zip_map {α : Type} (f g : α → D) : ∀ xs : List α, zipD (xs.map f) (xs.map g) = xs.map fun x => .tup [f x, g x]
  | [] => rfl
  | x :: xs => by
    show D.tup [f x, g x] :: zipD (xs.map f) (xs.map g) = _
    rw [zip_map f g xs]
    rfl
theorem addD_lst {xs ys : List D} (h : xs.length + ys.length ≤ 1000000) : addD (.lst xs) (.lst ys) = some (.lst (xs ++ ys)) := by
  show (if xs.length + ys.length ≤ 1000000 then some (D.lst (xs ++ ys)) else none) = _
  rw [if_pos h]
theorem sumD_ints {ns : List Int} : sumD [.lst (ns.map D.int)] = some (.int ns.sum) := by
  show (toInts (ns.map D.int)).map _ = _
  rw [toInts_map]
  rfl
/-! ### statement by statement -/
section
variable {n : Nat} {g g1 g2 gb : Env → Res Fl} {ds : List D} {d : D} {env e : Env} {r : Res Fl} {fa : Env → Res D} {bt : Bt} {fi : Env → Res (List D)} {fc : Env → Res Bool}
theorem run_rt (h : g (envOf n ds) = .ok (.rt d)) : run n g ds = .ok d := by
  unfold run
  rw [h]
  rfl
theorem run0_rt (h : g (envOf n ds) = .ok (.rt d)) : run0 n g ds = .ok d := by
  unfold run0
  rw [h]
  rfl
theorem run_nx (h : g (envOf n ds) = .ok (.nx e)) : run n g ds = .ok .non := by
  unfold run
  rw [h]
  rfl
theorem seq_nx (h : g1 env = .ok (.nx e)) (hr : g2 e = r) : sSeq g1 g2 env = r := by
  unfold sSeq
  rw [h]
  exact hr
theorem seq_rt (h : g1 env = .ok (.rt d)) : sSeq g1 g2 env = .ok (.rt d) := by
  unfold sSeq
  rw [h]
theorem seq_asg {e1 : Env} (h : fa env = .ok d) (hb : bt d env = .ok e1) (hr : g2 e1 = r) : sSeq (sAsg fa bt) g2 env = r := by
  refine seq_nx ?_ hr
  unfold sAsg
  rw [h, Res.bind_ok, hb]
  rfl
theorem seq_set {i : Nat} (h : fa env = .ok d) (hr : g2 (env.set i (.sh d)) = r) : sSeq (sAsg fa (bNm i)) g2 env = r := seq_asg h rfl hr
theorem seq_ifF (h : fc env = .ok false) (hr : g2 env = r) : sSeq (sIf fc g1 sNil) g2 env = r := by
  refine seq_nx ?_ hr
  unfold sIf
  rw [h]
  rfl
theorem ifF (h : fc env = .ok false) : sIf fc g1 sNil env = .ok (.nx env) := by
  unfold sIf
  rw [h]
  rfl
theorem seq_ifT (h : fc env = .ok true) (hr : g1 env = .ok (.rt d)) : sSeq (sIf fc g1 sNil) g2 env = .ok (.rt d) := by
  refine seq_rt ?_
  unfold sIf
  rw [h]
  exact hr
theorem ret_of (h : fa env = .ok d) : sRet fa env = .ok (.rt d) := by
  unfold sRet
  rw [h]
  rfl
theorem forS_all (I : Env → Prop) : ∀ (ds : List D) (env : Env), I env → (∀ d ∈ ds, ∀ env, I env → ∃ e1, bt d env = .ok e1 ∧ ∃ e2, gb e1 = .ok (.nx e2) ∧ I e2) → ∃ e, forS bt gb ds env = .ok (.nx e) ∧ I e
  | [], env, h, _ => ⟨env, rfl, h⟩
  | d :: ds, env, h, H => by
    obtain ⟨e1, h1, e2, h2, h3⟩ := H d List.mem_cons_self env h
    obtain ⟨e, h4, h5⟩ := forS_all I ds e2 h3 fun d hd => H d (List.mem_cons_of_mem _ hd)
    refine ⟨e, ?_, h5⟩
    show bOk (bt d env) _ = _
    rw [h1, bOk_ok, h2]
    exact h4
theorem for_all (I : Env → Prop) (hi : fi env = .ok ds) (h0 : I env) (H : ∀ d ∈ ds, ∀ env, I env → ∃ e1, bt d env = .ok e1 ∧ ∃ e2, gb e1 = .ok (.nx e2) ∧ I e2) : ∃ e, sFor fi bt gb env = .ok (.nx e) ∧ I e := by
  unfold sFor
  rw [hi]
  exact forS_all I ds env h0 H
theorem seq_for (I : Env → Prop) (hi : fi env = .ok ds) (h0 : I env) (H : ∀ d ∈ ds, ∀ env, I env → ∃ e1, bt d env = .ok e1 ∧ ∃ e2, gb e1 = .ok (.nx e2) ∧ I e2) (hr : ∀ e, I e → g2 e = r) : sSeq (sFor fi bt gb) g2 env = r := by
  obtain ⟨e, h1, h2⟩ := for_all I hi h0 H
  exact seq_nx h1 (hr e h2)
end
theorem mem_enum : ∀ {n : Nat} {ds : List D} {d : D}, d ∈ enumFrom n ds → ∃ (i : Nat) (x : D), x ∈ ds ∧ d = .tup [.int (i : Int), x] ∧ ds[i - n]? = some x ∧ n ≤ i
  | n, [], d, h => by cases h
  | n, y :: ds, d, h => by
    rcases List.mem_cons.mp h with rfl | h
    · exact ⟨n, y, List.mem_cons_self, rfl, by rw [Nat.sub_self]; rfl, Nat.le_refl _⟩
    · obtain ⟨i, x, h1, h2, h3, h4⟩ := mem_enum h
      refine ⟨i, x, List.mem_cons_of_mem _ h1, h2, ?_, by omega⟩
      rw [show i - n = (i - (n + 1)) + 1 by omega]
      exact h3
theorem eqB_self {d : D} {p : PyData} (h0 : scV d = none) (h : toPy d = some p) (hs : SeqAt.shaped p = true) : eqB d d = some true := by
  unfold eqB
  rw [h0, h]
  show (if (SeqAt.shaped p && SeqAt.shaped p) = true then some (PyData.eqv p p) else none) = _
  rw [hs, SeqAt.eqv_refl p (SeqAt.canLay_of_shaped hs)]
  rfl
theorem eqD_self {d : D} {p : PyData} (h0 : scV d = none) (h : toPy d = some p) (hs : SeqAt.shaped p = true) : eqD d d = some (.bl true) := by
  unfold eqD
  rw [eqB_self h0 h hs]
  rfl
theorem neD_self {d : D} {p : PyData} (h0 : scV d = none) (h : toPy d = some p) (hs : SeqAt.shaped p = true) : neD d d = some (.bl false) := by
  unfold neD
  rw [eqB_self h0 h hs]
  rfl
/-- the items of xs[lo:hi:k] are xs's -/
theorem pickG_mem {α : Type} {xs : List α} {lo hi : Option Int} {k : Int} {x : α} (h : x ∈ pickG xs lo hi k) : x ∈ xs := by
  unfold pickG at h
  obtain ⟨i, _, e⟩ := List.mem_filterMap.mp h
  exact List.mem_of_getElem? e
theorem pickG_map {α β : Type} (f : α → β) (xs : List α) (lo hi : Option Int) (k : Int) : pickG (xs.map f) lo hi k = (pickG xs lo hi k).map f := by
  unfold pickG
  rw [List.length_map, List.map_filterMap]
  congr 1
  funext i
  rw [List.getElem?_map]
theorem slSt_map {α : Type} (f : α → D) {xs : List α} {lo hi : Option Int} {k : Int} (hk : k ≠ 0) (hl : xs.length ≤ 1000000) : slStD lo hi (some k) (.lst (xs.map f)) = some (.lst ((pickG xs lo hi k).map f)) := by
  show (if k ≠ 0 ∧ (xs.map f).length ≤ 1000000 then some (D.lst (pickG (xs.map f) lo hi k)) else none) = _
  rw [if_pos ⟨hk, by rw [List.length_map]; exact hl⟩, pickG_map]
end Dt
namespace Dt
open PySem PySem.Spec PyProof.Rows L2
/-! ## attributes -/
def fldD (Cs : List Addr) (f : Str) : D → Option D
  | .ins C fs => if C ∈ Cs then fs.lookup f else none
  | _ => none
def eFld (Cs : List Addr) (f : Str) (fa : Env → Res D) : Env → Res D := eUn (fldD Cs f) fa
section
variable {X : Cx} {W : WX} {e : Expr} {f : Str} {pos : Pos} {fa fb : Env → Res D} {Cs : List Addr}
theorem pd_fld (hC : ∀ C ∈ Cs, Cls X.K C ∧ NoAttr X.K C f) (h : PE X e (tD X.K W fa)) (hb : attributeBase e f X.env (eval e X.env) = eval e X.env := by rfl) : PE X (.Attribute e f pos) (tD X.K W (eFld Cs f fa)) :=
  PE.imp (pe_fld h hb) fun σ H Q h => by
  obtain ⟨H0, env, er, k⟩ := h
  refine ⟨H0, env, er, Kt.seq er k fun x a A B gr er' rx k' => ?_⟩
  obtain ⟨d, e1, q⟩ := kt_ofO er'.sub k'
  cases a with
  | ins C ds =>
    have e1 : (if C ∈ Cs then ds.lookup f else none) = some d := e1
    by_cases c : C ∈ Cs
    · rw [if_pos c] at e1
      cases rx with
      | ins hA rf =>
      obtain ⟨v, e2, rv⟩ := rf.lookup e1
      exact ⟨_, C, _, _, v, rfl, er'.sub _ _ hA, (hC C c).1, (hC C c).2, e2, q v A B (Grow.refl er'.sub) rv⟩
    · rw [if_neg c] at e1
      cases e1
  | _ => cases e1
/-- one way or another -/
def eAlt (f g : Env → Res D) : Env → Res D := fun env => match f env with
  | .no => g env
  | r => r
theorem pd_alt (h1 : PE X e (tD X.K W fa)) (h2 : PE X e (tD X.K W fb)) : PE X e (tD X.K W (eAlt fa fb)) := ⟨fun pins s σ H Q I h => by
  obtain ⟨H0, env, er, k⟩ := h
  cases e1 : fa env with
  | no =>
    refine h2.run pins s σ H Q I ⟨H0, env, er, ?_⟩
    unfold eAlt at k
    rw [e1] at k
    exact k
  | ex C =>
    refine h1.run pins s σ H Q I ⟨H0, env, er, ?_⟩
    unfold eAlt at k
    rw [e1] at k ⊢
    exact k
  | ok a =>
    refine h1.run pins s σ H Q I ⟨H0, env, er, ?_⟩
    unfold eAlt at k
    rw [e1] at k ⊢
    exact k⟩
end
/-! ## methods -/
def noEx {α : Type} : Res α → Res α
  | .ex _ => .no
  | r => r
def eMth (C : Addr) (m : Str) (φ : List D → Res D) (fo : Env → Res D) (fl : Env → Res (List D)) : Env → Res D := fun env => (fo env).bind fun o => match o with
  | .ins C' fs => if C' = C ∧ (fs.lookup m).isNone = true then (fl env).bind fun ds => noEx (φ (.ins C' fs :: ds)) else .no
  | _ => .no
theorem repf_isNone {K : PySem.W.Frag} {H : Hp} {f : Str} {vs : List (Str × V)} {ds : List (Str × D)} (r : Repf K H vs ds) (h : (ds.lookup f).isNone = true) : vs.lookup f = none := by
  refine r.none_of ?_
  cases e : ds.lookup f with
  | none => rfl
  | some d => rw [e] at h; cases h
theorem cx_false {P : Program} {w : World} {st : List PySem.Env} (H : Hp) (s : Shared) (e : Value) (s' : Shared) (h : L2.CX P w st H s (fun _ _ _ => False) e s') : False := by
  obtain ⟨_, _, _, _, _, _, _, _, _, _, _, _, z⟩ := h
  exact z.elim
section
variable {X : Cx} {W : WX} {k n : Nat} {f C : Addr} {ps : List Str} {φ : List D → Res D} {x m : Str} {p pos apos : Pos} {e o : Expr} {es : List Expr} {fo : Env → Res D} {fl : Env → Res (List D)}
theorem pd_meth (F : Held X.prog X.w X.K X.mg X.base k f ps φ) (hr : Room k X.A) (c : Cls X.K C) (hm : Meth X.K C m f) (ho : PE X o (tD X.K W fo)) (ha : PA X (e :: es) (tDs X.K W fl)) (hn : ArgE n fl) (hps : ps.length = n + 1 := by rfl)
    (hst : starEach (e :: es) X.env = (false, eval e X.env) :: starEach es X.env := by rfl) (hpl : (backTo pos (starEach es X.env)).any (·.1) = false := by rfl) {pl : Sem Bool}
    (ht : eval (.Call (.Attribute o m apos) (e :: es) [] pos) X.env = (do
      let ov ← eval o X.env
      standAt apos.atName
      let (f, first) ← holding [ov] (getMethod ov m pl)
      callWith pos f first (backTo pos (starEach (e :: es) X.env)) (backToKw pos (keywordEach [] X.env))) := by rfl) :
    PE X (.Call (.Attribute o m apos) (e :: es) [] pos) (tD X.K W (eMth C m φ fo fl)) := by
  obtain ⟨fd, F, b, kp⟩ := F
  refine PE.imp (pe_meth (pl := pl) (E := fun _ _ _ => False) ho c hm F hr b .nil (fun pins σ H s e s' I h => (cx_false H s e s' h).elim) ha hst hpl ht) fun σ H Q h => ?_
  obtain ⟨H0, env, er, k⟩ := h
  refine ⟨H0, env, er, Kt.seq er k fun x a A B gr er' rx k' => ?_⟩
  cases a with
  | ins C' ds =>
    replace k' : Kt (rD X.K) W σ A B (if C' = C ∧ (ds.lookup m).isNone = true then (fl env).bind fun es => noEx (φ (.ins C' ds :: es)) else .no) Q := k'
    by_cases c : C' = C ∧ (ds.lookup m).isNone = true
    · rw [if_pos c] at k'
      obtain ⟨c1, c2⟩ := c
      cases rx with
      | ins hA rf =>
      refine ⟨_, _, _, rfl, by rw [← c1]; exact er'.sub _ _ hA, repf_isNone rf c2, A, env, er', ?_⟩
      have hl := hn env
      cases e1 : fl env with
      | no => rw [e1] at k'; exact k'
      | ex C => rw [e1] at k'; exact k'
      | ok es =>
        rw [e1] at k'
        intro xs A2 B2 g2 rs
        rw [List.append_nil]
        have k2 := Kt.shift g2 k'
        refine ⟨A2, .ins C' ds :: es, g2.sub, .cons ((Rep.ins hA rf).mono g2.s0) rs, by rw [List.length_cons, hl es e1, hps], ?_⟩
        cases e2 : φ (.ins C' ds :: es) with
        | no => rw [Res.bind_ok, e2] at k2; exact k2
        | ex C => rw [Res.bind_ok, e2] at k2; exact k2.elim
        | ok d => rw [Res.bind_ok, e2] at k2; exact k2
    · rw [if_neg c] at k'
      exact k'.elim
  | _ => exact k'.elim
end
/-! ## instances made -/
/-- fields: known ones, and lists of one's own -/
inductive RepO (K : PySem.W.Frag) (A H H' : Hp) : List Addr → List (Str × V) → List (Str × D) → Prop
  | nil : RepO K A H H' [] [] []
  | sh {L : List Addr} {vs : List (Str × V)} {ds : List (Str × D)} {n : Str} {v : V} {d : D} : isLst d = false → Rep K A v d → RepO K A H H' L vs ds → RepO K A H H' L ((n, v) :: vs) ((n, d) :: ds)
  | ow {L : List Addr} {vs : List (Str × V)} {ds : List (Str × D)} {n : Str} {q : Addr} {ws : List V} {es : List D} : H q = none → H' q = some (.lst ws) → Reps K A ws es → q ∉ L → RepO K A H H' L vs ds → RepO K A H H' (q :: L) ((n, .ref q) :: vs) ((n, .lst es) :: ds)
section
variable {K : PySem.W.Frag} {A A' H H' H'' : Hp} {L : List Addr} {vs : List (Str × V)} {ds : List (Str × D)}
theorem RepO.heap (h : RepO K A H H' L vs ds) (k : ∀ q ∈ L, H'' q = H' q) : RepO K A H H'' L vs ds := by
  induction h with
  | nil => exact .nil
  | sh nl r _ ih => exact .sh nl r (ih k)
  | ow h1 h2 h3 h4 _ ih => exact .ow h1 ((k _ List.mem_cons_self).trans h2) h3 h4 (ih fun q hq => k q (List.mem_cons_of_mem _ hq))
theorem RepO.known (h : RepO K A H H' L vs ds) (s : Same A A') : RepO K A' H H' L vs ds := by
  induction h with
  | nil => exact .nil
  | sh nl r _ ih => exact .sh nl (r.mono s) ih
  | ow h1 h2 h3 h4 _ ih => exact .ow h1 h2 (h3.mono s) h4 ih
theorem RepO.new (h : RepO K A H H' L vs ds) : ∀ q ∈ L, H q = none ∧ ∃ ws, H' q = some (.lst ws) := by
  induction h with
  | nil => exact fun q hq => (by cases hq)
  | sh nl r _ ih => exact ih
  | ow h1 h2 h3 h4 _ ih =>
    intro q hq
    rcases List.mem_cons.mp hq with rfl | hq
    · exact ⟨h1, _, h2⟩
    · exact ih q hq
theorem RepO.sh_end {n : Str} {v : V} {d : D} (h : RepO K A H H' L vs ds) (hn : isLst d = false) (r : Rep K A v d) : RepO K A H H' L (vs ++ [(n, v)]) (ds ++ [(n, d)]) := by
  induction h with
  | nil => exact .sh hn r .nil
  | sh nl r' _ ih => exact .sh nl r' ih
  | ow h1 h2 h3 h4 _ ih => exact .ow h1 h2 h3 h4 ih
theorem RepO.ow_end {n : Str} {q : Addr} {ws : List V} {es : List D} (h : RepO K A H H' L vs ds) (h1 : H q = none) (h2 : H' q = some (.lst ws)) (h3 : Reps K A ws es) (h4 : q ∉ L) : RepO K A H H' (L ++ [q]) (vs ++ [(n, .ref q)]) (ds ++ [(n, .lst es)]) := by
  induction h with
  | nil => exact .ow h1 h2 h3 (by simp) .nil
  | sh nl r' _ ih => exact .sh nl r' (ih h4)
  | ow g1 g2 g3 g4 _ ih =>
    refine .ow g1 g2 g3 ?_ (ih fun z => h4 (List.mem_cons_of_mem _ z))
    intro z
    rcases List.mem_append.mp z with z | z
    · exact g4 z
    · rcases List.mem_singleton.mp z with rfl
      exact h4 List.mem_cons_self
theorem RepO.names (h : RepO K A H H' L vs ds) : vs.map (·.1) = ds.map (·.1) := by
  induction h with
  | nil => rfl
  | sh nl r _ ih => rw [List.map_cons, List.map_cons, ih]
  | ow h1 h2 h3 h4 _ ih => rw [List.map_cons, List.map_cons, ih]
/-- all known -/
theorem RepO.repf (h : RepO K A H H' L vs ds) (s : Same A A') (k : ∀ q ∈ L, A' q = H' q) : Repf K A' vs ds := by
  induction h with
  | nil => exact .nil
  | sh nl r _ ih => exact .cons (r.mono s) (ih k)
  | ow h1 h2 h3 h4 _ ih => exact .cons (.lst (SqL.of ((k _ List.mem_cons_self).trans h2)) (h3.mono s)) (ih fun q hq => k q (List.mem_cons_of_mem _ hq))
end
theorem putF_new (f : Str) (y : V) : ∀ fs : List (Str × V), f ∉ fs.map (·.1) → putF f y fs = fs ++ [(f, y)]
  | [], _ => rfl
  | (g, x) :: r, h => by
    have ne : g ≠ f := fun z => h (by rw [List.map_cons, z]; exact List.mem_cons_self)
    show (if g = f then (g, y) :: r else (g, x) :: putF f y r) = _
    rw [if_neg ne, putF_new f y r fun z => h (by rw [List.map_cons]; exact List.mem_cons_of_mem _ z)]
    rfl
abbrev Fs := List (Str × D)
/-- what an __init__ promises -/
def spI (K : PySem.W.Frag) (C : Addr) (n : Nat) (g : List D → Option Fs) : Sp := fun vs H Q _ => ∃ x dx us A ds fs, vs = .ref x :: us ∧ H x = some (.ins C dx []) ∧ A x = none ∧ Same A H ∧ Reps K A us ds ∧ ds.length = n ∧ g ds = some fs ∧
  ∀ vfs L H', (∀ b o, b ≠ x → H b = some o → H' b = some o) → H' x = some (.ins C dx vfs) → RepO K A H H' L vfs fs → Q .non H'
theorem spI_len {K : PySem.W.Frag} {C : Addr} {n : Nat} {g : List D → Option Fs} {ps : List Str} (h : ps.length = n + 1) : ∀ vs H Q E, spI K C n g vs H Q E → vs.length = ps.length := fun vs H Q E ⟨x, dx, us, A, ds, fs, e, _, _, _, r, l, _⟩ => by
  rw [e, List.length_cons, r.length, l, h]
def noOw (env : Env) : Prop := ∀ (i : Nat), (∀ ds : List D, env[i]? ≠ some (.ow ds)) ∧ ∀ C fs, env[i]? ≠ some (.oi C fs)
theorem ER.plain {K : PySem.W.Frag} {σ : L2.St} {A H H' : Hp} {env : Env} (r : ER K σ A H env) (n : noOw env) (s : Same A H') : ER K σ A H' env :=
  ⟨s, r.len, r.sh, fun i ds e => ((n i).1 ds e).elim, r.ap, fun i C fs e => ((n i).2 C fs e).elim, r.o1⟩
def Gi := Env → Fs → Option Fs
structure Ini (K : PySem.W.Frag) (C x dx : Addr) (A H0 : Hp) (env : Env) (σ : L2.St) (H : Hp) (vfs : List (Str × V)) (L : List Addr) (fs : Fs) : Prop where
  sl : σ[0]? = some (some (.ref x))
  er : ER K σ A H env
  no : noOw env
  ax : A x = none
  sm : Same A H0
  hx : H x = some (.ins C dx vfs)
  keep : ∀ b o, b ≠ x → H0 b = some o → H b = some o
  old : H0 x ≠ none
  rp : RepO K A H0 H L vfs fs
  few : fs.length ≤ 30
def tIn (K : PySem.W.Frag) (C : Addr) (g : Gi) : TS := fun Dd σ H => ∃ x dx A H0 env vfs L fs, Ini K C x dx A H0 env σ H vfs L fs ∧ ∃ fs', g env fs = some fs' ∧
  ∀ vfs' L' H', Ini K C x dx A H0 env σ H' vfs' L' fs' → Dd.nx σ H'
def inNil : Gi := fun _ fs => some fs
def inSeq (g1 g2 : Gi) : Gi := fun env fs => (g1 env fs).bind fun fs' => g2 env fs'
def inSh (f : Str) (i : Nat) : Gi := fun env fs => match env[i]? with
  | some (.sh d) => if (f ∉ fs.map (·.1) ∧ fs.length < 30) ∧ isLst d = false then some (fs ++ [(f, d)]) else none
  | _ => none
def inLs (f : Str) (i : Nat) : Gi := fun env fs => match env[i]? with
  | some (.sh (.lst ds)) => if f ∉ fs.map (·.1) ∧ fs.length < 30 then some (fs ++ [(f, .lst ds)]) else none
  | _ => none
section
variable {X : Cx} {C : Addr} {g g1 g2 : Gi} {st : Stmt} {rest : List Stmt} {f x0 y : Str} {p0 p1 p2 p3 pos : Pos}
theorem in_nil : PSs X [] (tIn X.K C inNil) := PSs.imp pss_nil fun Dd σ H h => by
  obtain ⟨x, dx, A, H0, env, vfs, L, fs, I, fs', e, q⟩ := h
  cases e
  exact q vfs L H I
theorem in_cons (h1 : PS X st (tIn X.K C g1)) (h2 : PSs X rest (tIn X.K C g2)) : PSs X (st :: rest) (tIn X.K C (inSeq g1 g2)) := PSs.imp (pss_cons h1 h2) fun Dd σ H h => by
  obtain ⟨x, dx, A, H0, env, vfs, L, fs, I, fs', e, q⟩ := h
  unfold inSeq at e
  cases e1 : g1 env fs with
  | none => rw [e1] at e; cases e
  | some f1 =>
    rw [e1] at e
    exact ⟨x, dx, A, H0, env, vfs, L, fs, I, f1, e1, fun vfs' L' H' I' => ⟨x, dx, A, H0, env, vfs', L', f1, I', fs', e, q⟩⟩
theorem ini_put {K : PySem.W.Frag} {x dx : Addr} {A H0 : Hp} {env : Env} {σ : L2.St} {H : Hp} {vfs : List (Str × V)} {L : List Addr} {fs : Fs} {v : V} {d : D} (I : Ini K C x dx A H0 env σ H vfs L fs) (hn : isLst d = false) (r : Rep K A v d) (hf : f ∉ fs.map (·.1)) (hl : fs.length < 30) :
    Ini K C x dx A H0 env σ (upd H x (.ins C dx (putF f v vfs))) (putF f v vfs) L (fs ++ [(f, d)]) := by
  have e : putF f v vfs = vfs ++ [(f, v)] := putF_new f v vfs (by rw [I.rp.names]; exact hf)
  have sub : Same A (upd H x (.ins C dx (putF f v vfs))) := fun b o z => by
    rw [upd_ne (ne_of_none z I.ax)]
    exact I.er.sub b o z
  refine ⟨I.sl, I.er.plain I.no sub, I.no, I.ax, I.sm, upd_same, fun b o hb z => by rw [upd_ne hb]; exact I.keep b o hb z, I.old, ?_, by rw [List.length_append]; show fs.length + 1 ≤ 30; omega⟩
  rw [e]
  refine (I.rp.sh_end hn r).heap fun q hq => ?_
  have ne : q ≠ x := fun z => I.old (z ▸ (I.rp.new q hq).1)
  rw [upd_ne ne]
/-- self.f = y -/
theorem in_sh (c : Cls X.K C) (hf : NoAttr X.K C f) (i : Nat) (hN0 : X.N[0]? = some x0 := by rfl) (hv0 : Vis X.env.scope x0 := by first | exact Or.inl rfl | exact Or.inr (Or.inl rfl)) (hN : X.N[i]? = some y := by rfl) (hv : Vis X.env.scope y := by first | exact Or.inl rfl | exact Or.inr (Or.inl rfl))
    (hs : swapsWith (.Name y p3) (some (.Attribute (.Name x0 p1) f p2)) pos.line X.env = pure false := by rfl) (hd0 : (x0 == ("__debug__" : Str)) = false := by decide) (hcd0 : (x0 == ("__classdict__" : Str)) = false := by decide) (hd : (y == ("__debug__" : Str)) = false := by decide) (hcd : (y == ("__classdict__" : Str)) = false := by decide) :
    PS X (.Assign [.Attribute (.Name x0 p1) f p2] (.Name y p3) pos) (tIn X.K C (inSh f i)) := PS.imp (ps_fld (pe_var hN0 hv0 hd0 hcd0) (pe_var hN hv hd hcd) hs) fun Dd σ H h => by
  obtain ⟨x, dx, A, H0, env, vfs, L, fs, I, fs', e, q⟩ := h
  unfold inSh at e
  cases e1 : env[i]? with
  | none => rw [e1] at e; cases e
  | some s =>
    rw [e1] at e
    cases s with
    | no => cases e
    | ow ds => cases e
    | oi C fs => cases e
    | sh d =>
      have e : (if (f ∉ fs.map (·.1) ∧ fs.length < 30) ∧ isLst d = false then some (fs ++ [(f, d)]) else none) = some fs' := e
      by_cases cc : (f ∉ fs.map (·.1) ∧ fs.length < 30) ∧ isLst d = false
      · rw [if_pos cc] at e
        cases e
        obtain ⟨v, h1, h2⟩ := I.er.sh i d e1
        have lv : vfs.length = fs.length := by
          have z := congrArg List.length I.rp.names
          rwa [List.length_map, List.length_map] at z
        exact ⟨v, h1, .ref x, I.sl, x, C, dx, vfs, rfl, I.hx, c, hf, by rw [lv]; omega, q _ _ _ (ini_put I cc.2 h2 cc.1.1 cc.1.2)⟩
      · rw [if_neg cc] at e
        cases e
/-- self.f = list(y) -/
theorem in_ls (c : Cls X.K C) (hf : NoAttr X.K C f) (i : Nat) (hg : Gl X "list") (hm : X.mg "list" = none) {pc : Pos} (hN0 : X.N[0]? = some x0 := by rfl) (hv0 : Vis X.env.scope x0 := by first | exact Or.inl rfl | exact Or.inr (Or.inl rfl)) (hN : X.N[i]? = some y := by rfl) (hv : Vis X.env.scope y := by first | exact Or.inl rfl | exact Or.inr (Or.inl rfl))
    (hs : swapsWith (.Call (.Name "list" p0) [.Name y p3] [] pc) (some (.Attribute (.Name x0 p1) f p2)) pos.line X.env = pure false := by rfl) (he : starEach [.Name y p3] X.env = (false, eval (.Name y p3) X.env) :: starEach [] X.env := by rfl) (hpl : (backTo pc (starEach ([] : List Expr) X.env)).any (·.1) = false := by rfl) (hd0 : (x0 == ("__debug__" : Str)) = false := by decide) (hcd0 : (x0 == ("__classdict__" : Str)) = false := by decide) (hd : (y == ("__debug__" : Str)) = false := by decide) (hcd : (y == ("__classdict__" : Str)) = false := by decide) :
    PS X (.Assign [.Attribute (.Name x0 p1) f p2] (.Call (.Name "list" p0) [.Name y p3] [] pc) pos) (tIn X.K C (inLs f i)) := PS.imp (ps_fld (pe_var hN0 hv0 hd0 hcd0) (pe_callTy call_list_of hg hm (by decide +kernel) (pa_cons (pe_var hN hv hd hcd) pa_nil he) (by decide) (by decide) he hpl) hs) fun Dd σ H h => by
  obtain ⟨x, dx, A, H0, env, vfs, L, fs, I, fs', e, q⟩ := h
  unfold inLs at e
  cases e1 : env[i]? with
  | none => rw [e1] at e; cases e
  | some s =>
    rw [e1] at e
    cases s with
    | no => cases e
    | ow ds => cases e
    | oi C fs => cases e
    | sh d =>
      cases d with
      | lst ds =>
        have e : (if f ∉ fs.map (·.1) ∧ fs.length < 30 then some (fs ++ [(f, D.lst ds)]) else none) = some fs' := e
        by_cases cc : f ∉ fs.map (·.1) ∧ fs.length < 30
        · rw [if_pos cc] at e
          cases e
          obtain ⟨v, h1, h2⟩ := I.er.sh i (.lst ds) e1
          cases h2 with
          | @lst a vs _ hq rr =>
          have lv : vfs.length = fs.length := by
            have z := congrArg List.length I.rp.names
            rwa [List.length_map, List.length_map] at z
          refine ⟨_, h1, a, vs, rfl, .inl (Same.seq I.er.sub hq), fun l hl => ⟨.ref x, I.sl, x, C, dx, vfs, rfl, ?_, c, hf, by rw [lv]; omega, q (putF f (.ref l) vfs) (L ++ [l]) _ ?_⟩⟩
          · rw [upd_ne (ne_of_none I.hx hl)]
            exact I.hx
          · have nx : x ≠ l := ne_of_none I.hx hl
            have al : A l = none := Same.free I.er.sub hl
            have e : putF f (.ref l) vfs = vfs ++ [(f, .ref l)] := putF_new f _ vfs (by rw [I.rp.names]; exact cc.1)
            have h0l : H0 l = none := by
              cases z : H0 l with
              | none => rfl
              | some o =>
                have := I.keep l o (Ne.symm nx) z
                rw [hl] at this
                cases this
            have nL : l ∉ L := fun z => by
              obtain ⟨ws, h2⟩ := (I.rp.new l z).2
              rw [hl] at h2
              cases h2
            refine ⟨I.sl, I.er.plain I.no fun b o z => ?_, I.no, I.ax, I.sm, upd_same, fun b o hb z => ?_, I.old, ?_, by rw [List.length_append]; show fs.length + 1 ≤ 30; omega⟩
            · rw [upd_ne (ne_of_none z I.ax), upd_ne (ne_of_none z al)]
              exact I.er.sub b o z
            · rw [upd_ne hb, upd_ne (ne_of_none z h0l)]
              exact I.keep b o hb z
            · rw [e]
              have base : RepO X.K A H0 (upd (upd H l (.lst vs)) x (.ins C dx (vfs ++ [(f, .ref l)]))) L vfs fs := I.rp.heap fun p hp => by
                have n1 : p ≠ x := fun z => I.old (z ▸ (I.rp.new p hp).1)
                have n2 : p ≠ l := fun z => nL (z ▸ hp)
                rw [upd_ne n1, upd_ne n2]
              exact base.ow_end h0l (by rw [upd_ne (Ne.symm nx), upd_same]) rr nL
        · rw [if_neg cc] at e
          cases e
      | _ => cases e
end
section
variable {P : Program} {w : World} {K : PySem.W.Frag} {mg : Str → Option Value} {base : Heap} {x qual : Str} {params : Arguments} {body : List Stmt} {scope : Scope} {f C : Addr} {fd : FuncData}
/-- an __init__ that sets fields: no names of its own but the parameters -/
theorem fn_init {N ps : List Str} {n : Nat} {g : Gi} (F : L2.FunD K x qual params body scope [] [] f fd) (S : FnScope N ps scope) (hps : ps.length = n + 1) (hN : N.length = n + 1)
    (hb : ∀ (cdv : Value) (A : Around) (outer : List PySem.Env) (s : Shared) (H : Hp) (E : XK), Room 0 (A.deeper (envOfC qual scope s.heap.objs.size f cdv)) →
      PSs (cxOf (L2.CX P w) P w K mg base N qual scope f cdv A outer s H E) body (tIn K C g)) : FnOk P w K mg base (L2.CX P w) 1 f fd ps (spI K C n fun ds => g (.no :: ds.map Sl.sh) []) := by
  refine F.ok S (spI_len hps) fun cdv A outer s H vs Q E hr h => ?_
  obtain ⟨x, dx, us, A0, ds, fs, rfl, hx, ax, sm, r, hl, hg, q⟩ := h
  refine ⟨_, hb cdv A outer s H E hr, x, dx, A0, H, .no :: ds.map Sl.sh, [], [], [], ⟨rfl, ?_, ?_, ax, sm, hx, fun b o _ z => z, by rw [hx]; exact fun z => (by cases z), .nil, by decide⟩, fs, hg, fun vfs L H' I => q vfs L H' I.keep I.hx I.rp⟩
  · have er := er_start (K := K) (N := N) (vs := .non :: us) (ds := .non :: ds) sm (.cons .non r)
    have er2 := er.forget (i := 0) (o := some (.ref x))
    have e1 : (L2.start N (V.non :: us)).set 0 (some (.ref x)) = L2.start N (.ref x :: us) := rfl
    have e2 : (envOf N.length (D.non :: ds)).set 0 .no = .no :: ds.map Sl.sh := by
      unfold envOf
      rw [List.length_cons, hl, hN, Nat.sub_self]
      simp
    rw [e1, e2] at er2
    exact er2
  · have key : ∀ (i : Nat) (s : Sl), (Sl.no :: ds.map Sl.sh)[i]? = some s → s = .no ∨ ∃ d, s = .sh d := fun i s z => by
      cases i with
      | zero => cases z; exact .inl rfl
      | succ i =>
        rw [List.getElem?_cons_succ, List.getElem?_map] at z
        cases e : ds[i]? with
        | none => rw [e] at z; cases z
        | some d => rw [e] at z; cases z; exact .inr ⟨_, rfl⟩
    refine fun i => ⟨fun es z => ?_, fun C fs z => ?_⟩
    · rcases key i _ z with w | ⟨d, w⟩ <;> cases w
    · rcases key i _ z with w | ⟨d, w⟩ <;> cases w
end
def HeldI (P : Program) (w : World) (K : PySem.W.Frag) (mg : Str → Option Value) (base : Heap) (f : Addr) (C : Addr) (n : Nat) (g : List D → Option Fs) : Prop :=
  ∃ fd ps, FnOk P w K mg base (L2.CX P w) 1 f fd ps (spI K C n g) ∧ Binds K fd ps []
def eMk (C : Addr) (g : List D → Option Fs) (fl : Env → Res (List D)) : Env → Res D := fun env => (fl env).bind fun ds => match g ds with
  | some fs => .ok (.ins C fs)
  | none => .no
/-- the known part with the new instance -/
theorem grow_ins {K : PySem.W.Frag} {A B H' : Hp} {C x dx : Addr} {vfs : List (Str × V)} {L : List Addr} {fs : Fs} (sub : Same A B) (hx : B x = none) (hd : B dx = none) (ne : dx ≠ x)
    (kp : ∀ b o, b ≠ x → upd (upd B dx (.own x)) x (.ins C dx []) b = some o → H' b = some o) (h' : H' x = some (.ins C dx vfs)) (r : RepO K A (upd (upd B dx (.own x)) x (.ins C dx [])) H' L vfs fs) :
    ∃ A', Grow A B A' H' ∧ Rep K A' (.ref x) (.ins C fs) := by
  classical
  have ax : A x = none := Same.free sub hx
  have hL : ∀ q ∈ L, B q = none ∧ q ≠ x := fun q hq => by
    have z := (r.new q hq).1
    have n1 : q ≠ x := fun e => by rw [e, upd_same] at z; cases z
    rw [upd_ne n1] at z
    have n2 : q ≠ dx := fun e => by rw [e, upd_same] at z; cases z
    rw [upd_ne n2] at z
    exact ⟨z, n1⟩
  let A' : Hp := fun b => if b = x ∨ b ∈ L then H' b else A b
  have sA : Same A A' := fun b o e => by
    show (if b = x ∨ b ∈ L then H' b else A b) = some o
    by_cases c : b = x ∨ b ∈ L
    · rcases c with rfl | c
      · rw [ax] at e; cases e
      · have := Same.free sub (hL b c).1
        rw [this] at e; cases e
    · rw [if_neg c]; exact e
  have bk : Same B H' := fun b o e => by
    have n1 : b ≠ x := ne_of_none e hx
    have n2 : b ≠ dx := ne_of_none e hd
    exact kp b o n1 (by rw [upd_ne n1, upd_ne n2]; exact e)
  refine ⟨A', ⟨sA, bk, fun b o e => ?_, fun p hp e => ?_⟩, .ins (dx := dx) (fs := vfs) ?_ (r.repf sA fun q hq => ?_)⟩
  · have e : (if b = x ∨ b ∈ L then H' b else A b) = some o := e
    by_cases c : b = x ∨ b ∈ L
    · rw [if_pos c] at e; exact e
    · rw [if_neg c] at e; exact bk b o (sub b o e)
  · show (if p = x ∨ p ∈ L then H' p else A p) = none
    rw [if_neg]
    · exact e
    · rintro (rfl | c)
      · exact hp hx
      · exact hp (hL p c).1
  · show (if x = x ∨ x ∈ L then H' x else A x) = _
    rw [if_pos (.inl rfl)]
    exact h'
  · show (if q = x ∨ q ∈ L then H' q else A q) = _
    rw [if_pos (.inr hq)]
section
variable {X : Cx} {W : WX} {n : Nat} {f C : Addr} {g : List D → Option Fs} {x : Str} {p pos : Pos} {e : Expr} {es : List Expr} {fl : Env → Res (List D)}
theorem pd_make (F : HeldI X.prog X.w X.K X.mg X.base f C n g) (hr : Room 2 X.A) (M : Mk X.K C f) (hg : Gl X x) (hm : X.mg x = some (.ref C)) (ha : PA X (e :: es) (tDs X.K W fl)) (hn : ArgE n fl)
    (hdb : (x == ("__debug__" : Str)) = false := by decide) (he : starEach (e :: es) X.env = (false, eval e X.env) :: starEach es X.env := by rfl) (hpl : (backTo pos (starEach es X.env)).any (·.1) = false := by rfl) :
    PE X (.Call (.Name x p) (e :: es) [] pos) (tD X.K W (eMk C g fl)) := by
  obtain ⟨fd, ps, F, b⟩ := F
  refine PE.imp (pe_make (E := fun _ _ _ => False) M F hr hg hm b .nil (fun pins σ H s e s' I h => (cx_false H s e s' h).elim) ha hdb he hpl) fun σ H Q h => ?_
  obtain ⟨H0, env, er, k⟩ := h
  have hl := hn env
  refine ⟨H0, env, er, ?_⟩
  unfold eMk at k
  cases e1 : fl env with
  | no => rw [e1] at k; exact k
  | ex C => rw [e1] at k; exact k
  | ok ds =>
    rw [e1, Res.bind_ok] at k
    intro us A B gr r x dx hx hd ne
    have hle := hl ds e1
    have er' := er.grow gr
    have k' := Kt.shift gr k
    rw [List.append_nil]
    cases e2 : g ds with
    | none => rw [e2] at k'; exact k'.elim
    | some fs =>
      rw [e2] at k'
      have ax : A x = none := Same.free er'.sub hx
      refine ⟨x, dx, us, A, ds, fs, rfl, upd_same, ax, fun b o z => ?_, r, hle, e2, fun vfs L H' kp hx' ro => ⟨rfl, ?_⟩⟩
      · rw [upd_ne (ne_of_none z ax), upd_ne (ne_of_none z (Same.free er'.sub hd))]
        exact er'.sub b o z
      · obtain ⟨A', gr', rp⟩ := grow_ins er'.sub hx hd ne kp hx' ro
        exact k' _ A' H' gr' rp
end
end Dt
namespace Dt
open PySem PySem.Spec PyProof.Rows L2
/-! ## C() of a class without an own __init__ -/
section
open PySem.W
theorem bk_oinit : builtinKind "object.__init__" = some .slot := by decide +kernel
theorem sp_oinit : splitId "object.__init__" = some ("object", "__init__") := by decide +kernel
theorem bind_oinit (self : Value) : bindSpecial (.builtin "object.__init__") self = pure (.builtin "object.__init__", [self]) := PySem.F.slot_object_init.bind self
theorem oinit_ok {prog : Program} {w : World} {A : Around} {K : Frag} {C x dx : Addr} {s : Shared} {R : Result → Shared → Prop} (X : K.In s.heap) (hx : s.heap.get? x = some (instObj C dx)) (hm : mroIn K C (.type "object") = some true)
    (h : R (.ok (.ret .none)) s) : codeAny (model prog w) A (.call (.builtin "object.__init__") ⟨[.ref x], []⟩) R s := by
  have t1 : Looks (model prog w) s.heap (typeOf (.ref x)) (.ref C) := (Looks.ld hx).andThen .now
  have sub : Looks (model prog w) s.heap (isInstance (.ref x) (.type "object")) true := t1.andThen (looks_mroIn X hm)
  refine codeAny_call_builtin PySem.F.slot_object_init.plain PySem.F.entry_object_init (check_slot bk_oinit sp_oinit sub (PySem.F.args_object_init_1 _) ?_)
  unfold Builtin.«object.__init__»
  show wpAny _ _ (pure (Fin.done (.ret Value.none))) _ _ _
  exact wpAny_pure h
end
structure Mk0 (K : PySem.W.Frag) (C : Addr) : Prop where
  makes : PySem.W.makesIn K C = true
  init : PySem.W.findIn K (.ref C) "__init__" = some (some (.builtin "object.__init__"))
  mro : PySem.W.mroIn K C (.type "object") = some true
  kp : PySem.W.keepIn K (.ref C) = true
section
variable {X : Cx} {W : WX} {C : Addr} {x : Str} {p pos : Pos}
def tMake0 (C : Addr) : TE := fun σ H Q => ∀ x dx, H x = none → H dx = none → dx ≠ x → Q (.ref x) (upd (upd H dx (.own x)) x (.ins C dx []))
theorem pe_make0b (M : Mk0 X.K C) (hg : Gl X x) (hm : X.mg x = some (.ref C)) (hdb : (x == ("__debug__" : Str)) = false := by decide) : PE X (.Call (.Name x p) [] [] pos) (tMake0 C) := by
  refine ⟨fun pins s σ H Q I h => ?_⟩
  refine wpAny_Call_Name_kw (ld_glob I hg hm ?_ hdb)
  refine PySem.W.callWith_K0 I.kIn M.kp ?_
  have hq := h (s.heap.objs.size + 1) s.heap.objs.size (I.hok.fresh (Nat.le_succ _)) (I.hok.fresh (Nat.le_refl _)) (Nat.ne_of_lt (Nat.lt_succ_self _))
  have I2 := Inv.made (C := C) I
  have e2 : ((s.heap.push PySem.W.emptyDict).push (PySem.W.instObj C s.heap.objs.size)).get? (s.heap.objs.size + 1) = some (PySem.W.instObj C s.heap.objs.size) := by
    have := Heap.get?_push_size (s.heap.push PySem.W.emptyDict) (o := PySem.W.instObj C s.heap.objs.size) rfl
    rwa [Heap.size_push] at this
  refine wpAny_call (make_map0 I.kIn M.makes M.init (fun self => PySem.W.Looks.of_pure (bind_oinit self)) (oinit_ok I2.kIn e2 M.mro ⟨rfl, ?_⟩))
  exact ⟨V.ref (s.heap.objs.size + 1), _, I2, rfl, hq⟩
def eMk0 (C : Addr) : Env → Res D := fun _ => .ok (.ins C [])
theorem pd_make0b (M : Mk0 X.K C) (hg : Gl X x) (hm : X.mg x = some (.ref C)) (hdb : (x == ("__debug__" : Str)) = false := by decide) : PE X (.Call (.Name x p) [] [] pos) (tD X.K W (eMk0 C)) :=
  PE.imp (pe_make0b M hg hm hdb) fun σ H Q h => by
  obtain ⟨H0, env, er, k⟩ := h
  intro x dx hx hd ne
  obtain ⟨A', gr', rp⟩ := grow_ins (K := X.K) (C := C) (vfs := []) (L := []) (fs := []) er.sub hx hd ne (H' := upd (upd H dx (.own x)) x (.ins C dx [])) (fun b o _ z => z) upd_same .nil
  exact k _ A' _ gr' rp
end
/-! ## int(truth) -/
def intD : List D → Option D
  | [.int i] => some (.int i)
  | [.bl b] => some (.int (if b then 1 else 0))
  | _ => none
theorem good_intb {K : PySem.W.Frag} : GoodN K (fun xs H Q => (∃ i, xs = [.int i] ∧ Q (.int i) H) ∨ ∃ k, xs = [.bl k] ∧ Q (.int (if k then 1 else 0)) H) intD := by
  intro H0 H xs as d Q s r e q
  match as, e with
  | [.int i], e =>
    obtain ⟨v, rfl, rv⟩ := reps1 r
    cases rv
    cases e
    exact .inl ⟨i, rfl, q _ _ _ (Grow.refl s) (.int _)⟩
  | [.bl b], e =>
    obtain ⟨v, rfl, rv⟩ := reps1 r
    cases rv
    cases e
    exact .inr ⟨b, rfl, q _ _ _ (Grow.refl s) (.int _)⟩
section
variable {X : Cx} {W : WX} {e : Expr} {es : List Expr} {pos p : Pos} {fl : Env → Res (List D)}
theorem pd_int1 (hg : Gl X "int") (hm : X.mg "int" = none) (ha : PA X (e :: es) (tDs X.K W fl)) (he : starEach (e :: es) X.env = (false, eval e X.env) :: starEach es X.env := by rfl) (hpl : (backTo pos (starEach es X.env)).any (·.1) = false := by rfl) :
    PE X (.Call (.Name "int" p) (e :: es) [] pos) (tD X.K W (eFn intD fl)) := pd_fnT call_int1 good_intb (by decide +kernel) hg hm ha (by decide) (by decide) he hpl
end
/-! ## x in (a, b) -/
def toScs : List D → Option (List V)
  | [] => some []
  | d :: ds => match scV d, toScs ds with
    | some a, some b => some (a :: b)
    | _, _ => none
theorem Reps.scs {K : PySem.W.Frag} {H : Hp} : ∀ {ds : List D} {vs ws : List V}, Reps K H vs ds → toScs ds = some ws → vs = ws
  | [], _, _, .nil, e => by cases e; rfl
  | d :: ds, _, _, .cons r t, e => by
    unfold toScs at e
    cases e1 : scV d with
    | none => rw [e1] at e; cases e
    | some a =>
      cases e2 : toScs ds with
      | none => rw [e1, e2] at e; cases e
      | some b =>
        rw [e1, e2] at e
        cases e
        rw [r.sc e1, Reps.scs t e2]
theorem flat_sc {d : D} {x : V} (e : scV d = some x) : flatV x = true := by
  cases d <;> cases e <;> rfl
theorem flat_scs : ∀ {ds : List D} {ws : List V}, toScs ds = some ws → ws.all flatV = true
  | [], _, e => by cases e; rfl
  | d :: ds, _, e => by
    unfold toScs at e
    cases e1 : scV d with
    | none => rw [e1] at e; cases e
    | some a =>
      cases e2 : toScs ds with
      | none => rw [e1, e2] at e; cases e
      | some b =>
        rw [e1, e2] at e
        cases e
        rw [List.all_cons, flat_sc e1, flat_scs e2]
        rfl
def itemsOf : D → Option (List D)
  | .lst xs => some xs
  | .tup xs => some xs
  | _ => none
def inD (a b : D) : Option D := match scV a, (itemsOf b).bind toScs with
  | some x, some ws => some (.bl (inV x ws))
  | _, _ => none
theorem good_in {K : PySem.W.Frag} : Good2 K (rIn K false) inD := by
  intro H0 H x y a b d Q s rx ry e q
  unfold inD at e
  cases e1 : scV a with
  | none => rw [e1] at e; cases e
  | some xa =>
    cases e2 : (itemsOf b).bind toScs with
    | none => rw [e1, e2] at e; cases e
    | some ws =>
      rw [e1, e2] at e
      cases e
      rw [rx.sc e1]
      cases b with
      | lst xs =>
        cases ry with
        | lst h r =>
        have e2 : toScs xs = some ws := e2
        rw [r.scs e2] at h
        exact ⟨_, _, rfl, .inl (Same.seq s h), flat_sc e1, flat_scs e2, q _ _ _ (Grow.refl s) (.bl _)⟩
      | tup xs =>
        cases ry with
        | tup h r =>
        have e2 : toScs xs = some ws := e2
        rw [r.scs e2] at h
        exact ⟨_, _, rfl, .inr (Same.seqT s h), flat_sc e1, flat_scs e2, q _ _ _ (Grow.refl s) (.bl _)⟩
      | _ => cases e2
section
variable {X : Cx} {W : WX} {a b : Expr} {pos : Pos} {fa fb : Env → Res D}
theorem pd_in (ha : PE X a (tD X.K W fa)) (hb : PE X b (tD X.K W fb)) (hm : behindInMarks .In b = false := by rfl) : PE X (.Compare a [.In] [b] pos) (tD X.K W (eOp inD fa fb)) := pd_cmp op_in_seq good_in ha hb hm
theorem pt_in (ha : PE X a (tD X.K W fa)) (hb : PE X b (tD X.K W fb)) (hm : behindInMarks .In b = false := by rfl) : PT X (.Compare a [.In] [b] pos) (tDB X.K W (bV (eOp inD fa fb))) := pt_cmp' op_in_seq good_in ha hb hm
end
/-! ## xs.count(y), flat -/
def rCntV (K : PySem.W.Frag) : V → List V → Hp → VK → Prop := fun x xs H Q => ∃ (p : Addr) (ys : List V) (y : V), x = .ref p ∧ xs = [y] ∧ SqL K H p ys ∧ flatV y = true ∧ ys.all flatV = true ∧ Q (.int (ys.countP (fun z => eqV z y) : Nat)) H
theorem countP_eqU {x : V} : ∀ {xs : List V} {us : List Value}, Vals xs us → xs.all flatV = true → us.countP (eqU x) = xs.countP fun y => eqV y x
  | _, _, .nil, _ => rfl
  | y :: xs, u :: us, .cons r t, f => by
    rw [List.all_cons, Bool.and_eq_true] at f
    rw [List.countP_cons, List.countP_cons, eqU_of r f.1, countP_eqU t f.2]
theorem mt_countV {X : Cx} : MtR X "list.count" (rCntV X.K) := by
  intro pins s σ H x xs v us Q I rx rxs h
  obtain ⟨p, ys, y, rfl, rfl, hs, fy, fs, q⟩ := h
  cases rx
  obtain ⟨u, rfl, ru⟩ := rxs.one
  obtain ⟨its, rv, ⟨⟨cls, dd, data, sl⟩, n, ho, hc, hdn, hd⟩, hlen⟩ := I.list hs
  simp only at hc hd
  subst hc hd
  refine call_meets PySem.F.slot_list_count ⟨_, ho, rfl⟩ PySem.F.entry_list_count (PySem.F.args_list_count_2 _ _)
    (SeqAt.list_countAt p its.toArray n dd sl u (eqU y)) ⟨ho, fun w hw => mem_eqAt ru fy rv fs w (by simpa using hw), ?_⟩
  have ec : its.toArray.toList.countP (eqU y) = ys.countP fun z => eqV z y := countP_eqU rv fs
  refine ⟨.int (ys.countP (fun z => eqV z y) : Nat), H, I.tok _, ⟨s.toks, ?_⟩, q⟩
  show Value.int ((its.toArray.toList.countP (eqU y) : Nat) : Int) s.toks = _
  rw [ec]
def countD : D → List D → Option D
  | .lst xs, [a] => match scV a, toScs xs with
    | some y, some ws => some (.int (ws.countP (fun z => eqV z y) : Nat))
    | _, _ => none
  | _, _ => none
theorem good_count {K : PySem.W.Frag} : GoodM K (rCntV K) countD := by
  intro H0 H x xs a as d Q s rx r e q
  match a, as, e with
  | .lst ys, [b], e =>
    obtain ⟨v, rfl, rv⟩ := reps1 r
    cases rx with
    | lst h rr =>
    cases e1 : scV b with
    | none => simp only [countD, e1] at e; cases e
    | some y =>
      cases e2 : toScs ys with
      | none => simp only [countD, e1, e2] at e; cases e
      | some ws =>
        simp only [countD, e1, e2] at e
        cases e
        rw [rr.scs e2] at h
        exact ⟨_, ws, y, rfl, by rw [rv.sc e1], Same.seq s h, flat_sc e1, flat_scs e2, q _ _ _ (Grow.refl s) (.int _)⟩
theorem pd_count {X : Cx} {W : WX} {e o : Expr} {es : List Expr} {pos apos : Pos} {fa : Env → Res D} {fl : Env → Res (List D)} (ho : PE X o (tD X.K W fa)) (ha : PA X (e :: es) (tDs X.K W fl))
    (hbase : attributeBase o "count" X.env (eval o X.env) = eval o X.env := by rfl)
    (hfew : ((backTo pos (starEach (e :: es) X.env)).all (fun x => !x.1) && (backToKw pos (keywordEach [] X.env)).all (fun x => x.1.isSome)
      && decide ((e :: es).length + ([] : List Keyword).length + (if ([] : List Keyword).isEmpty then 0 else 1) < 30)) = true := by rfl)
    (hline : (apos.endLine == pos.line) = true := by rfl) (hs : starEach (e :: es) X.env = (false, eval e X.env) :: starEach es X.env := by rfl) (hplain : (backTo pos (starEach es X.env)).any (·.1) = false := by rfl) :
    PE X (.Call (.Attribute o "count" apos) (e :: es) [] pos) (tD X.K W (eMt isLst countD fa fl)) := pd_mtL PySem.F.slot_list_count PySem.F.type_list_count mt_countV good_count ho ha hbase hfew hline hs hplain
/-! ## min of pairs (tariff, place) -/
abbrev T3 := Int × Int × Int
def enc3 (t : T3) : D := .tup [.tup [.int t.1, .int t.2.1], .int t.2.2]
def dec3 : D → Option T3
  | .tup [.tup [.int a, .int b], .int i] => some (a, b, i)
  | _ => none
def decs3 : List D → Option (List T3)
  | [] => some []
  | d :: ds => match dec3 d, decs3 ds with
    | some a, some b => some (a :: b)
    | _, _ => none
def pd3 (t : T3) : PyData := .tuple [.tuple [.int t.1, .int t.2.1], .int t.2.2]
def lt3 (x y : T3) : Bool := decide (x.1 < y.1 ∨ (x.1 = y.1 ∧ (x.2.1 < y.2.1 ∨ (x.2.1 = y.2.1 ∧ x.2.2 < y.2.2))))
def min3 (t : T3) (ts : List T3) : T3 := ts.foldl (fun a y => if lt3 y a = true then y else a) t
theorem dec3_eq {d : D} {t : T3} (h : dec3 d = some t) : d = enc3 t := by
  unfold dec3 at h
  split at h
  · cases h; rfl
  · cases h
theorem decs3_eq : ∀ {ds : List D} {ts : List T3}, decs3 ds = some ts → ds = ts.map enc3
  | [], _, e => by cases e; rfl
  | d :: ds, _, e => by
    unfold decs3 at e
    cases e1 : dec3 d with
    | none => rw [e1] at e; cases e
    | some a =>
      cases e2 : decs3 ds with
      | none => rw [e1, e2] at e; cases e
      | some b =>
        rw [e1, e2] at e
        cases e
        rw [dec3_eq e1, decs3_eq e2]
        rfl
@[simp] theorem decs3_map : ∀ ts : List T3, decs3 (ts.map enc3) = some ts
  | [] => rfl
  | t :: ts => by
    show (match dec3 (enc3 t), decs3 (ts.map enc3) with
      | some a, some b => some (a :: b)
      | _, _ => none) = _
    rw [decs3_map ts]
    rfl
def minTD : List D → Option D
  | [.lst xs] => match decs3 xs with
    | some (t :: ts) => some (enc3 (min3 t ts))
    | _ => none
  | _ => none
theorem dp3 {K : PySem.W.Frag} {H : Hp} {v : V} {t : T3} (r : Rep K H v (enc3 t)) : Dp K H v (pd3 t) := r.dp rfl
theorem dp3s {K : PySem.W.Frag} {H : Hp} : ∀ {vs : List V} {ts : List T3}, Reps K H vs (ts.map enc3) → DpAll K H vs (ts.map pd3)
  | _, [], .nil => .nil
  | _, _ :: _, .cons r t => .cons (dp3 r) (dp3s t)
theorem pd3_inj {x y : T3} (h : pd3 x = pd3 y) : x = y := by
  obtain ⟨a, b, c⟩ := x
  obtain ⟨a', b', c'⟩ := y
  simp only [pd3, PyData.tuple.injEq, List.cons.injEq, PyData.int.injEq, and_true] at h
  obtain ⟨⟨rfl, rfl⟩, rfl⟩ := h
  rfl
end Dt
namespace Dt
open PySem PySem.Spec PyProof.Rows L2
open PySem.W in
theorem dataLt3 (x y : T3) : dataLt (pd3 x) (pd3 y) = lt3 x y := by
  have e : ∀ t : T3, keyToks (pd3 t) = [.inl 1, .inl 1, .inl t.1, .inl 1, .inl t.2.1, .inl 0, .inl 1, .inl t.2.2, .inl 0] := fun t => by
    simp only [pd3, keyToks, keyToksAll, List.cons_append, List.nil_append]
  have b : ∀ a c : Int, itemOrd.blt (.inl a) (.inl c) = decide (a < c) := fun _ _ => rfl
  have z : PyProof.Rows.lexLt itemOrd [.inl 0] [.inl 0] = false := lex_irrefl _
  unfold dataLt lt3
  rw [e, e, lex_self, lex_self, lex_cons, lex_self, lex_cons, lex_self, lex_self, lex_cons, b, b, b, b, b, b, z, Bool.eq_iff_iff]
  simp only [Bool.or_eq_true, Bool.and_eq_true, Bool.not_eq_true', decide_eq_true_eq, decide_eq_false_iff_not, Bool.false_eq_true, and_false, or_false]
  omega
theorem minD3 (t : T3) (ts : List T3) : PySem.W.minD (pd3 t) (ts.map pd3) = pd3 (min3 t ts) := by
  unfold PySem.W.minD min3
  induction ts generalizing t with
  | nil => rfl
  | cons y ts ih =>
    rw [List.map_cons, List.foldl_cons, List.foldl_cons, dataLt3]
    by_cases c : lt3 y t = true
    · rw [if_pos c, if_pos c, ih]
    · rw [if_neg c, if_neg c, ih]
theorem alike3 (ts : List T3) : PySem.W.AlikeAll (ts.map pd3) := by
  refine ⟨fun x hx y hy => ?_, fun x hx => ?_⟩
  · obtain ⟨a, _, rfl⟩ := List.mem_map.mp hx
    obtain ⟨b, _, rfl⟩ := List.mem_map.mp hy
    rfl
  · obtain ⟨a, _, rfl⟩ := List.mem_map.mp hx
    exact fun z => by cases z
theorem depth3 : ∀ ts : List T3, PyData.depthAll (ts.map pd3) ≤ 2
  | [] => Nat.zero_le _
  | t :: ts => by
    show max (PyData.depth (pd3 t)) (PyData.depthAll (ts.map pd3)) ≤ 2
    have := depth3 ts
    have h : PyData.depth (pd3 t) = 2 := rfl
    omega
def rMinT (K : PySem.W.Frag) : List V → Hp → VK → Prop := fun vs H Q => ∃ (a : Addr) (xs : List V) (t : T3) (ts : List T3), vs = [.ref a] ∧ SqL K H a xs ∧ DpAll K H xs ((t :: ts).map pd3) ∧
  ∀ (i : Nat) (v : V), xs[i]? = some v → (t :: ts)[i]? = some (min3 t ts) → Q v H
theorem DpAll.get {K : PySem.W.Frag} {H : Hp} : ∀ {vs : List V} {ds : List PyData}, DpAll K H vs ds → ∀ {i : Nat} {v : V}, vs[i]? = some v → ∃ d, ds[i]? = some d ∧ Dp K H v d
  | _, _, .nil, i, v, e => by simp at e
  | _, _, .cons r t, 0, v, e => by simp at e; subst e; exact ⟨_, rfl, r⟩
  | _, _, .cons r t, i + 1, v, e => by
    obtain ⟨d, h1, h2⟩ := Dt.DpAll.get t (i := i) (by simpa using e)
    exact ⟨d, by simpa using h1, h2⟩
theorem vals_get' : ∀ {vs : List V} {us : List Value}, Vals vs us → ∀ {i : Nat} {u : Value}, us[i]? = some u → ∃ v, vs[i]? = some v ∧ RelV v u
  | _, _, .nil, i, u, e => by simp at e
  | _, _, .cons r t, 0, u, e => by simp at e; subst e; exact ⟨_, rfl, r⟩
  | _, _, .cons r t, i + 1, u, e => by
    obtain ⟨v, h1, h2⟩ := vals_get' t (i := i) (by simpa using e)
    exact ⟨v, by simpa using h1, h2⟩
theorem cr_minT {X : Cx} (hc : X.calm = true) (hu : X.A.units + 64 < cLine) : CallR X (.builtin "min") (rMinT X.K) := by
  intro pins s σ H vs us Q I r h
  obtain ⟨a, xs, t, ts, rfl, hs, hd, q⟩ := h
  obtain ⟨its, rv, hl, _⟩ := I.list hs
  rw [Vals.ref1 r]
  obtain ⟨as, hr⟩ := Dp.readsAll I _ _ its hd rv
  have hd3 := depth3 (t :: ts)
  refine PySem.W.min_list_data (I.ok.hd hc) hl.isList (x := pd3 t) (xs := ts.map pd3) (by simpa using hr) (alike3 (t :: ts)) (by
    have : PyData.depthAll (pd3 t :: ts.map pd3) ≤ 2 := hd3
    omega) fun i v h' tk bs hv rd hk => ?_
  rw [minD3] at rd
  obtain ⟨x, hx, rx⟩ := vals_get' rv (i := i) (u := v) (by simpa using hv)
  obtain ⟨p, hp, dx⟩ := Dt.DpAll.get hd hx
  rw [List.getElem?_map] at hp
  cases e : (t :: ts)[i]? with
  | none => rw [e] at hp; cases hp
  | some ti =>
    rw [e] at hp
    cases hp
    obtain ⟨cs, r1⟩ := Dp.reads I _ x v dx rx
    have r2 := PySem.W.reads_keeps hk r1
    have e2 := pd3_inj (PySem.SeqAt.Reads.unique _ _ _ _ _ (by rfl) r2 rd)
    exact ⟨x, H, I.kept hk, rx, q i x hx (by rw [e, e2])⟩
theorem good_minT {K : PySem.W.Frag} : GoodN K (rMinT K) minTD := by
  intro H0 H xs as d Q s r e q
  match as, e with
  | [.lst ys], e =>
    obtain ⟨v, rfl, rv⟩ := reps1 r
    cases rv with
    | lst h rr =>
    cases e1 : decs3 ys with
    | none => simp only [minTD, e1] at e; cases e
    | some ts =>
      cases ts with
      | nil => simp only [minTD, e1] at e; cases e
      | cons t ts =>
        simp only [minTD, e1] at e
        cases e
        rw [decs3_eq e1] at rr
        refine ⟨_, _, t, ts, rfl, Same.seq s h, DpAll.mono s (dp3s rr), fun i v hv hi => ?_⟩
        obtain ⟨d, hd, rd⟩ := rr.get' hv
        rw [List.getElem?_map, hi] at hd
        cases hd
        exact q v _ _ (Grow.refl s) rd
section
variable {X : Cx} {W : WX} {e : Expr} {es : List Expr} {pos p : Pos} {fl : Env → Res (List D)}
theorem pd_minT (hu : X.A.units + 64 < cLine) (hc : X.calm = true) (hg : Gl X "min") (hm : X.mg "min" = none) (ha : PA X (e :: es) (tDs X.K W fl)) (he : starEach (e :: es) X.env = (false, eval e X.env) :: starEach es X.env := by rfl) (hpl : (backTo pos (starEach es X.env)).any (·.1) = false := by rfl) :
    PE X (.Call (.Name "min" p) (e :: es) [] pos) (tD X.K W (eFn minTD fl)) := pd_fnB (cr_minT hc hu) good_minT (by decide +kernel) hg hm ha (by decide) (by decide) he hpl
end
/-! ## x += e -/
def sAugA (i : Nat) (fa : Env → Res D) : Env → Res Fl := fun env => match env[i]? with
  | some (.sh (.int n)) => (fa env).bind fun d => (toI d).bind fun m => .ok (.nx (env.set i (.sh (.int (n + m)))))
  | _ => .no
section
variable {X : Cx} {W : WX} {G : Hp → Hp → Prop} {P : Addr → Prop} {e : Expr} {pos pos' : Pos} {fa : Env → Res D}
theorem sd_augA (gd : Gd G P) {i : Nat} {x : Str} (hN : X.N.Nodup) (he : PE X e (tD X.K W fa)) (hi : X.N[i]? = some x := by rfl) (hx : Loc X.env.scope x := by first | exact Or.inl rfl | exact Or.inr rfl) (hf : X.fn x = true ∨ X.env.scope.names.lookup x = some .local := by first | exact .inl rfl | exact .inr rfl | assumption) :
    PS X (.AugAssign (.Name x pos') .Add e pos) (tS X.K W G P (sAugA i fa)) := PS.imp (ps_aug hN hi hx he ip_add hf) fun Dd σ H h => by
  obtain ⟨A, env, s, k⟩ := h
  unfold sAugA at k
  cases e1 : env[i]? with
  | none => rw [e1] at k; exact k.elim
  | some sl =>
    rw [e1] at k
    cases sl with
    | no => exact k.elim
    | ow ds => exact k.elim
    | oi C fs => exact k.elim
    | sh d =>
      cases d with
      | int n =>
        obtain ⟨v, h1, h2⟩ := s.er.sh i _ e1
        cases h2
        refine ⟨_, h1, ks_seq gd s k fun y d A' H' s' ry k' => ?_⟩
        cases d with
        | int m =>
          cases ry
          exact ⟨n, m, rfl, rfl, k' _ A' H' ⟨s'.er.set (.int _), s'.ow.set, s'.g⟩⟩
        | _ => exact k'.elim
      | _ => exact k.elim
end
/-- fuel: the length of a list in a slot -/
def fuelL (i : Nat) (env : Env) : Nat := match env[i]? with
  | some (.sh (.lst ds)) => ds.length + 1
  | some (.ow ds) => ds.length + 1
  | _ => 0
end Dt
namespace Dt
open PySem PySem.Spec PyProof.Rows L2 He
/-! ## facts of classes -/
def ciB (x : Str) (K : PySem.W.Frag) : Bool := (Fa.cls x).ok K && (eqO (PySem.W.findIn K (.ref (ga K x)) "__class__") (some (some (.builtin "object.__class__"))) && (eqO (PySem.W.specialIn K (.builtin "object.__class__") "__get__") (some (some (.builtin "getset_descriptor.__get__"))) &&
  (decide (PySem.W.takesIn K (.builtin "object.__class__") = some true) && decide (PySem.W.mroIn K (ga K x) (.type "object") = some true))))
theorem ciB_ok {K : PySem.W.Frag} {x : Str} (h : ciB x K = true) : CI K (ga K x) := by
  obtain ⟨h1, h⟩ := ba h
  obtain ⟨h2, h⟩ := ba h
  obtain ⟨h3, h⟩ := ba h
  obtain ⟨h4, h5⟩ := ba h
  exact ⟨cls_ok h1, eqO_ok h2, eqO_ok h3, of_decide_eq_true h4, of_decide_eq_true h5⟩
def cisB (xs : List Str) (K : PySem.W.Frag) : Bool := xs.all fun x => ciB x K
theorem cisB_ok {K : PySem.W.Frag} {xs : List Str} (h : cisB xs K = true) : ∀ C ∈ xs.map (ga K), CI K C := fun C hC => by
  obtain ⟨x, hx, rfl⟩ := List.mem_map.mp hC
  exact ciB_ok (List.all_eq_true.mp h x hx)
def atB (xs : List Str) (f : Str) (K : PySem.W.Frag) : Bool := xs.all fun x => (Fa.cls x).ok K && (Fa.noat x f).ok K
theorem atB_ok {K : PySem.W.Frag} {xs : List Str} {f : Str} (h : atB xs f K = true) : ∀ C ∈ xs.map (ga K), Cls K C ∧ NoAttr K C f := fun C hC => by
  obtain ⟨x, hx, rfl⟩ := List.mem_map.mp hC
  obtain ⟨h1, h2⟩ := ba (List.all_eq_true.mp h x hx)
  exact ⟨cls_ok h1, noat_ok h2⟩
def mk0B (x : Str) (K : PySem.W.Frag) : Bool := PySem.W.makesIn K (ga K x) && (eqO (PySem.W.findIn K (.ref (ga K x)) "__init__") (some (some (.builtin "object.__init__"))) && (decide (PySem.W.mroIn K (ga K x) (.type "object") = some true) && PySem.W.keepIn K (.ref (ga K x))))
theorem mk0B_ok {K : PySem.W.Frag} {x : Str} (h : mk0B x K = true) : Mk0 K (ga K x) := by
  obtain ⟨h1, h⟩ := ba h
  obtain ⟨h2, h⟩ := ba h
  obtain ⟨h3, h4⟩ := ba h
  exact ⟨h1, eqO_ok h2, of_decide_eq_true h3, h4⟩
def kitB (x y : Str) (b : Bool) (K : PySem.W.Frag) : Bool := decide (PySem.W.kitOne K (.ref (ga K x)) (.ref (ga K y)) = some b)
theorem kitB_ok {K : PySem.W.Frag} {x y : Str} {b : Bool} (h : kitB x y b K = true) : PySem.W.kitOne K (.ref (ga K x)) (.ref (ga K y)) = some b := of_decide_eq_true h
section
variable {X : Cx} {W : WX} {x : Str} {a : Addr} {d : D} {pos : Pos}
theorem pd_cls (hg : Gl X x) (hm : X.mg x = some (.ref a)) (hd : (x == ("__debug__" : Str)) = false := by decide) : PE X (.Name x pos) (tD X.K W (eC (.cls a))) := pd_glob hg hm (v := .ref a) rfl (fun _ => .cls a) hd
theorem pd_globR (hg : Gl X x) (hm : X.mg x = some (.ref a)) (h : ∀ H, Rep X.K H (.ref a) d) (hd : (x == ("__debug__" : Str)) = false := by decide) : PE X (.Name x pos) (tD X.K W (eC d)) := pd_glob hg hm (v := .ref a) rfl h hd
end
/-! ## name = a + b, lists: one's own -/
def sAsgCat (i : Nat) (fa fb : Env → Res D) : Env → Res Fl := fun env => (fa env).bind fun a => (fb env).bind fun b => match a, b with
  | .lst x, .lst y => if x.length + y.length ≤ 1000000 then .ok (.nx (env.set i (.ow (x ++ y)))) else .no
  | _, _ => .no
theorem KS.strong {K : PySem.W.Frag} {W : WX} {G G' : Hp → Hp → Prop} {P : Addr → Prop} {Dd : Ends} {r : Res Fl} (h : ∀ A H, G' A H → G A H) (k : KS K W G P Dd r) : KS K W G' P Dd r := by
  cases r with
  | no => exact k
  | ex C => exact fun σ A H g => k σ A H (h A H g)
  | ok f =>
    cases f with
    | nx e => exact fun σ A H s => k σ A H ⟨s.er, s.ow, h A H s.g⟩
    | bk e => exact fun σ A H s => k σ A H ⟨s.er, s.ow, h A H s.g⟩
    | ct e => exact fun σ A H s => k σ A H ⟨s.er, s.ow, h A H s.g⟩
    | rt d => exact fun v A H g r => k v A H (h A H g) r
section
variable {X : Cx} {W : WX} {G : Hp → Hp → Prop} {P : Addr → Prop} {a b : Expr} {pos pos' bpos : Pos} {fa fb : Env → Res D}
theorem sd_setCat (gd : Gd G P) {i : Nat} {x : Str} (hN : X.N.Nodup) (ha : PE X a (tD X.K W fa)) (hb : PE X b (tD X.K W fb)) (hi : X.N[i]? = some x := by rfl) (hx : Loc X.env.scope x := by first | exact Or.inl rfl | exact Or.inr rfl) (hs : swapsWith (.BinOp a .Add b bpos) (some (.Name x pos')) pos.line X.env = pure false := by rfl) (hf : X.fn x = true ∨ X.env.scope.names.lookup x = some .local := by first | exact .inl rfl | exact .inr rfl | assumption) :
    PS X (.Assign [.Name x pos'] (.BinOp a .Add b bpos) pos) (tS X.K W G P (sAsgCat i fa fb)) := PS.imp (ps_set hN hi hx (pe_op op_catR ha hb) hs hf) fun Dd σ H h => by
  obtain ⟨A, env, s, k⟩ := h
  refine ks_seq gd s k fun x d A' H' s' rx k' => ?_
  refine ks_seq (gd.since A') ⟨s'.er, s'.ow, s'.g, Same.refl _⟩ (KS.strong (fun _ _ z => z.1) k') fun y d2 A2 H2 s3 ry k2 => ?_
  have rx2 : Rep X.K A2 x d := rx.mono s3.g.2
  have s2 : Stt X.K G P σ A2 H2 env := ⟨s3.er, s3.ow, s3.g.1⟩
  cases d with
  | lst xs =>
    cases d2 with
    | lst ys =>
      have k2 : KS X.K W (fun A H => G A H ∧ Same A' A) P Dd (if xs.length + ys.length ≤ 1000000 then .ok (.nx (env.set i (.ow (xs ++ ys)))) else .no) := k2
      by_cases c : xs.length + ys.length ≤ 1000000
      · rw [if_pos c] at k2
        cases rx2 with
        | lst h1 r1 =>
        cases ry with
        | lst h2 r2 =>
        refine ⟨_, _, _, _, rfl, rfl, Same.seq s2.er.sub h1, Same.seq s2.er.sub h2, ?_, fun p hp => let z := stt_new gd s2 hp (r1.append r2); k2 _ A2 _ ⟨z.er, z.ow, z.g, s3.g.2⟩⟩
        rw [r1.length, r2.length]
        exact sz_le c
      · rw [if_neg c] at k2
        exact k2.elim
    | _ => exact k2.elim
  | _ => cases d2 <;> exact k2.elim
end
/-! ## plain lemmas of these -/
theorem isi_own {K : PySem.W.Frag} {Cs : List Addr} {C C' : Addr} {fs : Fs} {b : Bool} (hC : C ∈ Cs) (h : PySem.W.kitOne K (.ref C) (.ref C') = some b) : isiD K Cs [.ins C fs, .cls C'] = some (.bl b) := by
  show (match (if C ∈ Cs then some (Value.ref C) else none), some (Value.ref C') with
    | some t, some u => (PySem.W.kitOne K t u).map D.bl
    | _, _ => none) = _
  rw [if_pos hC]
  show (PySem.W.kitOne K (.ref C) (.ref C')).map D.bl = _
  rw [h]
  rfl
theorem ne_of_kits {K : PySem.W.Frag} {C C' : Addr} (h : PySem.W.kitOne K (.ref C) (.ref C') = some false) (h' : PySem.W.kitOne K (.ref C') (.ref C') = some true) : C ≠ C' := fun e => by
  rw [e, h'] at h
  cases h
theorem fld_of {Cs : List Addr} {C : Addr} {f : Str} {fs : Fs} {d : D} (hC : C ∈ Cs) (h : fs.lookup f = some d) : fldD Cs f (.ins C fs) = some d := by
  show (if C ∈ Cs then fs.lookup f else none) = _
  rw [if_pos hC, h]
section
variable {C C' : Addr} {m : Str} {φ : List D → Res D} {fo f g : Env → Res D} {fl : Env → Res (List D)} {env e : Env} {fs : Fs} {ds x y : List D} {d : D} {r : Res Fl} {g2 gb : Env → Res Fl} {i : Nat} {fa fb : Env → Res D} {bt : Bt} {fi : Env → Res (List D)}
theorem mth_hit (h1 : fo env = .ok (.ins C fs)) (h2 : fl env = .ok ds) (h3 : φ (.ins C fs :: ds) = .ok d) (h4 : (fs.lookup m).isNone = true) : eMth C m φ fo fl env = .ok d := by
  unfold eMth
  rw [h1, Res.bind_ok]
  show (if C = C ∧ (fs.lookup m).isNone = true then (fl env).bind fun ds => noEx (φ (.ins C fs :: ds)) else .no) = _
  rw [if_pos ⟨rfl, h4⟩, h2, Res.bind_ok, h3]
  rfl
theorem mth_miss (h1 : fo env = .ok (.ins C' fs)) (h : C' ≠ C) : eMth C m φ fo fl env = .no := by
  unfold eMth
  rw [h1, Res.bind_ok]
  show (if C' = C ∧ (fs.lookup m).isNone = true then (fl env).bind fun ds => noEx (φ (.ins C' fs :: ds)) else .no) = _
  rw [if_neg fun z => h z.1]
theorem alt_l (h : f env = .ok d) : eAlt f g env = .ok d := by
  unfold eAlt
  rw [h]
theorem alt_r (h : f env = .no) : eAlt f g env = g env := by
  unfold eAlt
  rw [h]
theorem seq_asgO (h : fl env = .ok ds) (hr : g2 (env.set i (.ow ds)) = r) : sSeq (sAsgO i fl) g2 env = r := by
  refine seq_nx ?_ hr
  unfold sAsgO
  rw [h]
  rfl
theorem seq_cat (h1 : fa env = .ok (.lst x)) (h2 : fb env = .ok (.lst y)) (hl : x.length + y.length ≤ 1000000) (hr : g2 (env.set i (.ow (x ++ y))) = r) : sSeq (sAsgCat i fa fb) g2 env = r := by
  refine seq_nx ?_ hr
  unfold sAsgCat
  rw [h1, Res.bind_ok, h2, Res.bind_ok]
  show (if x.length + y.length ≤ 1000000 then _ else _) = _
  rw [if_pos hl]
theorem app_of (h1 : env[i]? = some (.ow ds)) (hl : ds.length < 1000000) (h2 : fa env = .ok d) : sApp i fa env = .ok (.nx (env.set i (.ow (ds ++ [d])))) := by
  unfold sApp
  rw [h1]
  show (if ds.length < 1000000 then _ else _) = _
  rw [if_pos hl, h2]
  rfl
theorem seq_app (h1 : env[i]? = some (.ow ds)) (hl : ds.length < 1000000) (h2 : fa env = .ok d) (hr : g2 (env.set i (.ow (ds ++ [d]))) = r) : sSeq (sApp i fa) g2 env = r := seq_nx (app_of h1 hl h2) hr
theorem frz_of (h : env[i]? = some (.ow ds)) : frz i env = env.set i (.sh (.lst ds)) := by
  unfold frz
  rw [h]
theorem all_lc {α : Type} {xs : List α} {p : α → Bool} (h : fa env = .ok (.lst (xs.map fun x => .bl (p x)))) : eFn allD (aCons fa aNil) env = .ok (.bl (xs.all p)) := by
  unfold eFn aCons aNil
  rw [h]
  show ofO (allD [.lst (xs.map fun x => .bl (p x))]) = _
  rw [allD_map]
  rfl
theorem any_lc {α : Type} {xs : List α} {p : α → Bool} (h : fa env = .ok (.lst (xs.map fun x => .bl (p x)))) : eFn anyD (aCons fa aNil) env = .ok (.bl (xs.any p)) := by
  unfold eFn aCons aNil
  rw [h]
  show ofO (anyD [.lst (xs.map fun x => .bl (p x))]) = _
  rw [anyD_map]
  rfl
theorem min_lc {α : Type} {xs : List α} {p : α → Int} (h : fa env = .ok (.lst (xs.map fun x => .int (p x)))) (hne : xs ≠ []) : eFn minD (aCons fa aNil) env = .ok (.int (minL (xs.map p))) := by
  unfold eFn aCons aNil
  rw [h]
  have e : (xs.map fun x => D.int (p x)) = (xs.map p).map D.int := by rw [List.map_map]; rfl
  show ofO (minD [.lst (xs.map fun x => .int (p x))]) = _
  rw [e, minD_ints (fun z => hne (List.map_eq_nil_iff.mp z))]
  rfl
theorem bV_of {b : Bool} (h : fa env = .ok (.bl b)) : bV fa env = .ok b := by
  unfold bV
  rw [h]
  rfl
theorem bNot_of {ta : Env → Res Bool} {b : Bool} (h : ta env = .ok b) : bNot ta env = .ok (!b) := by
  unfold bNot
  rw [h]
  rfl
theorem bOr_F {ta tb : Env → Res Bool} {r : Res Bool} (h : ta env = .ok false) (h2 : tb env = r) : bOr ta tb env = r := by
  unfold bOr
  rw [h]
  exact h2
theorem bOr_T {ta tb : Env → Res Bool} (h : ta env = .ok true) : bOr ta tb env = .ok true := by
  unfold bOr
  rw [h]
  rfl
theorem bAnd_T {ta tb : Env → Res Bool} {r : Res Bool} (h : ta env = .ok true) (h2 : tb env = r) : bAnd ta tb env = r := by
  unfold bAnd
  rw [h]
  exact h2
theorem bAnd_F {ta tb : Env → Res Bool} (h : ta env = .ok false) : bAnd ta tb env = .ok false := by
  unfold bAnd
  rw [h]
  rfl
theorem eB_of {ta : Env → Res Bool} {b : Bool} (h : ta env = .ok b) : eB ta env = .ok (.bl b) := by
  unfold eB
  rw [h]
  rfl
theorem op_of {h : D → D → Option D} {a b : D} (h1 : fa env = .ok a) (h2 : fb env = .ok b) (h3 : h a b = some d) : eOp h fa fb env = .ok d := by
  unfold eOp
  rw [h1, Res.bind_ok, h2, Res.bind_ok, h3]
  rfl
theorem call1 {φ : List D → Res D} {rd : Res D} {a : D} (h1 : fa env = .ok a) (h : φ [a] = rd) : eCall φ (aCons fa aNil) env = rd := by
  unfold eCall aCons aNil
  rw [h1]
  exact h
theorem call2 {φ : List D → Res D} {rd : Res D} {a b : D} (h1 : fa env = .ok a) (h2 : fb env = .ok b) (h : φ [a, b] = rd) : eCall φ (aCons fa (aCons fb aNil)) env = rd := by
  unfold eCall aCons aNil
  simp only [h1, h2, Res.bind_ok]
  exact h
theorem call3 {φ : List D → Res D} {rd : Res D} {a b c : D} {fc : Env → Res D} (h1 : fa env = .ok a) (h2 : fb env = .ok b) (h3 : fc env = .ok c) (h : φ [a, b, c] = rd) : eCall φ (aCons fa (aCons fb (aCons fc aNil))) env = rd := by
  unfold eCall aCons aNil
  simp only [h1, h2, h3, Res.bind_ok]
  exact h
/-- a for whose body may return -/
theorem forS_rt {I : Nat → Env → Prop} {R : D → Prop} : ∀ (ds : List D) (n : Nat) (env : Env), I n env →
    (∀ (i : Nat) (d : D) (env : Env), ds[i]? = some d → I (n + i) env → ∃ e1, bt d env = .ok e1 ∧ ((∃ e2, gb e1 = .ok (.nx e2) ∧ I (n + i + 1) e2) ∨ ∃ r, gb e1 = .ok (.rt r) ∧ R r)) →
    (∃ e, forS bt gb ds env = .ok (.nx e) ∧ I (n + ds.length) e) ∨ ∃ r, forS bt gb ds env = .ok (.rt r) ∧ R r
  | [], n, env, h, _ => .inl ⟨env, rfl, h⟩
  | d :: ds, n, env, h, H => by
    obtain ⟨e1, h1, z⟩ := H 0 d env rfl h
    rcases z with ⟨e2, h2, h3⟩ | ⟨r, h2, h3⟩
    · have ih := forS_rt (R := R) ds (n + 1) e2 h3 (fun i y env hy hi => by
        have := H (i + 1) y env hy (by rw [show n + (i + 1) = n + 1 + i by omega]; exact hi)
        rw [show n + (i + 1) + 1 = n + 1 + i + 1 by omega] at this
        exact this)
      have e0 : forS bt gb (d :: ds) env = forS bt gb ds e2 := by
        show bOk (bt d env) _ = _
        rw [h1, bOk_ok, h2]
      rw [e0, List.length_cons, show n + (ds.length + 1) = n + 1 + ds.length by omega]
      exact ih
    · refine .inr ⟨r, ?_, h3⟩
      show bOk (bt d env) _ = _
      rw [h1, bOk_ok, h2]
theorem for_rt {I : Nat → Env → Prop} {R : D → Prop} (hi : fi env = .ok ds) (h0 : I 0 env)
    (H : ∀ (i : Nat) (d : D) (env : Env), ds[i]? = some d → I i env → ∃ e1, bt d env = .ok e1 ∧ ((∃ e2, gb e1 = .ok (.nx e2) ∧ I (i + 1) e2) ∨ ∃ r, gb e1 = .ok (.rt r) ∧ R r)) :
    (∃ e, sFor fi bt gb env = .ok (.nx e) ∧ I ds.length e) ∨ ∃ r, sFor fi bt gb env = .ok (.rt r) ∧ R r := by
  have z := forS_rt (bt := bt) (gb := gb) (I := I) (R := R) ds 0 env h0 (fun i d env hd hi => by
    rw [Nat.zero_add] at hi ⊢
    exact H i d env hd hi)
  rw [Nat.zero_add] at z
  unfold sFor
  rw [hi]
  exact z
/-- a for that looks at each, and returns at the first that is not as wanted -/
theorem forS_check {α : Type} {enc : α → D} {ok : α → Bool} {I : Env → Prop} {d0 : D} : ∀ (xs : List α) (env : Env), I env →
    (∀ x ∈ xs, ∀ env, I env → ∃ e1, bt (enc x) env = .ok e1 ∧ (ok x = true → ∃ e2, gb e1 = .ok (.nx e2) ∧ I e2) ∧ (ok x = false → gb e1 = .ok (.rt d0))) →
    (xs.all ok = true ∧ ∃ e, forS bt gb (xs.map enc) env = .ok (.nx e) ∧ I e) ∨ (xs.all ok = false ∧ forS bt gb (xs.map enc) env = .ok (.rt d0))
  | [], env, h, _ => .inl ⟨rfl, env, rfl, h⟩
  | x :: xs, env, h, H => by
    obtain ⟨e1, h1, h2, h3⟩ := H x List.mem_cons_self env h
    have e0 : ∀ r, (match gb e1 with
      | .ok (.nx e2) => forS bt gb (xs.map enc) e2
      | .ok (.ct e2) => forS bt gb (xs.map enc) e2
      | .ok (.bk e2) => .ok (.nx e2)
      | r => r) = r → forS bt gb ((x :: xs).map enc) env = r := fun r z => by
      show bOk (bt (enc x) env) _ = _
      rw [h1, bOk_ok]
      exact z
    cases c : ok x with
    | true =>
      obtain ⟨e2, h4, h5⟩ := h2 c
      have ih := forS_check xs e2 h5 fun y hy => H y (List.mem_cons_of_mem _ hy)
      rw [List.all_cons, c, Bool.true_and]
      rcases ih with ⟨g1, e, g2, g3⟩ | ⟨g1, g2⟩
      · exact .inl ⟨g1, e, e0 _ (by rw [h4]; exact g2), g3⟩
      · exact .inr ⟨g1, e0 _ (by rw [h4]; exact g2)⟩
    | false =>
      refine .inr ⟨by rw [List.all_cons, c]; rfl, e0 _ (by rw [h3 c])⟩
theorem for_check {α : Type} (xs : List α) (enc : α → D) (ok : α → Bool) (I : Env → Prop) {d0 d1 : D} (hi : fi env = .ok (xs.map enc)) (h0 : I env)
    (H : ∀ x ∈ xs, ∀ env, I env → ∃ e1, bt (enc x) env = .ok e1 ∧ (ok x = true → ∃ e2, gb e1 = .ok (.nx e2) ∧ I e2) ∧ (ok x = false → gb e1 = .ok (.rt d0))) (hr : ∀ e, I e → g2 e = .ok (.rt d1)) :
    sSeq (sFor fi bt gb) g2 env = .ok (.rt (if xs.all ok = true then d1 else d0)) := by
  unfold sSeq sFor
  rw [hi, Res.bind_ok]
  rcases forS_check xs env h0 H with ⟨g1, e, g3, g4⟩ | ⟨g1, g3⟩
  · rw [g3, g1]
    exact hr e g4
  · rw [g3, g1]
    rfl
/-- a for that goes through, step by step -/
theorem forS_cons {e1 e2 : Env} (h1 : bt d env = .ok e1) (h2 : gb e1 = .ok (.nx e2)) (h3 : forS bt gb ds e2 = r) : forS bt gb (d :: ds) env = r := by
  show bOk (bt d env) _ = _
  rw [h1, bOk_ok, h2]
  exact h3
end
end Dt
namespace Dt
open PySem PySem.Spec PyProof.Rows L2 He
theorem pickG_rev {α : Type} (l : List α) : pickG l none none (-1) = l.reverse := by
  unfold pickG
  rw [PySem.W.krv_bounds]
  show (sliceRange ((l.length : Int) - 1) (-1) (-1)).filterMap (l[·]?) = _
  rw [PySem.W.krv_sliceRange, PySem.W.krv_range, List.filterMap_reverse]
  have e := PySem.W.krv_all l.toArray
  congr 1
  simpa using e
theorem slSt_rev {l : List Tr} (h : l.length ≤ 1000) : slStD none none (some (-1)) (bk l) = some (bk l.reverse) := by
  have e := slSt_map tr (xs := l) (lo := none) (hi := none) (k := -1) (by decide) (by omega)
  rw [pickG_rev] at e
  exact e
end Dt
namespace Dt
/-! ## the cheapest tariffs -/
theorem mul_le_of {a b c : Int} (h : 0 < c) (e : a * c ≤ b * c) : a ≤ b := Int.le_of_mul_le_mul_right e h
theorem mul_lt_of {a b c : Int} (h : 0 < c) (e : a * c < b * c) : a < b := Int.lt_of_mul_lt_mul_right e (Int.le_of_lt h)
/-- from a price at p on -/
theorem le_on {p q u c : Tr} (hp : 0 < p.2) (hq : 0 < q.2) (h : cst c p ≤ cst u p) (hc : c.2 ≤ u.2) (hl : p.1 * q.2 ≤ q.1 * p.2) : cst c q ≤ cst u q := by
  unfold cst at *
  apply mul_le_of hp
  have h3 := Int.mul_le_mul_of_nonneg_right h (Int.le_of_lt hq)
  have h4 := Int.mul_nonneg (show 0 ≤ u.2 - c.2 by omega) (show 0 ≤ q.1 * p.2 - p.1 * q.2 by omega)
  grind
theorem lt_on {p q u c : Tr} (hp : 0 < p.2) (hq : 0 < q.2) (h : cst c p < cst u p) (hc : c.2 ≤ u.2) (hl : p.1 * q.2 ≤ q.1 * p.2) : cst c q < cst u q := by
  unfold cst at *
  apply mul_lt_of hp
  have h3 := Int.mul_lt_mul_of_pos_right h hq
  have h4 := Int.mul_nonneg (show 0 ≤ u.2 - c.2 by omega) (show 0 ≤ q.1 * p.2 - p.1 * q.2 by omega)
  grind
/-- the current tariff: cheapest at p, and of the cheapest the one that costs least by the piece -/
structure Cur (l : List Tr) (p : Tr) (c : Nat) (tc : Tr) : Prop where
  at_ : l[c]? = some tc
  am : Am p
  best : ∀ u ∈ l, cst tc p < cst u p ∨ (cst tc p = cst u p ∧ tc.2 ≤ u.2)
theorem Cur.le {l : List Tr} {p : Tr} {c : Nat} {tc : Tr} (h : Cur l p c tc) : ∀ u ∈ l, cst tc p ≤ cst u p := fun u hu => by
  rcases h.best u hu with e | ⟨e, _⟩ <;> omega
/-- what next_of gives -/
structure Nxt (l : List Tr) (tc : Tr) (a b : Int) (n : Nat) (tn : Tr) : Prop where
  at_ : l[n]? = some tn
  lt : tn.2 < tc.2
  ea : a = tn.1 - tc.1
  eb : b = tc.2 - tn.2
  best : ∀ u ∈ l, u.2 < tc.2 → a * (tc.2 - u.2) < (u.1 - tc.1) * b ∨ (a * (tc.2 - u.2) = (u.1 - tc.1) * b ∧ tn.2 ≤ u.2)
section
variable {l : List Tr} {p tc tn : Tr} {c n : Nat} {a b : Int}
theorem nxt_pos (C : Cur l p c tc) (N : Nxt l tc a b n tn) : 0 ≤ a ∧ 0 < b ∧ p.1 * b < a * p.2 := by
  obtain ⟨h1, h2, rfl, rfl, h5⟩ := N
  have tm := List.mem_of_getElem? h1
  have d0 := C.am.d0
  have n0 := C.am.n0
  have k : p.1 * (tc.2 - tn.2) < (tn.1 - tc.1) * p.2 := by
    rcases C.best tn tm with e | ⟨_, e⟩
    · unfold cst at e
      grind
    · omega
  refine ⟨?_, by omega, k⟩
  have z : 0 ≤ p.1 * (tc.2 - tn.2) := Int.mul_nonneg n0 (by omega)
  have z2 : 0 < (tn.1 - tc.1) * p.2 := by omega
  have : 0 < tn.1 - tc.1 := by
    apply mul_lt_of d0
    omega
  omega
/-- the next begin -/
structure Step (l : List Tr) (p : Tr) (tc tn q : Tr) (n : Nat) : Prop where
  cur : Cur l q n tn
  lt : p.1 * q.2 < q.1 * p.2
  le : ∀ u ∈ l, cst tc q ≤ cst u q
  pc : tn.2 < tc.2
theorem nxt_step (C : Cur l p c tc) (N : Nxt l tc a b n tn) : Step l p tc tn (low a b) n := by
  obtain ⟨a0, b0, k⟩ := nxt_pos C N
  have am := low_am a0 b0
  have le := low_eq a0 b0
  have q0 := am.d0
  have p0 := C.am.d0
  generalize low a b = q at am le q0
  have lt : p.1 * q.2 < q.1 * p.2 := by
    apply mul_lt_of b0
    have := Int.mul_lt_mul_of_pos_right k q0
    have e9 : q.1 * b * p.2 = a * q.2 * p.2 := by rw [le]
    grind
  have all : ∀ u ∈ l, cst tc q < cst u q ∨ (cst tc q = cst u q ∧ tn.2 ≤ u.2) := fun u hu => by
    by_cases hc : u.2 < tc.2
    · rcases N.best u hu hc with e | ⟨e, e2⟩
      · left
        unfold cst
        apply mul_lt_of b0
        have := Int.mul_lt_mul_of_pos_right e q0
        have e9 : q.1 * b * (tc.2 - u.2) = a * q.2 * (tc.2 - u.2) := by rw [le]
        grind
      · right
        refine ⟨?_, e2⟩
        have e3 : cst tc q * b = cst u q * b := by
          unfold cst
          have : a * (tc.2 - u.2) * q.2 = (u.1 - tc.1) * b * q.2 := by rw [e]
          have e9 : q.1 * b * (tc.2 - u.2) = a * q.2 * (tc.2 - u.2) := by rw [le]
          grind
        exact Int.eq_of_mul_eq_mul_right (by omega) e3
    · have h := le_on (q := q) p0 q0 (C.le u hu) (by omega) (Int.le_of_lt lt)
      have := N.lt
      by_cases e : cst tc q = cst u q
      · exact .inr ⟨e, by omega⟩
      · exact .inl (by omega)
  have same : cst tn q = cst tc q := by
    have e1 := N.ea
    have e2 := N.eb
    subst e1 e2
    unfold cst
    grind
  refine ⟨⟨N.at_, am, fun u hu => ?_⟩, lt, fun u hu => ?_, N.lt⟩
  · rw [same]
    exact all u hu
  · rcases all u hu with e | ⟨e, _⟩ <;> omega
end
/-- begins and places -/
structure Rg (l : List Tr) (bs : List Tr) (ps : List Nat) : Prop where
  len : bs.length = ps.length
  one : ∀ (i : Nat) (p : Tr) (c : Nat), bs[i]? = some p → ps[i]? = some c → ∃ tc, Cur l p c tc
  two : ∀ (i : Nat) (p q : Tr) (c n : Nat), bs[i]? = some p → bs[i + 1]? = some q → ps[i]? = some c → ps[i + 1]? = some n → ∃ tc tn, l[c]? = some tc ∧ Step l p tc tn q n
  zero : bs[0]? = some (0, 1)
theorem Rg.start {l : List Tr} {c : Nat} {tc : Tr} (C : Cur l (0, 1) c tc) : Rg l [(0, 1)] [c] := by
  refine ⟨rfl, fun i p d h1 h2 => ?_, fun i p q d n h1 h2 => ?_, rfl⟩
  · cases i with
    | zero =>
      cases h1
      cases h2
      exact ⟨tc, C⟩
    | succ i => cases h1
  · cases h2
theorem Rg.snoc {l : List Tr} {bs : List Tr} {ps : List Nat} {p q tc tn : Tr} {c n : Nat} (R : Rg l bs ps) (hb : bs[bs.length - 1]? = some p) (hp : ps[ps.length - 1]? = some c) (hc : l[c]? = some tc) (S : Step l p tc tn q n) : Rg l (bs ++ [q]) (ps ++ [n]) := by
  have hz : 0 < bs.length := by
    cases bs with
    | nil => cases hb
    | cons x xs => exact Nat.succ_pos _
  have old : ∀ {α : Type} (xs : List α) (x y : α) (i : Nat), (xs ++ [x])[i]? = some y → (i < xs.length ∧ xs[i]? = some y) ∨ (i = xs.length ∧ y = x) := fun xs x y i h => by
    by_cases hi : i < xs.length
    · rw [List.getElem?_append_left hi] at h
      exact .inl ⟨hi, h⟩
    · rw [List.getElem?_append_right (by omega)] at h
      by_cases e : i = xs.length
      · subst e
        rw [Nat.sub_self] at h
        cases h
        exact .inr ⟨rfl, rfl⟩
      · rw [List.getElem?_eq_none (by show 1 ≤ _; omega)] at h
        cases h
  have hl := R.len
  refine ⟨by rw [List.length_append, List.length_append, hl]; rfl, fun i p' c' h1 h2 => ?_, fun i p' q' c' n' h1 h2 h3 h4 => ?_, ?_⟩
  · rcases old _ _ _ _ h1 with ⟨i1, h1⟩ | ⟨i1, rfl⟩
    · rcases old _ _ _ _ h2 with ⟨i2, h2⟩ | ⟨i2, rfl⟩
      · exact R.one i p' c' h1 h2
      · omega
    · rcases old _ _ _ _ h2 with ⟨i2, h2⟩ | ⟨i2, rfl⟩
      · omega
      · exact ⟨tn, S.cur⟩
  · rcases old _ _ _ _ h2 with ⟨i2, h2⟩ | ⟨i2, rfl⟩
    · rcases old _ _ _ _ h4 with ⟨i4, h4⟩ | ⟨i4, rfl⟩
      · rcases old _ _ _ _ h1 with ⟨i1, h1⟩ | ⟨i1, rfl⟩
        · rcases old _ _ _ _ h3 with ⟨i3, h3⟩ | ⟨i3, rfl⟩
          · exact R.two i p' q' c' n' h1 h2 h3 h4
          · omega
        · omega
      · omega
    · rcases old _ _ _ _ h4 with ⟨i4, h4⟩ | ⟨i4, rfl⟩
      · omega
      · rcases old _ _ _ _ h1 with ⟨i1, h1⟩ | ⟨i1, rfl⟩
        · rcases old _ _ _ _ h3 with ⟨i3, h3⟩ | ⟨i3, rfl⟩
          · have e1 : i = bs.length - 1 := by omega
            have e2 : i = ps.length - 1 := by omega
            rw [e1, hb] at h1
            rw [e2, hp] at h3
            cases h1
            cases h3
            exact ⟨tc, tn, hc, S⟩
          · omega
        · omega
  · rw [List.getElem?_append_left hz]
    exact R.zero
/-- the first tariff -/
theorem first_cur {l : List Tr} {c : Nat} {tc : Tr} (hc : l[c]? = some tc) (h : ∀ u ∈ l, tc.1 < u.1 ∨ (tc.1 = u.1 ∧ tc.2 ≤ u.2)) : Cur l (0, 1) c tc := by
  refine ⟨hc, ⟨by decide, by decide, by decide⟩, fun u hu => ?_⟩
  have e : ∀ t : Tr, cst t (0, 1) = t.1 := fun t => by
    show t.1 * 1 + t.2 * 0 = t.1
    omega
  rw [e, e]
  exact h u hu
/-- how many cost less by the piece -/
def less (l : List Tr) (x : Int) : Nat := l.countP fun u => decide (u.2 < x)
theorem countP_lt {α : Type} {p q : α → Bool} : ∀ {l : List α}, (∀ x ∈ l, p x = true → q x = true) → (∃ x ∈ l, p x = false ∧ q x = true) → l.countP p < l.countP q
  | [], _, ⟨x, hx, _⟩ => by cases hx
  | y :: l, h, ⟨x, hx, h1, h2⟩ => by
    have le : l.countP p ≤ l.countP q := List.countP_mono_left fun z hz => h z (List.mem_cons_of_mem _ hz)
    rw [List.countP_cons, List.countP_cons]
    rcases List.mem_cons.mp hx with rfl | hx
    · rw [h1, h2]
      simp only [Bool.false_eq_true, if_false, if_true]
      omega
    · have ih := countP_lt (fun z hz => h z (List.mem_cons_of_mem _ hz)) ⟨x, hx, h1, h2⟩
      cases e : p y with
      | true =>
        rw [h y List.mem_cons_self e]
        simp only [if_true]
        omega
      | false =>
        simp only [Bool.false_eq_true, if_false]
        omega
theorem less_lt {l : List Tr} {t : Tr} {x : Int} (ht : t ∈ l) (h : t.2 < x) : less l t.2 < less l x := by
  refine countP_lt (fun u _ hu => ?_) ⟨t, ht, ?_, ?_⟩
  · exact decide_eq_true (by have := of_decide_eq_true hu; omega)
  · exact decide_eq_false (by omega)
  · exact decide_eq_true h
theorem less_len {l : List Tr} {t : Tr} (ht : t ∈ l) : less l t.2 + 1 ≤ l.length := by
  unfold less
  have h := @List.length_eq_countP_add_countP Tr (fun u => decide (u.2 < t.2)) l
  have : 0 < l.countP fun u => decide ¬ decide (u.2 < t.2) = true := List.countP_pos_iff.mpr ⟨t, ht, by simp⟩
  omega
/-! ## mixtures -/
/-- a mixture of two places for a tariff -/
def mixB (l : List Tr) (i k a b : Int) (t : Tr) : Bool := ((decide (0 ≤ i) && decide (i < l.length)) && (decide (0 ≤ k) && decide (k < l.length))) && ((decide (0 ≤ a) && (decide (0 ≤ b) && decide (0 < a + b))) && match l[i.toNat]?, l[k.toNat]? with
  | some u, some w => decide (a * u.1 + b * w.1 ≤ (a + b) * t.1) && decide (a * u.2 + b * w.2 ≤ (a + b) * t.2)
  | _, _ => false)
theorem mixB_of {l : List Tr} {i k : Nat} {a b : Int} {t u w : Tr} (hi : l[i]? = some u) (hk : l[k]? = some w) (ha : 0 ≤ a) (hb : 0 ≤ b) (hs : 0 < a + b) (h1 : a * u.1 + b * w.1 ≤ (a + b) * t.1) (h2 : a * u.2 + b * w.2 ≤ (a + b) * t.2) : mixB l i k a b t = true := by
  have i1 : i < l.length := (List.getElem?_eq_some_iff.mp hi).1
  have k1 : k < l.length := (List.getElem?_eq_some_iff.mp hk).1
  unfold mixB
  rw [decide_eq_true (by omega : (0 : Int) ≤ (i : Int)), decide_eq_true (by omega : (i : Int) < l.length), decide_eq_true (by omega : (0 : Int) ≤ (k : Int)), decide_eq_true (by omega : (k : Int) < l.length), decide_eq_true ha, decide_eq_true hb, decide_eq_true hs, Int.toNat_natCast, Int.toNat_natCast, hi, hk]
  show (_ && (_ && (decide (a * u.1 + b * w.1 ≤ (a + b) * t.1) && decide (a * u.2 + b * w.2 ≤ (a + b) * t.2)))) = true
  rw [decide_eq_true h1, decide_eq_true h2]
  rfl
/-- the mixture at a begin -/
theorem mix_at {q one other t : Tr} (hq : 0 < q.2) (e : cst one q = cst other q) (h : cst other q ≤ cst t q) (h1 : other.2 ≤ t.2) (h2 : t.2 < one.2) :
    (t.2 - other.2) * one.1 + (one.2 - t.2) * other.1 ≤ ((t.2 - other.2) + (one.2 - t.2)) * t.1 ∧ (t.2 - other.2) * one.2 + (one.2 - t.2) * other.2 ≤ ((t.2 - other.2) + (one.2 - t.2)) * t.2 := by
  constructor
  · unfold cst at *
    apply mul_le_of hq
    have h3 := Int.mul_le_mul_of_nonneg_left h (show 0 ≤ one.2 - other.2 by omega)
    have e9 : (t.2 - other.2) * (one.1 * q.2 + one.2 * q.1) = (t.2 - other.2) * (other.1 * q.2 + other.2 * q.1) := by rw [e]
    grind
  · grind
/-- beyond a last range -/
theorem last_far {p t c : Tr} (hp : 0 < p.2) (p0 : 0 ≤ p.1) (h : cst c p ≤ cst t p) (hc : t.2 < c.2) : 0 ≤ (t.1 - c.1) / (c.2 - t.2) ∧ cst t ((t.1 - c.1) / (c.2 - t.2) + 1, 1) < cst c ((t.1 - c.1) / (c.2 - t.2) + 1, 1) ∧ p.1 * 1 ≤ ((t.1 - c.1) / (c.2 - t.2) + 1) * p.2 := by
  have d0 : 0 < c.2 - t.2 := by omega
  have e1 := Int.mul_ediv_add_emod (t.1 - c.1) (c.2 - t.2)
  have m0 := Int.emod_nonneg (t.1 - c.1) (show c.2 - t.2 ≠ 0 by omega)
  have m1 := Int.emod_lt_of_pos (t.1 - c.1) d0
  generalize (t.1 - c.1) / (c.2 - t.2) = x at *
  generalize (t.1 - c.1) % (c.2 - t.2) = r at *
  have n0 : 0 ≤ t.1 - c.1 := by
    apply mul_le_of hp
    have := Int.mul_nonneg (show 0 ≤ c.2 - t.2 by omega) p0
    unfold cst at h
    grind
  have x0 : 0 ≤ x := by
    have : (-1) * (c.2 - t.2) < x * (c.2 - t.2) := by grind
    have := mul_lt_of d0 this
    omega
  refine ⟨x0, ?_, ?_⟩
  · show t.1 * 1 + t.2 * (x + 1) < c.1 * 1 + c.2 * (x + 1)
    grind
  · apply mul_le_of d0
    unfold cst at h
    have h2 : (t.1 - c.1) ≤ (x + 1) * (c.2 - t.2) := by grind
    have h3 := Int.mul_le_mul_of_nonneg_right h2 (Int.le_of_lt hp)
    grind
end Dt
namespace Dt
open PySem PySem.Spec PyProof.Rows L2
/-! ## what next_of keeps -/
structure NB (l : List Tr) (tc : Tr) (n : Nat) (b : Option (Int × Int × Nat)) : Prop where
  nil : b = none → ∀ i u, i < n → l[i]? = some u → tc.2 ≤ u.2
  cns : ∀ x y j, b = some (x, y, j) → j < n ∧ ∃ tn, l[j]? = some tn ∧ tn.2 < tc.2 ∧ x = tn.1 - tc.1 ∧ y = tc.2 - tn.2 ∧
    ∀ i u, i < n → l[i]? = some u → u.2 < tc.2 → x * (tc.2 - u.2) < (u.1 - tc.1) * y ∨ (x * (tc.2 - u.2) = (u.1 - tc.1) * y ∧ tn.2 ≤ u.2)
section
variable {l : List Tr} {tc u tn : Tr} {n j : Nat} {x y : Int} {b : Option (Int × Int × Nat)}
theorem NB.zero : NB l tc 0 none := ⟨fun _ i u h => absurd h (Nat.not_lt_zero _), fun _ _ _ e => by cases e⟩
theorem NB.skip (h : NB l tc n b) (hu : l[n]? = some u) (c : ¬ u.2 < tc.2) : NB l tc (n + 1) b := by
  refine ⟨fun e i w hi hw => ?_, fun x y j e => ?_⟩
  · by_cases q : i = n
    · subst q
      rw [hu] at hw
      cases hw
      omega
    · exact h.nil e i w (by omega) hw
  · obtain ⟨h1, tn, h2, h3, h4, h5, h6⟩ := h.cns x y j e
    refine ⟨by omega, tn, h2, h3, h4, h5, fun i w hi hw hl => ?_⟩
    by_cases q : i = n
    · subst q
      rw [hu] at hw
      cases hw
      omega
    · exact h6 i w (by omega) hw hl
theorem NB.first (h : NB l tc n none) (hu : l[n]? = some u) (c : u.2 < tc.2) : NB l tc (n + 1) (some (u.1 - tc.1, tc.2 - u.2, n)) := by
  refine ⟨fun e => (by cases e), fun x y j e => ?_⟩
  cases e
  refine ⟨by omega, u, hu, c, rfl, rfl, fun i w hi hw hl => ?_⟩
  by_cases q : i = n
  · subst q
    rw [hu] at hw
    cases hw
    exact .inr ⟨rfl, Int.le_refl _⟩
  · have := h.nil rfl i w (by omega) hw
    omega
theorem NB.less (h : NB l tc n (some (x, y, j))) (hu : l[n]? = some u) (c : u.2 < tc.2) (k : (u.1 - tc.1) * y < x * (tc.2 - u.2)) : NB l tc (n + 1) (some (u.1 - tc.1, tc.2 - u.2, n)) := by
  refine ⟨fun e => (by cases e), fun x' y' j' e => ?_⟩
  cases e
  obtain ⟨h1, tn, h2, h3, h4, h5, h6⟩ := h.cns x y j rfl
  refine ⟨by omega, u, hu, c, rfl, rfl, fun i w hi hw hl => ?_⟩
  by_cases q : i = n
  · subst q
    rw [hu] at hw
    cases hw
    exact .inr ⟨rfl, Int.le_refl _⟩
  · left
    have y0 : 0 < y := by omega
    have g : x * (tc.2 - w.2) ≤ (w.1 - tc.1) * y := by
      rcases h6 i w (by omega) hw hl with e | ⟨e, _⟩ <;> omega
    apply mul_lt_of y0
    have g1 := Int.mul_lt_mul_of_pos_right k (show 0 < tc.2 - w.2 by omega)
    have g2 := Int.mul_le_mul_of_nonneg_right g (show 0 ≤ tc.2 - u.2 by omega)
    grind
theorem NB.tie (h : NB l tc n (some (x, y, j))) (hu : l[n]? = some u) (c : u.2 < tc.2) (k : (u.1 - tc.1) * y = x * (tc.2 - u.2)) (ht : l[j]? = some tn) (k2 : u.2 < tn.2) : NB l tc (n + 1) (some (u.1 - tc.1, tc.2 - u.2, n)) := by
  refine ⟨fun e => (by cases e), fun x' y' j' e => ?_⟩
  cases e
  obtain ⟨h1, tn', h2, h3, h4, h5, h6⟩ := h.cns x y j rfl
  rw [ht] at h2
  cases h2
  refine ⟨by omega, u, hu, c, rfl, rfl, fun i w hi hw hl => ?_⟩
  by_cases q : i = n
  · subst q
    rw [hu] at hw
    cases hw
    exact .inr ⟨rfl, Int.le_refl _⟩
  · have y0 : 0 < y := by omega
    have z0 : 0 < tc.2 - u.2 := by omega
    have g1 : (u.1 - tc.1) * y * (tc.2 - w.2) = x * (tc.2 - u.2) * (tc.2 - w.2) := by rw [k]
    rcases h6 i w (by omega) hw hl with e | ⟨e, e2⟩
    · left
      apply mul_lt_of y0
      have g2 := Int.mul_lt_mul_of_pos_right e z0
      grind
    · right
      refine ⟨?_, by omega⟩
      apply Int.eq_of_mul_eq_mul_right (show y ≠ 0 by omega)
      have g2 : x * (tc.2 - w.2) * (tc.2 - u.2) = (w.1 - tc.1) * y * (tc.2 - u.2) := by rw [e]
      grind
theorem NB.keep (h : NB l tc n (some (x, y, j))) (hu : l[n]? = some u) (c : u.2 < tc.2) (ht : l[j]? = some tn) (k : ¬ (u.1 - tc.1) * y < x * (tc.2 - u.2)) (k2 : ¬ ((u.1 - tc.1) * y = x * (tc.2 - u.2) ∧ u.2 < tn.2)) : NB l tc (n + 1) (some (x, y, j)) := by
  refine ⟨fun e => (by cases e), fun x' y' j' e => ?_⟩
  cases e
  obtain ⟨h1, tn', h2, h3, h4, h5, h6⟩ := h.cns x y j rfl
  rw [ht] at h2
  cases h2
  refine ⟨by omega, tn, ht, h3, h4, h5, fun i w hi hw hl => ?_⟩
  by_cases q : i = n
  · subst q
    rw [hu] at hw
    cases hw
    by_cases e : (u.1 - tc.1) * y = x * (tc.2 - u.2)
    · exact .inr ⟨e.symm, by
        by_cases e2 : u.2 < tn.2
        · exact absurd ⟨e, e2⟩ k2
        · omega⟩
    · left; omega
  · exact h6 i w (by omega) hw hl
end
/-! ## the first of the least -/
def enumT : Nat → List Tr → List T3
  | _, [] => []
  | n, t :: l => (t.1, t.2, (n : Int)) :: enumT (n + 1) l
theorem enumT_enc : ∀ (n : Nat) (l : List Tr), enumFrom n (l.map tr) = (enumT n l).map fun t => .tup [.int t.2.2, tr (t.1, t.2.1)]
  | _, [] => rfl
  | n, t :: l => by
    show D.tup [.int (n : Nat), tr t] :: enumFrom (n + 1) (l.map tr) = D.tup [.int (n : Nat), tr t] :: _
    rw [enumT_enc (n + 1) l]
theorem enumT_len : ∀ (n : Nat) (l : List Tr), (enumT n l).length = l.length
  | _, [] => rfl
  | n, t :: l => by
    show (enumT (n + 1) l).length + 1 = l.length + 1
    rw [enumT_len]
theorem enumT_mem : ∀ {n : Nat} {l : List Tr} {t : T3}, t ∈ enumT n l → ∃ i, n ≤ i ∧ l[i - n]? = some (t.1, t.2.1) ∧ t.2.2 = (i : Int)
  | _, [], _, h => by cases h
  | n, x :: l, t, h => by
    rcases List.mem_cons.mp h with rfl | h
    · exact ⟨n, Nat.le_refl _, by rw [Nat.sub_self]; rfl, rfl⟩
    · obtain ⟨i, h1, h2, h3⟩ := enumT_mem h
      refine ⟨i, by omega, ?_, h3⟩
      rw [show i - n = (i - (n + 1)) + 1 by omega]
      exact h2
theorem mem_enumT : ∀ {n : Nat} {l : List Tr} {u : Tr}, u ∈ l → ∃ t ∈ enumT n l, t.1 = u.1 ∧ t.2.1 = u.2
  | n, x :: l, u, h => by
    rcases List.mem_cons.mp h with rfl | h
    · exact ⟨_, List.mem_cons_self, rfl, rfl⟩
    · obtain ⟨t, h1, h2⟩ := mem_enumT (n := n + 1) h
      exact ⟨t, List.mem_cons_of_mem _ h1, h2⟩
theorem min3_spec : ∀ (ts : List T3) (t : T3), (min3 t ts ∈ t :: ts) ∧ ∀ y ∈ t :: ts, lt3 y (min3 t ts) = false
  | [], t => ⟨List.mem_cons_self, fun y hy => by
    obtain rfl := List.mem_singleton.mp hy
    show lt3 y y = false
    unfold lt3
    exact decide_eq_false (by omega)⟩
  | z :: ts, t => by
    have e : min3 t (z :: ts) = min3 (if lt3 z t = true then z else t) ts := rfl
    obtain ⟨h1, h2⟩ := min3_spec ts (if lt3 z t = true then z else t)
    rw [e]
    generalize hm : min3 (if lt3 z t = true then z else t) ts = m at *
    have h0 := h2 _ List.mem_cons_self
    refine ⟨?_, fun y hy => ?_⟩
    · rcases List.mem_cons.mp h1 with h1 | h1
      · rw [h1]
        split
        · exact List.mem_cons_of_mem _ List.mem_cons_self
        · exact List.mem_cons_self
      · exact List.mem_cons_of_mem _ (List.mem_cons_of_mem _ h1)
    · rcases List.mem_cons.mp hy with rfl | hy
      · by_cases c : lt3 z y = true
        · rw [if_pos c] at h0
          unfold lt3 at *
          have c := of_decide_eq_true c
          have h0 := of_decide_eq_false h0
          exact decide_eq_false (by omega)
        · rw [if_neg c] at h0
          exact h0
      · rcases List.mem_cons.mp hy with rfl | hy
        · by_cases c : lt3 y t = true
          · rw [if_pos c] at h0
            exact h0
          · rw [if_neg c] at h0
            unfold lt3 at *
            have c : ¬ _ := fun z => c (decide_eq_true z)
            have h0 := of_decide_eq_false h0
            exact decide_eq_false (by omega)
        · exact h2 y (List.mem_cons_of_mem _ hy)
theorem first_of {l : List Tr} {t : T3} {ts : List T3} (e : enumT 0 l = t :: ts) : ∃ c tc, (min3 t ts).2.2 = ((c : Nat) : Int) ∧ Cur l (0, 1) c tc := by
  obtain ⟨h1, h2⟩ := min3_spec ts t
  rw [← e] at h1 h2
  obtain ⟨c, _, h3, h4⟩ := enumT_mem h1
  refine ⟨c, _, h4, first_cur h3 fun u hu => ?_⟩
  obtain ⟨y, hy, e1, e2⟩ := mem_enumT (n := 0) hu
  have h5 := h2 y hy
  obtain ⟨i, _, _, _⟩ := enumT_mem hy
  unfold lt3 at h5
  have h5 := of_decide_eq_false h5
  show (min3 t ts).1 < u.1 ∨ ((min3 t ts).1 = u.1 ∧ (min3 t ts).2.1 ≤ u.2)
  rw [← e1, ← e2]
  omega
/-! ## last items -/
theorem atI_neg1 {α : Type} {xs : List α} {x : α} (h : xs[xs.length - 1]? = some x) : atI xs (-1) = some x := by
  have hl : 0 < xs.length := by
    cases xs with
    | nil => cases h
    | cons a as => exact Nat.succ_pos _
  have e : ixN xs.length (-1) = some (xs.length - 1) := by
    unfold ixN
    rw [if_neg (by decide), if_pos (by omega)]
    congr 1
    omega
  unfold atI
  rw [e]
  exact h
theorem zipD_at {α β : Type} {f : α → D} {g : β → D} : ∀ {xs : List α} {ys : List β} {i : Nat} {d : D}, (zipD (xs.map f) (ys.map g))[i]? = some d → ∃ x y, xs[i]? = some x ∧ ys[i]? = some y ∧ d = .tup [f x, g y]
  | [], ys, i, d, h => by
    rw [show zipD (([] : List α).map f) (ys.map g) = [] by cases ys <;> rfl] at h
    cases h
  | x :: xs, [], i, d, h => by cases h
  | x :: xs, y :: ys, 0, d, h => by
    cases h
    exact ⟨x, y, rfl, rfl, rfl⟩
  | x :: xs, y :: ys, i + 1, d, h => by
    obtain ⟨a, b, h1, h2, h3⟩ := zipD_at (xs := xs) (ys := ys) (i := i) (d := d) h
    exact ⟨a, b, h1, h2, h3⟩
end Dt
namespace Dt
open PySem PySem.Spec PyProof.Rows L2 He
/-! ## results of one's own -/
abbrev Fl2 := List (Str × List D)
inductive Ow where
  | sh (d : D) | lst (ds : List D) | ins (C : Addr) (fs : Fl2)
def Ow.sl : Ow → Sl
  | .sh d => .sh d
  | .lst ds => .ow ds
  | .ins C fs => .oi C fs
/-- the value v is what o tells -/
def OwV (K : PySem.W.Frag) (P : Addr → Prop) (A H : Hp) (v : V) : Ow → Prop
  | .sh d => Rep K A v d
  | .lst ds => ∃ p vs, v = .ref p ∧ H p = some (.lst vs) ∧ A p = none ∧ Reps K A vs ds ∧ P p
  | .ins C fs => ∃ x dx vfs, v = .ref x ∧ H x = some (.ins C dx vfs) ∧ A x = none ∧ RepL K A H vfs fs ∧ ∀ n q, (n, V.ref q) ∈ vfs → P q
def KO (K : PySem.W.Frag) (P : Addr → Prop) (Q : VK) (E : Addr → Hp → Prop) (H0 H : Hp) : Res Ow → Prop
  | .no => False
  | .ex C => ∀ A H', Grow H0 H A H' → E C H'
  | .ok o => ∀ v A H', Grow H0 H A H' → OwV K P A H' v o → Q v H'
def spDO (K : PySem.W.Frag) (n : Nat) (φ : List D → Res Ow) : Sp := fun vs H Q E => ∃ H0 ds, Same H0 H ∧ Reps K H0 vs ds ∧ ds.length = n ∧ KO K (fun p => H p = none) Q (fun C H' => E (.ref C) none H') H0 H (φ ds)
theorem spDO_len {K : PySem.W.Frag} {n : Nat} {φ : List D → Res Ow} {ps : List Str} (h : ps.length = n) : ∀ vs H Q E, spDO K n φ vs H Q E → vs.length = ps.length := fun vs H Q E ⟨H0, ds, _, r, l, _⟩ => by
  rw [r.length, l, h]
/-! ### a body that gives such a result -/
inductive Fo where
  | fl (f : Fl) | ow (o : Ow)
def KSO (K : PySem.W.Frag) (W : WX) (G : Hp → Hp → Prop) (P : Addr → Prop) (Dd : Ends) : Res Fo → Prop
  | .no => False
  | .ex C => KS K W G P Dd (.ex C)
  | .ok (.fl f) => KS K W G P Dd (.ok f)
  | .ok (.ow o) => ∀ v A H, G A H → OwV K P A H v o → Dd.rt v H
def tSO (K : PySem.W.Frag) (W : WX) (G : Hp → Hp → Prop) (P : Addr → Prop) (g : Env → Res Fo) : TS := fun Dd σ H => ∃ A env, Stt K G P σ A H env ∧ KSO K W G P Dd (g env)
def soSeq (g1 : Env → Res Fl) (g2 : Env → Res Fo) : Env → Res Fo := fun env => match g1 env with
  | .ok (.nx e) => g2 e
  | .ok f => .ok (.fl f)
  | .no => .no
  | .ex C => .ex C
def soRet (i : Nat) : Env → Res Fo := fun env => match env[i]? with
  | some (.ow ds) => .ok (.ow (.lst ds))
  | _ => .no
def allL : Fs → Option Fl2
  | [] => some []
  | (n, .lst ds) :: r => (allL r).map ((n, ds) :: ·)
  | _ => none
theorem allL_eq : ∀ {fs : Fs} {gs : Fl2}, allL fs = some gs → fs = gs.map fun f => (f.1, .lst f.2)
  | [], _, e => by cases e; rfl
  | (n, d) :: r, gs, e => by
    cases d with
    | lst ds =>
      have e : (allL r).map ((n, ds) :: ·) = some gs := e
      cases e1 : allL r with
      | none => rw [e1] at e; cases e
      | some g =>
        rw [e1] at e
        cases e
        rw [allL_eq e1]
        rfl
    | _ => cases e
def soMk (C : Addr) (g : List D → Option Fs) (fl : Env → Res (List D)) : Env → Res Fo := fun env => (fl env).bind fun ds => match (g ds).bind allL with
  | some fs => .ok (.ow (.ins C fs))
  | none => .no
theorem RepO.repl {K : PySem.W.Frag} {A H H' : Hp} : ∀ {L : List Addr} {vs : List (Str × V)} {fs : Fl2}, RepO K A H H' L vs (fs.map fun f => (f.1, .lst f.2)) → Same A H → RepL K A H' vs fs ∧ (∀ n q, (n, V.ref q) ∈ vs → q ∈ L)
  | _, _, [], .nil, _ => ⟨.nil, fun n q h => by cases h⟩
  | _, _, f :: fs, h, s => by
    have h : RepO K A H H' _ _ ((f.1, .lst f.2) :: fs.map fun f => (f.1, .lst f.2)) := h
    cases h with
    | sh nl _ _ => cases nl
    | ow h1 h2 h3 h4 h5 =>
      obtain ⟨r, m⟩ := RepO.repl h5 s
      refine ⟨.cons h2 (Same.free s h1) h3 (fun n z => h4 (m n _ z)) r, fun n q z => ?_⟩
      rcases List.mem_cons.mp z with e | z
      · cases e
        exact List.mem_cons_self
      · exact List.mem_cons_of_mem _ (m n q z)
section
variable {X : Cx} {W : WX} {G : Hp → Hp → Prop} {P : Addr → Prop} {st : Stmt} {rest : List Stmt} {g1 : Env → Res Fl} {g2 g : Env → Res Fo} {pos : Pos}
theorem so_cons (h1 : PS X st (tS X.K W G P g1)) (h2 : PSs X rest (tSO X.K W G P g2)) : PSs X (st :: rest) (tSO X.K W G P (soSeq g1 g2)) := PSs.imp (pss_cons h1 h2) fun Dd σ H h => by
  obtain ⟨A, env, s, k⟩ := h
  refine ⟨A, env, s, ?_⟩
  unfold soSeq at k
  cases e : g1 env with
  | no => rw [e] at k; exact k
  | ex C => rw [e] at k; exact k
  | ok f =>
    rw [e] at k
    cases f with
    | nx e2 => exact fun σ' A' H' s' => ⟨A', e2, s', k⟩
    | rt d => exact k
    | bk e2 => exact k
    | ct e2 => exact k
theorem so_one (h : PS X st (tSO X.K W G P g)) : PSs X [st] (tSO X.K W G P g) := pss_one h
theorem so_frz (gd : Gd G P) (i : Nat) (h : PSs X rest (tSO X.K W G P g)) : PSs X rest (tSO X.K W G P fun env => g (frz i env)) := PSs.imp h fun Dd σ H h => by
  obtain ⟨A, env, s, k⟩ := h
  obtain ⟨A', s'⟩ := stt_frz gd i s
  exact ⟨A', _, s', k⟩
/-- return xs, one's own -/
theorem so_ret (gd : Gd G P) (i : Nat) {x : Str} {xp : Pos} (hi : X.N[i]? = some x := by rfl) (hv : Vis X.env.scope x := by first | exact Or.inl rfl | exact Or.inr (Or.inl rfl)) (hd : (x == ("__debug__" : Str)) = false := by decide) (hcd : (x == ("__classdict__" : Str)) = false := by decide) :
    PS X (.Return (some (.Name x xp)) pos) (tSO X.K W G P (soRet i)) := PS.imp (ps_ret (pe_var hi hv hd hcd)) fun Dd σ H h => by
  obtain ⟨A, env, s, k⟩ := h
  unfold soRet at k
  cases e : env[i]? with
  | none => rw [e] at k; exact k.elim
  | some sl =>
    rw [e] at k
    cases sl with
    | ow ds =>
      obtain ⟨p, vs, h1, h2, h3, h4⟩ := s.er.ow i ds e
      exact ⟨_, h1, k _ A H s.g ⟨p, vs, rfl, h2, h3, h4, s.ow.l i ds p e h1⟩⟩
    | _ => exact k.elim
/-- return C(..), lists copied -/
theorem so_retMk (gd : Gd G P) {f C : Addr} {n : Nat} {gi : List D → Option Fs} {x : Str} {p cpos : Pos} {e : Expr} {es : List Expr} {fl : Env → Res (List D)} (F : HeldI X.prog X.w X.K X.mg X.base f C n gi) (hr : Room 2 X.A) (M : Mk X.K C f) (hg : Gl X x) (hm : X.mg x = some (.ref C)) (ha : PA X (e :: es) (tDs X.K W fl)) (hn : ArgE n fl)
    (hdb : (x == ("__debug__" : Str)) = false := by decide) (he : starEach (e :: es) X.env = (false, eval e X.env) :: starEach es X.env := by rfl) (hpl : (backTo cpos (starEach es X.env)).any (·.1) = false := by rfl) :
    PS X (.Return (some (.Call (.Name x p) (e :: es) [] cpos)) pos) (tSO X.K W G P (soMk C gi fl)) := by
  obtain ⟨fd, ps, F, b⟩ := F
  refine PS.imp (ps_ret (pe_make (E := fun _ _ _ => False) M F hr hg hm b .nil (fun pins σ H s e s' I h => (cx_false H s e s' h).elim) ha hdb he hpl)) fun Dd σ H h => ?_
  obtain ⟨A0, env, s, k⟩ := h
  have hl := hn env
  refine ⟨A0, env, s.er, ?_⟩
  unfold soMk at k
  cases e1 : fl env with
  | no => rw [e1] at k; exact k
  | ex C => rw [e1] at k; exact fun A' H' g => k σ A' H' (gd.grow s.g g)
  | ok ds =>
    rw [e1, Res.bind_ok] at k
    intro us A B gr r x dx hx hd ne
    have hle := hl ds e1
    have s' := s.grow gd gr
    have er' := s'.er
    rw [List.append_nil]
    cases e2 : gi ds with
    | none => rw [e2] at k; exact k.elim
    | some fs =>
      cases e3 : allL fs with
      | none => rw [e2, Option.bind_some, e3] at k; exact k.elim
      | some gs =>
        rw [e2, Option.bind_some, e3] at k
        have ax : A x = none := Same.free er'.sub hx
        have subI : Same A (upd (upd B dx (.own x)) x (.ins C dx [])) := fun b o z => by
          rw [upd_ne (ne_of_none z ax), upd_ne (ne_of_none z (Same.free er'.sub hd))]
          exact er'.sub b o z
        refine ⟨x, dx, us, A, ds, fs, rfl, upd_same, ax, subI, r, hle, e2, fun vfs L H' kp hx' ro => ⟨rfl, ?_⟩⟩
        rw [allL_eq e3] at ro
        obtain ⟨rl, mL⟩ := RepO.repl ro subI
        have bk : Same B H' := fun b o e => by
          have n1 : b ≠ x := ne_of_none e hx
          have n2 : b ≠ dx := ne_of_none e hd
          exact kp b o n1 (by rw [upd_ne n1, upd_ne n2]; exact e)
        have gH : G A H' := gd.grow s'.g (Grow.keep er'.sub bk)
        refine k _ A H' gH ⟨x, dx, vfs, rfl, hx', ax, rl, fun n q hq => ?_⟩
        have z := (ro.new q (mL n q hq)).1
        have n1 : q ≠ x := fun e => by rw [e, upd_same] at z; cases z
        rw [upd_ne n1] at z
        have n2 : q ≠ dx := fun e => by rw [e, upd_same] at z; cases z
        rw [upd_ne n2] at z
        exact gd.fresh s'.g z
end
def runO (n : Nat) (g : Env → Res Fo) (ds : List D) : Res Ow := match g (envOf n ds) with
  | .ok (.fl (.nx _)) => .ok (.sh .non)
  | .ok (.fl (.rt d)) => .ok (.sh d)
  | .ok (.ow o) => .ok o
  | .ex C => .ex C
  | _ => .no
section
variable {P : Program} {w : World} {K : PySem.W.Frag} {mg : Str → Option Value} {base : Heap} {x qual : Str} {params : Arguments} {body : List Stmt} {scope : Scope} {f : Addr} {fd : FuncData} {dvs : List V} {kws : List (Str × V)}
theorem fn_dtO {N ps : List Str} {k : Nat} {g : Env → Res Fo} (F : L2.FunD K x qual params body scope dvs kws f fd) (S : FnScope N ps scope)
    (hb : ∀ (cdv : Value) (A : Around) (outer : List PySem.Env) (s : Shared) (H : Hp) (E : XK) (G : Hp → Hp → Prop) (P' : Addr → Prop), Room k (A.deeper (envOfC qual scope s.heap.objs.size f cdv)) → Gd G P' →
      PSs (cxOf (L2.CX P w) P w K mg base N qual scope f cdv A outer s H E) body (tSO K (fun c d _ H => E c d H) G P' g)) : FnOk P w K mg base (L2.CX P w) (k + 1) f fd ps (spDO K ps.length (runO N.length g)) := by
  refine F.ok S (spDO_len rfl) fun cdv A outer s H vs Q E hr h => ?_
  obtain ⟨H0, ds, sm, r, hl, kk⟩ := h
  refine ⟨_, hb cdv A outer s H E _ _ hr (gd_entry H0 H), H0, envOf N.length ds, ⟨er_start sm r, own_start, Grow.refl sm⟩, ?_⟩
  unfold runO at kk
  cases e : g (envOf N.length ds) with
  | no => rw [e] at kk; exact kk
  | ex C =>
    rw [e] at kk
    exact fun σ A B g => kk A B g
  | ok fl =>
    rw [e] at kk
    cases fl with
    | ow o => exact fun v A B g r => kk v A B g r
    | fl fl =>
      cases fl with
      | nx env => exact fun σ A B s => kk .non A B s.g .non
      | rt d => exact fun v A B g r => kk v A B g r
      | bk env => exact kk.elim
      | ct env => exact kk.elim
end
def HeldO (P : Program) (w : World) (K : PySem.W.Frag) (mg : Str → Option Value) (base : Heap) (k : Nat) (f : Addr) (ps : List Str) (φ : List D → Res Ow) : Prop :=
  ∃ fd, FnOk P w K mg base (L2.CX P w) k f fd ps (spDO K ps.length φ) ∧ Binds K fd ps [] ∧ PySem.W.keepIn K (.ref f) = true
/-! ### name = f(..) -/
def noOi (env : Env) : Bool := env.all fun s => match s with
  | .oi _ _ => false
  | _ => true
def okSl (i : Nat) (env : Env) : Ow → Bool
  | .ins _ _ => noOi (env.set i .no)
  | _ => true
def sAsgOwn (i : Nat) (φ : List D → Res Ow) (fl : Env → Res (List D)) : Env → Res Fl := fun env => (fl env).bind fun ds => (φ ds).bind fun o => if okSl i env o = true then .ok (.nx (env.set i o.sl)) else .no
theorem noOi_get {env : Env} (h : noOi env = true) {i : Nat} {C : Addr} {fs : Fl2} : env[i]? ≠ some (.oi C fs) := fun e => by
  have := List.all_eq_true.mp h _ (List.mem_of_getElem? e)
  cases this
theorem stt_own {K : PySem.W.Frag} {G : Hp → Hp → Prop} {P : Addr → Prop} {σ : L2.St} {A H : Hp} {env : Env} {i : Nat} {v : V} {o : Ow} (s : Stt K G P σ A H env) (h : OwV K P A H v o) (ok : okSl i env o = true)
    (new : ∀ (j : Nat) (es : List D) (p : Addr), env[j]? = some (.ow es) → σ[j]? = some (some (.ref p)) → (∀ ds, o = .lst ds → v ≠ .ref p) ∧ (∀ C fs, o = .ins C fs → ∀ x C' dx vfs, v = .ref x → H x = some (.ins C' dx vfs) → ∀ n, (n, V.ref p) ∉ vfs))
    (newo : ∀ (j : Nat) (C : Addr) (fs : Fl2) (x C' dx : Addr) (vfs : List (Str × V)) (n : Str) (p : Addr), env[j]? = some (.oi C fs) → σ[j]? = some (some (.ref x)) → H x = some (.ins C' dx vfs) → (∀ ds, o = .lst ds → v = .ref p → (n, V.ref p) ∉ vfs)) :
    Stt K G P (σ.set i (some v)) A H (env.set i o.sl) := by
  cases o with
  | sh d => exact ⟨s.er.set h, s.ow.set, s.g⟩
  | lst ds =>
    obtain ⟨p, vs, rfl, h2, h3, h4, h5⟩ := h
    exact ⟨s.er.setO h2 h3 h4 (fun j es e z => (new j es p e z).1 ds rfl rfl) (fun j C fs x C' dx vfs n e1 e2 e3 => newo j C fs x C' dx vfs n p e1 e2 e3 ds rfl rfl), s.ow.setO h5, s.g⟩
  | ins C fs =>
    obtain ⟨x, dx, vfs, rfl, h2, h3, h4, h5⟩ := h
    have r := s.er
    have only : ∀ {j : Nat} {C' : Addr} {fs' : Fl2}, (env.set i (.oi C fs))[j]? = some (.oi C' fs') → j = i := fun {j C' fs'} e => by
      rcases set_some e with ⟨rfl, _⟩ | ⟨hj, z⟩
      · rfl
      · exfalso
        have ok : noOi (env.set i .no) = true := ok
        exact noOi_get ok (i := j) (by rw [List.getElem?_set_ne hj]; exact z)
    refine ⟨⟨r.sub, by show (env.set i _).length = (σ.set i _).length; rw [List.length_set, List.length_set, r.len], fun j d' e => ?_, fun j es e => ?_, fun j k d1 d2 q e1 e2 e3 e4 => ?_, fun j C' fs' e => ?_, fun j k C1 C2 f1 f2 e1 e2 => (only e1).trans (only e2).symm⟩, ⟨fun j es q e1 e2 => ?_, fun j C' fs' x' C2 dx' vfs' n q e1 e2 e3 e4 => ?_⟩, s.g⟩
    · rcases set_some e with ⟨rfl, e2⟩ | ⟨hj, e2⟩
      · cases e2
      · obtain ⟨w, g1, g2⟩ := r.sh j d' e2
        exact ⟨w, by rw [List.getElem?_set_ne hj]; exact g1, g2⟩
    · rcases set_some e with ⟨rfl, e2⟩ | ⟨hj, e2⟩
      · cases e2
      · obtain ⟨p, vs, g1, g2⟩ := r.ow j es e2
        exact ⟨p, vs, by rw [List.getElem?_set_ne hj]; exact g1, g2⟩
    · rcases set_some e1 with ⟨rfl, z⟩ | ⟨hj, z⟩
      · cases z
      · rcases set_some e2 with ⟨rfl, z2⟩ | ⟨hk, z2⟩
        · cases z2
        · rw [List.getElem?_set_ne hj] at e3
          rw [List.getElem?_set_ne hk] at e4
          exact r.ap j k d1 d2 q z z2 e3 e4
    · obtain rfl := only e
      have e' := e
      rcases set_some e with ⟨_, e2⟩ | ⟨hj, _⟩
      · cases e2
        have hl : j < env.length := by
          by_cases hl : j < env.length
          · exact hl
          · rw [List.getElem?_eq_none (by rw [List.length_set]; omega)] at e'
            cases e'
        refine ⟨x, dx, vfs, by rw [List.getElem?_set_self (by rw [← r.len]; exact hl)], h2, h3, h4, fun k ds n q e3 hq e4 => ?_⟩
        rcases set_some e3 with ⟨rfl, z⟩ | ⟨hk, z⟩
        · cases z
        · rw [List.getElem?_set_ne hk] at e4
          exact (new k ds q z e4).2 C fs rfl x C dx vfs rfl h2 n hq
      · exact absurd rfl hj
    · rcases set_some e1 with ⟨rfl, z⟩ | ⟨hj, z⟩
      · cases z
      · rw [List.getElem?_set_ne hj] at e2
        exact s.ow.l j es q z e2
    · obtain rfl := only e1
      rcases set_some e2 with ⟨_, z⟩ | ⟨hj, _⟩
      · cases z
        rw [h2] at e3
        cases e3
        exact h5 n q e4
      · exact absurd rfl hj
section
variable {X : Cx} {W : WX} {G : Hp → Hp → Prop} {P : Addr → Prop} {k : Nat} {f : Addr} {ps : List Str} {φ : List D → Res Ow} {x y : Str} {p pos pos' cpos : Pos} {e : Expr} {es : List Expr} {fl : Env → Res (List D)}
/-- a result's parts are new -/
theorem OwV.imp {K : PySem.W.Frag} {P P' : Addr → Prop} {A H : Hp} {v : V} {o : Ow} (h : OwV K P A H v o) (i : ∀ p, P p → P' p) : OwV K P' A H v o := by
  cases o with
  | sh d => exact h
  | lst ds =>
    obtain ⟨p, vs, h1, h2, h3, h4, h5⟩ := h
    exact ⟨p, vs, h1, h2, h3, h4, i p h5⟩
  | ins C fs =>
    obtain ⟨x, dx, vfs, h1, h2, h3, h4, h5⟩ := h
    exact ⟨x, dx, vfs, h1, h2, h3, h4, fun n q hq => i q (h5 n q hq)⟩
theorem sd_setOwn (gd : Gd G P) {i : Nat} (F : HeldO X.prog X.w X.K X.mg X.base k f ps φ) (hr : Room k X.A) (tk : Takes X W) (hg : Gl X y) (hm : X.mg y = some (.ref f)) (hN : X.N.Nodup) (ha : PA X (e :: es) (tDs X.K W fl)) (hn : ArgE ps.length fl)
    (hi : X.N[i]? = some x := by rfl) (hx : Loc X.env.scope x := by first | exact Or.inl rfl | exact Or.inr rfl) (hs : swapsWith (.Call (.Name y p) (e :: es) [] cpos) (some (.Name x pos')) pos.line X.env = pure false := by rfl) (hf : X.fn x = true ∨ X.env.scope.names.lookup x = some .local := by first | exact .inl rfl | exact .inr rfl | assumption)
    (hdb : (y == ("__debug__" : Str)) = false := by decide) (he : starEach (e :: es) X.env = (false, eval e X.env) :: starEach es X.env := by rfl) (hpl : (backTo cpos (starEach es X.env)).any (·.1) = false := by rfl) :
    PS X (.Assign [.Name x pos'] (.Call (.Name y p) (e :: es) [] cpos) pos) (tS X.K W G P (sAsgOwn i φ fl)) := by
  obtain ⟨fd, F, b, kp⟩ := F
  refine PS.imp (ps_set hN hi hx (pe_callS F hr hg hm kp b (fun σ => passAt tk σ) ha hdb he hpl) hs hf) fun Dd σ H h => ?_
  obtain ⟨A, env, s, kk⟩ := h
  have hl := hn env
  refine ⟨A, env, s.er, ?_⟩
  unfold sAsgOwn at kk
  cases e1 : fl env with
  | no => rw [e1] at kk; exact kk
  | ex C => rw [e1] at kk; exact fun A' H' g => kk σ A' H' (gd.grow s.g g)
  | ok ds =>
    rw [e1, Res.bind_ok] at kk
    intro vs A1 H1 g1 r
    have s1 := s.grow gd g1
    refine ⟨A1, ds, s1.er.sub, r, hl ds e1, ?_⟩
    cases e2 : φ ds with
    | no => rw [e2] at kk; exact kk
    | ex C => rw [e2] at kk; exact fun A2 H2 g2 => kk σ A2 H2 (gd.grow s1.g g2)
    | ok o =>
      rw [e2, Res.bind_ok] at kk
      intro v A2 H2 g2 ov
      by_cases c : okSl i env o = true
      · rw [if_pos c] at kk
        have s2 := s1.grow gd g2
        refine kk _ A2 H2 (stt_own s2 (ov.imp fun p hp => gd.fresh s1.g hp) c (fun j es p e3 e4 => ⟨fun ds eo ev => ?_, fun C fs eo x C' dx vfs ev e5 n e6 => ?_⟩) (fun j C fs x C' dx vfs n p e3 e4 e5 ds eo ev e6 => ?_))
        · obtain ⟨p', ws, h1, h2, _⟩ := s1.er.ow j es e3
          rw [e4] at h1
          cases h1
          subst eo
          obtain ⟨p', vs', h1, _, _, _, h5⟩ := ov
          rw [ev] at h1
          cases h1
          rw [h2] at h5
          cases h5
        · obtain ⟨p', ws, h1, h2, _⟩ := s1.er.ow j es e3
          rw [e4] at h1
          cases h1
          subst eo
          obtain ⟨x', dx', vfs', h1, h3, _, _, h6⟩ := ov
          rw [ev] at h1
          cases h1
          rw [h3] at e5
          cases e5
          have this : H1 p = none := h6 n p e6
          rw [h2] at this
          cases this
        · obtain ⟨x', dx', vfs', h1, h2, _, h4, _⟩ := s1.er.oi j C fs e3
          rw [e4] at h1
          cases h1
          have h3 := g2.s _ _ h2
          rw [e5] at h3
          cases h3
          subst eo
          obtain ⟨p', vs', g1', _, _, _, h5⟩ := ov
          rw [ev] at g1'
          cases g1'
          obtain ⟨⟨ws, h6⟩, _⟩ := h4.mem e6
          rw [h6] at h5
          cases h5
      · rw [if_neg c] at kk
        exact kk.elim
end
/-! ### tests that look at one's own -/
def bView (fa : Env → Res Bool) : Env → Res Bool := fun env => fa (Dt.view env)
theorem pt_view {X : Cx} {W : WX} {e : Expr} {fa : Env → Res Bool} (h : PT X e (tDB X.K W fa)) : PT X e (tDB X.K W (bView fa)) := PT.imp h fun σ H Q h => by
  obtain ⟨A, env, er, k⟩ := h
  obtain ⟨A', sm, er'⟩ := view_er er
  refine ⟨A', Dt.view env, er', ?_⟩
  unfold bView at k
  cases e : fa (Dt.view env) with
  | no => rw [e] at k; exact k
  | ex C => rw [e] at k; exact fun B H' g => k A H' (Grow.keep er.sub g.s)
  | ok d => rw [e] at k; exact fun v B H' g r => k v A H' (Grow.keep er.sub g.s) r
/-! ### a field of one's own instance: append, pop -/
def putL (f : Str) (ds : List D) : Fl2 → Fl2
  | [] => []
  | (n, es) :: r => if n = f then (n, ds) :: r else (n, es) :: putL f ds r
section
variable {K : PySem.W.Frag} {A H : Hp}
theorem RepL.look {f : Str} {ds : List D} : ∀ {vs : List (Str × V)} {fs : Fl2}, RepL K A H vs fs → fs.lookup f = some ds → ∃ q ws, vs.lookup f = some (.ref q) ∧ H q = some (.lst ws) ∧ A q = none ∧ Reps K A ws ds ∧ (f, V.ref q) ∈ vs
  | _, _, .nil, h => by cases h
  | _, _, @RepL.cons _ _ _ n q ws es vs fs h1 h2 h3 h4 r, h => by
    by_cases e : (f == n) = true
    · simp only [List.lookup, e] at h ⊢
      cases h
      obtain rfl := beq_iff_eq.mp e
      exact ⟨q, ws, rfl, h1, h2, h3, List.mem_cons_self⟩
    · have e' : (f == n) = false := by simpa using e
      simp only [List.lookup, e'] at h ⊢
      obtain ⟨q, ws, g1, g2, g3, g4, g5⟩ := RepL.look r h
      exact ⟨q, ws, g1, g2, g3, g4, List.mem_cons_of_mem _ g5⟩
theorem RepL.put {f : Str} {ds es : List D} {q : Addr} {ws : List V} (hr : Reps K A ws es) : ∀ {vs : List (Str × V)} {fs : Fl2}, RepL K A H vs fs → fs.lookup f = some ds → vs.lookup f = some (.ref q) → RepL K A (upd H q (.lst ws)) vs (putL f es fs)
  | _, _, .nil, h, _ => by cases h
  | _, _, @RepL.cons _ _ _ n q' ws' es' vs fs h1 h2 h3 h4 r, h, h' => by
    by_cases e : (f == n) = true
    · simp only [List.lookup, e] at h h'
      cases h
      cases h'
      obtain rfl := beq_iff_eq.mp e
      show RepL K A _ _ (if f = f then (f, es) :: fs else _)
      rw [if_pos rfl]
      refine .cons upd_same h2 hr h4 (r.heap fun m q2 hm => ?_)
      have ne : q2 ≠ q := fun z => h4 m (z ▸ hm)
      rw [upd_ne ne]
    · have e' : (f == n) = false := by simpa using e
      simp only [List.lookup, e'] at h h'
      have nf : n ≠ f := fun z => e (beq_iff_eq.mpr z.symm)
      show RepL K A _ _ (if n = f then _ else (n, es') :: putL f es fs)
      rw [if_neg nf]
      have qq : q' ≠ q := fun z => by
        obtain ⟨q2, _, g1, _, _, _, g5⟩ := RepL.look r h
        rw [h'] at g1
        cases g1
        exact h4 f (z ▸ g5)
      exact .cons (by rw [upd_ne qq]; exact h1) h2 h3 h4 (RepL.put hr r h h')
end
theorem stt_putF {K : PySem.W.Frag} {G : Hp → Hp → Prop} {P : Addr → Prop} {σ : L2.St} {A H : Hp} {env : Env} {i : Nat} {C x dx q : Addr} {fs : Fl2} {vfs : List (Str × V)} {f : Str} {ds es : List D} {ws : List V} (gd : Gd G P) (s : Stt K G P σ A H env) (hi : env[i]? = some (.oi C fs)) (hσ : σ[i]? = some (some (.ref x))) (hx : H x = some (.ins C dx vfs)) (hf : fs.lookup f = some ds) (hq : vfs.lookup f = some (.ref q)) (hm : (f, V.ref q) ∈ vfs) (hr : Reps K A ws es) :
    Stt K G P σ A (upd H q (.lst ws)) (env.set i (.oi C (putL f es fs))) := by
  have r := s.er
  obtain ⟨x', dx', vfs', h1, h2, h3, h4, h5⟩ := r.oi i C fs hi
  rw [hσ] at h1
  cases h1
  rw [hx] at h2
  cases h2
  obtain ⟨⟨ws0, hq0⟩, aq⟩ := h4.mem hm
  have xq : x ≠ q := fun z => by
    rw [z, hq0] at hx
    cases hx
  have only : ∀ {j : Nat} {C' : Addr} {fs' : Fl2}, (env.set i (.oi C (putL f es fs)))[j]? = some (.oi C' fs') → j = i := fun {j C' fs'} e => by
    rcases set_some e with ⟨rfl, _⟩ | ⟨hj, z⟩
    · rfl
    · exact r.o1 j i C' C fs' fs z hi
  refine ⟨⟨fun b o e => ?_, by rw [List.length_set, r.len], fun j d' e => ?_, fun j es' e => ?_, fun j k d1 d2 a e1 e2 e3 e4 => ?_, fun j C' fs' e => ?_, fun j k C1 C2 f1 f2 e1 e2 => (only e1).trans (only e2).symm⟩, ⟨fun j es' a e1 e2 => ?_, fun j C' fs' x' C2 dx' vfs' n a e1 e2 e3 e4 => ?_⟩, gd.put s.g aq (s.ow.o i C fs x C dx vfs f q hi hσ hx hm)⟩
  · rw [upd_ne (ne_of_none e aq)]
    exact r.sub b o e
  · rcases set_some e with ⟨rfl, e2⟩ | ⟨hj, e2⟩
    · cases e2
    · exact r.sh j d' e2
  · rcases set_some e with ⟨rfl, e2⟩ | ⟨hj, e2⟩
    · cases e2
    · obtain ⟨p, vs, g1, g2, g3⟩ := r.ow j es' e2
      have pq : p ≠ q := fun z => h5 j es' f q e2 hm (by rw [← z]; exact g1)
      exact ⟨p, vs, g1, by rw [upd_ne pq]; exact g2, g3⟩
  · rcases set_some e1 with ⟨rfl, z⟩ | ⟨hj, z⟩
    · cases z
    · rcases set_some e2 with ⟨rfl, z2⟩ | ⟨hk, z2⟩
      · cases z2
      · exact r.ap j k d1 d2 a z z2 e3 e4
  · obtain rfl := only e
    rcases set_some e with ⟨_, e2⟩ | ⟨hj, _⟩
    · cases e2
      refine ⟨x, dx, vfs, hσ, by rw [upd_ne xq]; exact hx, h3, h4.put hr hf hq, fun k ds' n q' e3 hq' => ?_⟩
      rcases set_some e3 with ⟨rfl, z⟩ | ⟨hk, z⟩
      · cases z
      · exact h5 k ds' n q' z hq'
    · exact absurd rfl hj
  · rcases set_some e1 with ⟨rfl, z⟩ | ⟨hj, z⟩
    · cases z
    · exact s.ow.l j es' a z e2
  · obtain rfl := only e1
    rw [hσ] at e2
    cases e2
    rw [upd_ne xq, hx] at e3
    cases e3
    exact s.ow.o j C fs x C dx vfs n a hi hσ hx e4
def sAppF (Cs : List Addr) (i : Nat) (f : Str) (fa : Env → Res D) : Env → Res Fl := fun env => match env[i]? with
  | some (.oi C fs) => if C ∈ Cs then (match fs.lookup f with
    | some ds => if ds.length < 1000000 then (fa env).bind fun d => .ok (.nx (env.set i (.oi C (putL f (ds ++ [d]) fs)))) else .no
    | none => .no) else .no
  | _ => .no
def sPopF (Cs : List Addr) (i : Nat) (f : Str) : Env → Res Fl := fun env => match env[i]? with
  | some (.oi C fs) => if C ∈ Cs then (match fs.lookup f with
    | some ds => if ds.length = 0 then .no else .ok (.nx (env.set i (.oi C (putL f ds.dropLast fs))))
    | none => .no) else .no
  | _ => .no
theorem Reps.dropLast {K : PySem.W.Frag} {H : Hp} {vs : List V} {ds : List D} (r : Reps K H vs ds) : Reps K H vs.dropLast ds.dropLast := by
  rw [List.dropLast_eq_take, List.dropLast_eq_take, r.length]
  exact r.take _
section
variable {X : Cx} {W : WX} {G : Hp → Hp → Prop} {P : Addr → Prop} {pos : Pos} {e : Expr} {fa : Env → Res D} {Cs : List Addr}
theorem sd_appF (gd : Gd G P) (i : Nat) {x f : Str} {xp ap apos cpos : Pos} (hC : ∀ C ∈ Cs, Cls X.K C ∧ NoAttr X.K C f) (he : PE X e (tD X.K W fa)) (hi : X.N[i]? = some x := by rfl) (hv : Vis X.env.scope x := by first | exact Or.inl rfl | exact Or.inr (Or.inl rfl) | exact Or.inr (Or.inr rfl))
    (hb : attributeBase (.Name x xp) f X.env (eval (.Name x xp) X.env) = eval (.Name x xp) X.env := by rfl)
    (hse : starEach [e] X.env = (false, eval e X.env) :: starEach [] X.env := by rfl)
    (hbase : attributeBase (.Attribute (.Name x xp) f ap) "append" X.env (eval (.Attribute (.Name x xp) f ap) X.env) = eval (.Attribute (.Name x xp) f ap) X.env := by rfl)
    (hfew : ((backTo cpos (starEach [e] X.env)).all (fun x => !x.1) && (backToKw cpos (keywordEach [] X.env)).all (fun x => x.1.isSome)
      && decide (([e] : List Expr).length + ([] : List Keyword).length + (if ([] : List Keyword).isEmpty then 0 else 1) < 30)) = true := by rfl)
    (hline : (apos.endLine == cpos.line) = true := by rfl) (hplain : (backTo cpos (starEach ([] : List Expr) X.env)).any (·.1) = false := by rfl)
    (hsw : swapsWith (.Call (.Attribute (.Attribute (.Name x xp) f ap) "append" apos) [e] [] cpos) none pos.line X.env = pure false := by rfl)
    (hd : (x == ("__debug__" : Str)) = false := by decide) (hcd : (x == ("__classdict__" : Str)) = false := by decide) :
    PS X (.Expr (.Call (.Attribute (.Attribute (.Name x xp) f ap) "append" apos) [e] [] cpos) pos) (tS X.K W G P (sAppF Cs i f fa)) :=
  PS.imp (ps_expr (pe_bm PySem.F.plainAttrs_list PySem.F.slot_list_append PySem.F.type_list_append mt_append (pe_fld (pe_var hi hv hd hcd) hb) (pa_cons he pa_nil hse) hbase hfew hline hse hplain) hsw) fun Dd σ H h => by
  obtain ⟨A, env, s, k⟩ := h
  unfold sAppF at k
  cases e1 : env[i]? with
  | none => rw [e1] at k; exact k.elim
  | some sl =>
    rw [e1] at k
    cases sl with
    | oi C fs =>
      have k : KS X.K W G P Dd (if C ∈ Cs then (match fs.lookup f with
        | some ds => if ds.length < 1000000 then (fa env).bind fun d => .ok (.nx (env.set i (.oi C (putL f (ds ++ [d]) fs)))) else .no
        | none => .no) else .no) := k
      by_cases c : C ∈ Cs
      · rw [if_pos c] at k
        cases e2 : fs.lookup f with
        | none => rw [e2] at k; exact k.elim
        | some ds =>
          rw [e2] at k
          have k : KS X.K W G P Dd (if ds.length < 1000000 then (fa env).bind fun d => .ok (.nx (env.set i (.oi C (putL f (ds ++ [d]) fs)))) else .no) := k
          by_cases hl : ds.length < 1000000
          · rw [if_pos hl] at k
            obtain ⟨x1, dx, vfs, h1, h2, h3, h4, h5⟩ := s.er.oi i C fs e1
            obtain ⟨q, ws, g1, g2, g3, g4, g5⟩ := h4.look e2
            refine ⟨_, h1, x1, C, dx, vfs, .ref q, rfl, h2, (hC C c).1, (hC C c).2, g1, .inl ⟨rfl, ws, SqL.of g2⟩, ?_⟩
            refine ⟨A, env, s.er, ?_⟩
            cases e3 : fa env with
            | no => rw [e3] at k; exact k
            | ex C' => rw [e3] at k; exact fun A' H' g => k σ A' H' (gd.grow s.g g)
            | ok d =>
              rw [e3, Res.bind_ok] at k
              intro y A' H' g ry
              have s' := s.grow gd g
              have h4' := h4.grow g
              obtain ⟨q2, ws2, j1, j2, j3, j4, j5⟩ := h4'.look e2
              rw [g1] at j1
              cases j1
              exact ⟨q, ws2, y, rfl, rfl, j2, by rw [j4.length]; exact sz_lt hl, k σ A' _ (stt_putF gd s' e1 h1 (g.s _ _ h2) e2 g1 g5 (j4.append (.cons ry .nil)))⟩
          · rw [if_neg hl] at k
            exact k.elim
      · rw [if_neg c] at k
        exact k.elim
    | _ => exact k.elim
/-- x.f.pop() -/
theorem sd_popF (gd : Gd G P) (i : Nat) {x f : Str} {xp ap apos cpos : Pos} (hC : ∀ C ∈ Cs, Cls X.K C ∧ NoAttr X.K C f) (hi : X.N[i]? = some x := by rfl) (hv : Vis X.env.scope x := by first | exact Or.inl rfl | exact Or.inr (Or.inl rfl) | exact Or.inr (Or.inr rfl))
    (hb : attributeBase (.Name x xp) f X.env (eval (.Name x xp) X.env) = eval (.Name x xp) X.env := by rfl)
    (hbase : attributeBase (.Attribute (.Name x xp) f ap) "pop" X.env (eval (.Attribute (.Name x xp) f ap) X.env) = eval (.Attribute (.Name x xp) f ap) X.env := by rfl)
    (hline : (apos.endLine == cpos.line) = true := by rfl)
    (hsw : swapsWith (.Call (.Attribute (.Attribute (.Name x xp) f ap) "pop" apos) [] [] cpos) none pos.line X.env = pure false := by rfl)
    (hd : (x == ("__debug__" : Str)) = false := by decide) (hcd : (x == ("__classdict__" : Str)) = false := by decide) :
    PS X (.Expr (.Call (.Attribute (.Attribute (.Name x xp) f ap) "pop" apos) [] [] cpos) pos) (tS X.K W G P (sPopF Cs i f)) :=
  PS.imp (ps_expr (pe_bm0 PySem.F.plainAttrs_list PySem.F.slot_list_pop PySem.F.type_list_pop mt_pop (pe_fld (pe_var hi hv hd hcd) hb) hbase hline) hsw) fun Dd σ H h => by
  obtain ⟨A, env, s, k⟩ := h
  unfold sPopF at k
  cases e1 : env[i]? with
  | none => rw [e1] at k; exact k.elim
  | some sl =>
    rw [e1] at k
    cases sl with
    | oi C fs =>
      have k : KS X.K W G P Dd (if C ∈ Cs then (match fs.lookup f with
        | some ds => if ds.length = 0 then .no else .ok (.nx (env.set i (.oi C (putL f ds.dropLast fs))))
        | none => .no) else .no) := k
      by_cases c : C ∈ Cs
      · rw [if_pos c] at k
        cases e2 : fs.lookup f with
        | none => rw [e2] at k; exact k.elim
        | some ds =>
          rw [e2] at k
          have k : KS X.K W G P Dd (if ds.length = 0 then .no else .ok (.nx (env.set i (.oi C (putL f ds.dropLast fs))))) := k
          by_cases hl : ds.length = 0
          · rw [if_pos hl] at k
            exact k.elim
          · rw [if_neg hl] at k
            obtain ⟨x1, dx, vfs, h1, h2, h3, h4, h5⟩ := s.er.oi i C fs e1
            obtain ⟨q, ws, g1, g2, g3, g4, g5⟩ := h4.look e2
            obtain ⟨y, hy⟩ : ∃ y, ws[ws.length - 1]? = some y := ⟨_, List.getElem?_eq_getElem (by have := g4.length; omega)⟩
            exact ⟨_, h1, x1, C, dx, vfs, .ref q, rfl, h2, (hC C c).1, (hC C c).2, g1, .inl ⟨rfl, ws, SqL.of g2⟩, q, ws, y, rfl, rfl, g2, hy, k σ A _ (stt_putF gd s e1 h1 h2 e2 g1 g5 g4.dropLast)⟩
      · rw [if_neg c] at k
        exact k.elim
    | _ => exact k.elim
end
/-! ### plain: a for that looks at each, its items of any kind -/
section
variable {d : D} {env : Env} {g1 g2 gb : Env → Res Fl} {fc : Env → Res Bool} {bt : Bt} {fi : Env → Res (List D)}
theorem ifT (h : fc env = .ok true) (hr : g1 env = .ok (.rt d)) : sIf fc g1 g2 env = .ok (.rt d) := by
  unfold sIf
  rw [h]
  exact hr
theorem forS_rt1 {ds : List D} {d0 : D} {e1 : Env} (h1 : bt d0 env = .ok e1) (h2 : gb e1 = .ok (.rt d)) : forS bt gb (d0 :: ds) env = .ok (.rt d) := by
  show bOk (bt d0 env) _ = _
  rw [h1, bOk_ok, h2]
theorem sFor_of {ds : List D} (hi : fi env = .ok ds) : sFor fi bt gb env = forS bt gb ds env := by
  unfold sFor
  rw [hi]
  rfl
theorem for_checkK {α : Type} (xs : List α) (enc : α → D) (ok : α → Bool) (I : Env → Prop) {d0 d1 : D} (hi : fi env = .ok (xs.map enc)) (h0 : I env)
    (H : ∀ x ∈ xs, ∀ env, I env → ∃ e1, bt (enc x) env = .ok e1 ∧ (ok x = true → ∃ e2, gb e1 = .ok (.nx e2) ∧ I e2) ∧ (ok x = false → gb e1 = .ok (.rt d0))) (hr : ∀ e, I e → g2 e = .ok (.rt d1)) :
    sSeq (sFor fi bt gb) g2 env = .ok (.rt (if xs.all ok = true then d1 else d0)) := for_check xs enc ok I hi h0 H hr
end
end Dt
/-! list(enumerate(xs)) -/
namespace LsE
open PySem PySem.Spec PyProof.Rows PySem.W
section
variable {prog : Program} {w : World} {A : Around} {E : Value → Shared → Prop} {s : Shared}
/-- the enumerator at i, its tuple lent or not -/
def EnSt (h : Heap) (e it S : Addr) (i : Nat) : Prop := (∃ old, IsEnum h e it i old) ∨ ∃ item a f oa, IsEnumHeld h e it i item a f ∧ h.get? a = some oa ∧ a ≠ e ∧ a ≠ it ∧ a ≠ S
theorem EnSt.keep {h h' : Heap} {e it S : Addr} {i : Nat} (x : EnSt h e it S i) (hk : ∀ b o, b ≠ S → h.get? b = some o → h'.get? b = some o) (hS : e ≠ S) : EnSt h' e it S i := by
  rcases x with ⟨old, he⟩ | ⟨item, a, f, oa, he, ha, h1, h2, h3⟩
  · exact .inl ⟨old, hk _ _ hS he⟩
  · exact .inr ⟨item, a, f, oa, hk _ _ hS he, hk _ _ h3 ha, h1, h2, h3⟩
theorem en_item {e it l S : Addr} {i : Nat} {items : Array Value} {x : Value} {Q : Option Value → Shared → Prop} (hst : EnSt s.heap e it S i) (hS : S < s.heap.objs.size) (hit : s.heap.IsListIter it l i) (hl : s.heap.IsList l items) (hx : items[i]? = some x) (hne : e ≠ it)
    (hQ : ∀ h', EnSt h' e it S (i + 1) → h'.IsListIter it l (i + 1) → h'.get? s.heap.objs.size = some { cls := .type "tuple", data := .seq #[.int i s.toks, x] } → h'.objs.size = s.heap.objs.size + 1 →
      (∀ b o, b ≠ e → b ≠ it → s.heap.get? b = some o → h'.get? b = some o) → Q (some (.ref s.heap.objs.size)) { s with heap := h', toks := s.toks + 1 }) :
    wpAny (model prog w) A (pyNext (.ref e)) Q E s := by
  have ei : ((i : Int) + 1) = ((i + 1 : Nat) : Int) := by omega
  rcases hst with ⟨old, he⟩ | ⟨item, a, f, oa, he, ha, h1, h2, h3⟩
  · have hel : e < s.heap.objs.size := Heap.lt_size he
    have hil : it < s.heap.objs.size := by obtain ⟨_, q, _⟩ := hit; exact Heap.lt_size q
    refine wpAny_pyNext_enum_item he hit hl hx hne fun h' ho hit' hT hz hk => hQ h' (.inr ⟨x, s.heap.objs.size, false, _, ?_, hT, Nat.ne_of_gt hel, Nat.ne_of_gt hil, Nat.ne_of_gt hS⟩) hit' hT hz hk
    rw [ei] at ho
    exact ho
  · refine wpAny_pyNext_enum_item_held he ha h1 h2 hit hl hx hne fun h' ho hit' hT' hz hk => hQ h' (.inr ⟨item, a, true, oa, ?_, hk a oa h1 h2 ha, h1, h2, h3⟩) hit' hT' hz hk
    rw [ei] at ho
    exact ho
theorem en_done {e it l S : Addr} {i : Nat} {items : Array Value} {Q : Option Value → Shared → Prop} (hh : A.handled = none) (hst : EnSt s.heap e it S i) (hit : s.heap.IsListIter it l i) (hl : s.heap.IsList l items) (hx : items[i]? = none)
    (hQ : ∀ h', Heap.ExtBut it s.heap h' → Q none { s with heap := h' }) : wpAny (model prog w) A (pyNext (.ref e)) Q E s := by
  rcases hst with ⟨old, he⟩ | ⟨item, a, f, oa, he, _, _, _, _⟩
  · exact wpAny_pyNext_enum_end hh he hit hl hx hQ
  · exact wpAny_pyNext_enum_end_held hh he hit hl hx hQ
end
def ekv : Nat → List Value → List (L2.Key × Value)
  | _, [] => []
  | n, v :: r => (.inl (n : Int), v) :: ekv (n + 1) r
theorem ekv_len : ∀ (n : Nat) (vs : List Value), (ekv n vs).length = vs.length
  | _, [] => rfl
  | n, v :: r => by
    show (ekv (n + 1) r).length + 1 = r.length + 1
    rw [ekv_len]
theorem ekv_get : ∀ (n i : Nat) (vs : List Value) (x : Value), vs[i]? = some x → (ekv n vs)[i]? = some (.inl ((n + i : Nat) : Int), x)
  | _, _, [], _, h => by simp at h
  | n, 0, v :: r, x, h => by
    have : v = x := by simpa using h
    subst this
    rfl
  | n, i + 1, v :: r, x, h => by
    have := ekv_get (n + 1) i r x (by simpa using h)
    show (ekv (n + 1) r)[i]? = _
    rw [this, show n + 1 + i = n + (i + 1) by omega]
section
variable {prog : Program} {w : World} {A : Around} {s : Shared} {R : Result → Shared → Prop}
theorem en_loop {S e it l : Addr} {items : Array Value} (hh : A.handled = none) (heS : e < S) (hiS : it < S) (hlS : l ≠ S) (hle : l ≠ e) (hli : l ≠ it) (hne : e ≠ it) (hn : items.size ≤ sizeLine) (res : Value) {h₁ : Heap}
    (hR : ∀ h' tk acc c as, (∀ b o, b ≠ S → b ≠ e → b ≠ it → h₁.get? b = some o → h'.get? b = some o) → h'.get? S = some { cls := .type "list", dict := none, data := .seq acc c, slots := #[] } → as.length = items.size → KdxG (L2.mixKind prog w) (ekv 0 items.toList) S h' as →
      acc.toList = as.map Value.ref → R (.ok (.ret res)) { s with heap := h', toks := tk }) :
    ∀ (k i : Nat) (h : Heap) (tk c : Nat) (acc : Array Value) (as : List Addr), items.size - i = k → i ≤ items.size → EnSt h e it S i → h.IsListIter it l i → h.IsList l items → (∀ b o, b ≠ S → b ≠ e → b ≠ it → h₁.get? b = some o → h.get? b = some o) →
      h.get? S = some { cls := .type "list", dict := none, data := .seq acc c, slots := #[] } → acc.toList = as.map Value.ref → as.length = i → KdxG (L2.mixKind prog w) (ekv 0 items.toList) S h as →
      codeAny (model prog w) A (.builtin "list.extend.loop" ⟨[.ref S, .ref e, res], []⟩) R { s with heap := h, toks := tk } := by
  have hSe : S ≠ e := Nat.ne_of_gt heS
  have hSi : S ≠ it := Nat.ne_of_gt hiS
  intro k
  induction k with
  | zero =>
    intro i h tk c acc as hk hi hst hit hl hkeep hS hacc hal hG
    have hin : i = items.size := by omega
    refine codeAny_builtin PySem.F.entry_extend_loop ?_
    rw [Around.under_plainId PySem.F.plain_extend_loop _]
    show wpAny _ A.in1 (pyNext (.ref e) >>= _) _ _ _
    refine wpAny_bind (en_done (s := { s with heap := h, toks := tk }) (A := A.in1) hh hst hit hl (Array.getElem?_eq_none (by omega)) fun h' he => ?_)
    refine wpAny_pure (hR h' tk acc c as (fun b o h1 h2 h3 z => he b o h3 (hkeep b o h1 h2 h3 z)) (he S _ hSi hS) (by omega) ⟨hG.rise, hG.above, fun j a hj => ?_⟩ hacc)
    obtain ⟨key, kk, x, e1, e2, e3⟩ := hG.pairs j a hj
    have ab := hG.above a (List.mem_of_getElem? hj)
    exact ⟨key, kk, x, e1, e2, he a _ (Nat.ne_of_gt (Nat.lt_trans hiS ab)) e3⟩
  | succ k ih =>
    intro i h tk c acc as hk hi hst hit hl hkeep hS hacc hal hG
    have hlt : i < items.size := by omega
    obtain ⟨x, hx⟩ : ∃ x, items[i]? = some x := ⟨items[i], Array.getElem?_eq_getElem hlt⟩
    have hsz : acc.size = i := by rw [← Array.length_toList, hacc, List.length_map, hal]
    have hSl : S < h.objs.size := Heap.lt_size hS
    refine codeAny_builtin PySem.F.entry_extend_loop ?_
    rw [Around.under_plainId PySem.F.plain_extend_loop _]
    show wpAny _ A.in1 (pyNext (.ref e) >>= _) _ _ _
    refine wpAny_bind (en_item (s := { s with heap := h, toks := tk }) (S := S) hst hSl hit hl hx hne fun h' hst' hit' ht hz hkp => ?_)
    dsimp only at ht hz hkp ⊢
    have hS' := hkp S _ hSe hSi hS
    have up : ∀ b o, b ≠ S → h'.get? b = some o → (h'.update S (Obj.mapSeq (·.push (Value.ref h.objs.size)))).get? b = some o := fun b o hb e => (Heap.get?_update_other _ _ (Ne.symm hb)).trans e
    show wpAny _ A.in1 (updateSeq S (·.push (Value.ref h.objs.size)) >>= _) _ _ _
    refine wpAny_bind ?_
    refine wpAny_updateSeq hS' rfl (wpAny_pure ⟨plainId_quiet PySem.F.plain_extend_loop _, ih (i + 1) _ (tk + 1) _ (acc.push (Value.ref h.objs.size)) (as ++ [h.objs.size]) (by omega) hlt (hst'.keep up (Ne.symm hSe)) (hit'.at fun o z => up it o (Ne.symm hSi) z) ((hl.at fun o z => hkp l o hle hli z).at fun o z => up l o hlS z)
      (fun b o h1 h2 h3 z => up b o h1 (hkp b o h2 h3 (hkeep b o h1 h2 h3 z))) (Heap.get?_update_self _ hS' rfl) (by rw [Array.toList_push, hacc, List.map_append]; rfl) (by rw [List.length_append, hal]; rfl) ⟨?_, ?_, ?_⟩⟩) (by rw [hsz]; omega) (by show (acc.push (Value.ref h.objs.size)).size ≤ sizeLine + 1; rw [Array.size_push, hsz]; omega)
    · refine List.pairwise_append.mpr ⟨hG.rise, List.pairwise_singleton _ _, fun a ha b hb => ?_⟩
      rw [List.mem_singleton.mp hb]
      exact hG.there ha
    · intro a ha
      rcases List.mem_append.mp ha with ha | ha
      · exact hG.above a ha
      · rw [List.mem_singleton.mp ha]; exact hSl
    · intro j b hj
      rcases Nat.lt_trichotomy j as.length with h1 | h1 | h1
      · rw [List.getElem?_append_left h1] at hj
        obtain ⟨key', k', x', e1, e2, e3⟩ := hG.pairs j b hj
        have hb := hG.above b (List.mem_of_getElem? hj)
        exact ⟨key', k', x', e1, e2, up b _ (Nat.ne_of_gt hb) (hkp b _ (Nat.ne_of_gt (Nat.lt_trans heS hb)) (Nat.ne_of_gt (Nat.lt_trans hiS hb)) e3)⟩
      · subst h1
        have hb : h.objs.size = b := by simpa using hj
        subst hb
        refine ⟨.int i tk, .inl (i : Int), x, ?_, ?_, up _ _ (Nat.ne_of_gt hSl) ht⟩
        · rw [hal]
          have := ekv_get 0 i items.toList x (by rw [Array.getElem?_toList]; exact hx)
          rw [Nat.zero_add] at this
          exact this
        · show Value.isInt (i : Int) (.int i tk) = true
          simp [Value.isInt]
      · have hnone : (as ++ [h.objs.size])[j]? = none := List.getElem?_eq_none (by rw [List.length_append, List.length_singleton]; omega)
        rw [hnone] at hj; cases hj
end
theorem enum_no_len : typeLookup (.type "enumerate") "__len__" = pure none := by rw [typeLookup_type, builtinLookup_eq_fast]; kernel_rfl
theorem enum_no_hint : typeLookup (.type "enumerate") "__length_hint__" = pure none := by rw [typeLookup_type, builtinLookup_eq_fast]; kernel_rfl
section
variable {prog : Program} {w : World} {A : Around} {E : Value → Shared → Prop} {s : Shared} {e it l : Addr} {items : Array Value}
theorem en_extend {R : Result → Shared → Prop} (hh : A.handled = none) {old : Value} (he : IsEnum s.heap e it 0 old) (hit : s.heap.IsListIter it l 0) (hl : s.heap.IsList l items) (hle : l ≠ e) (hli : l ≠ it) (hne : e ≠ it) (S : Addr) (heS : e < S) (hiS : it < S) (hlS : l ≠ S) (res : Value) (c₀ : Nat) (hS : s.heap.get? S = some { cls := .type "list", data := .seq #[] c₀ })
    (hR : ∀ h' tk acc c as, (∀ b o, b ≠ S → b ≠ e → b ≠ it → s.heap.get? b = some o → h'.get? b = some o) → h'.get? S = some { cls := .type "list", dict := none, data := .seq acc c, slots := #[] } → as.length = items.size → KdxG (L2.mixKind prog w) (ekv 0 items.toList) S h' as →
      acc.toList = as.map Value.ref → R (.ok (.ret res)) { s with heap := h', toks := tk }) (hn : items.size ≤ sizeLine) :
    wpAny (model prog w) A.in1 (Builtin.List.listExtendWith (.ref S) (.ref e) res)
      (fun fin s' => match fin with | .done f => R (.ok f) s' | .again c' => c'.quiet = true ∧ codeAny (model prog w) A c' R s') (fun e s' => R (.error e) s') s := by
  have hT : s.TypeIs (.ref e) "enumerate" := ⟨_, he, rfl⟩
  unfold Builtin.List.listExtendWith
  refine wpAny_bind (wpAny_typeOf hT ?_)
  have h1 : Builtin.List.listSameRef (.ref S) (.ref e) = false := by simp [Builtin.List.listSameRef, Nat.ne_of_gt heS]
  have h2 : (Value.type "enumerate" == Value.type "list") = false := by decide
  have h3 : (Value.type "enumerate" == Value.type "tuple") = false := by decide
  simp only [h1, h2, h3, Bool.or_false, Bool.false_eq_true, if_false]
  refine wpAny_bind (wpAny_pyIter_enum he ?_)
  refine wpAny_bind (wpAny_holding ?_)
  unfold Builtin.List.listLengthHint
  refine wpAny_bind (wpAny_specialOf hT enum_no_len ?_)
  show wpAny _ A.in1 (specialOf (Value.ref e) (Str.ofString "__length_hint__") >>= _) _ _ _
  refine wpAny_bind (wpAny_specialOf hT enum_no_hint ?_)
  refine wpAny_pure ?_
  show wpAny _ A.in1 (rule "list.extend.makes-room" >>= fun _ => Builtin.List.listTouch (.ref S) >>= fun _ =>
    again (.builtin "list.extend.loop" ⟨[.ref S, .ref e, res], []⟩)) _ _ _
  refine wpAny_bind (wpAny_rule ?_)
  refine wpAny_bind ?_
  show wpAny _ A.in1 (updateSeq S (·.push .none) >>= fun _ => updateSeq S (·.pop)) _ _ _
  refine wpAny_bind (wpAny_updateSeq hS rfl ?_)
  have hS₂ := Heap.get?_update_self (Obj.mapSeq (·.push Value.none)) hS rfl
  refine wpAny_updateSeq (hz := by seq_fits) hS₂ rfl ?_
  have hS₃ := Heap.get?_update_self (Obj.mapSeq (·.pop)) hS₂ rfl
  have oth : ∀ b o, b ≠ S → s.heap.get? b = some o → ((s.heap.update S (Obj.mapSeq (·.push Value.none))).update S (Obj.mapSeq (·.pop))).get? b = some o :=
    fun b o hb e => (Heap.get?_update_other _ _ (Ne.symm hb)).trans ((Heap.get?_update_other _ _ (Ne.symm hb)).trans e)
  refine wpAny_pure ⟨plainId_quiet PySem.F.plain_extend_loop _, en_loop (s := s) (h₁ := s.heap) (items := items) (l := l) hh heS hiS hlS hle hli hne hn res hR items.size 0 _ s.toks _ #[] [] (Nat.sub_zero _) (Nat.zero_le _) (.inl ⟨old, oth e _ (Nat.ne_of_lt heS) he⟩) (hit.at fun o z => oth it o (Nat.ne_of_lt hiS) z) (hl.at fun o z => oth l o hlS z)
    (fun b o hb _ _ z => oth b o hb z) hS₃ rfl rfl ⟨List.Pairwise.nil, (fun _ ha => nomatch ha), (fun j a hj => by simp at hj)⟩⟩
theorem en_init {R : Result → Shared → Prop} (hh : A.handled = none) {old : Value} (he : IsEnum s.heap e it 0 old) (hit : s.heap.IsListIter it l 0) (hl : s.heap.IsList l items) (hle : l ≠ e) (hli : l ≠ it) (hne : e ≠ it) (S : Addr) (heS : e < S) (hiS : it < S) (hlS : l ≠ S) (hS : s.heap.get? S = some { cls := .type "list", data := .seq #[] })
    (hR : ∀ h' tk acc c as, (∀ b o, b ≠ S → b ≠ e → b ≠ it → s.heap.get? b = some o → h'.get? b = some o) → h'.get? S = some { cls := .type "list", dict := none, data := .seq acc c, slots := #[] } → as.length = items.size → KdxG (L2.mixKind prog w) (ekv 0 items.toList) S h' as →
      acc.toList = as.map Value.ref → R (.ok (.ret .none)) { s with heap := h', toks := tk }) (hn : items.size ≤ sizeLine) :
    wpAny (model prog w) A.in1 (Builtin.«list.__init__» ⟨[.ref S, .ref e], []⟩)
      (fun fin s' => match fin with | .done f => R (.ok f) s' | .again c' => c'.quiet = true ∧ codeAny (model prog w) A c' R s') (fun e s' => R (.error e) s') s := by
  show wpAny _ _ (do let old ← Builtin.List.listItems (.ref S); Builtin.List.listUpdate (.ref S) (fun _ => #[]); letGo old.toList.reverse; Builtin.List.listExtendWith (.ref S) (.ref e) .none) _ _ s
  refine wpAny_bind ?_
  unfold Builtin.List.listItems
  refine wpAny_bind (wpAny_seqItems hS rfl (wpAny_pure ?_))
  show wpAny _ _ (updateSeq S (fun _ => #[]) >>= fun _ => letGo (#[] : Array Value).toList.reverse >>= fun _ => Builtin.List.listExtendWith (.ref S) (.ref e) .none) _ _ s
  refine wpAny_bind (wpAny_updateSeq hS rfl ?_)
  have hS₂ := Heap.get?_update_self (Obj.mapSeq (fun _ => (#[] : Array Value))) hS rfl
  have oth : ∀ b o, b ≠ S → s.heap.get? b = some o → (s.heap.update S (Obj.mapSeq (fun _ => (#[] : Array Value)))).get? b = some o :=
    fun b o hb e => (Heap.get?_update_other _ _ (Ne.symm hb)).trans e
  refine wpAny_bind (wpAny_letGo ?_)
  exact en_extend hh (oth e _ (Nat.ne_of_lt heS) he) (hit.at fun o z => oth it o (Nat.ne_of_lt hiS) z) (hl.at fun o z => oth l o hlS z) hle hli hne S heS hiS hlS .none _ hS₂ (fun h' tk acc c as hk hS' hl' hG hacc => hR h' tk acc c as (fun b o hb h2 h3 z => hk b o hb h2 h3 (oth b o hb z)) hS' hl' hG hacc) hn
theorem en_call {Q : Value → Shared → Prop} (hh : A.handled = none) {old : Value} (he : IsEnum s.heap e it 0 old) (hit : s.heap.IsListIter it l 0) (hl : s.heap.IsList l items) (hle : l ≠ e) (hli : l ≠ it) (hne : e ≠ it) (hn : items.size ≤ sizeLine)
    (hQ : ∀ h' tk acc c as, (∀ b o, b ≠ e → b ≠ it → s.heap.get? b = some o → h'.get? b = some o) → h'.get? s.heap.objs.size = some { cls := .type "list", dict := none, data := .seq acc c, slots := #[] } → as.length = items.size → KdxG (L2.mixKind prog w) (ekv 0 items.toList) s.heap.objs.size h' as →
      acc.toList = as.map Value.ref → Q (.ref s.heap.objs.size) { s with heap := h', toks := tk }) :
    wpAny (model prog w) A (call (.type "list") [.ref e]) Q E s := by
  refine callType_codes (Q₁ := fun obj s₁ => obj = .ref s.heap.objs.size ∧ s₁ = { s with heap := s.heap.push { cls := .type "list", data := .seq #[] } }) PySem.F.called_list (PySem.F.typeCall_list_1 _) PySem.F.entry_list_init
    (code_list_new _ ⟨rfl, rfl⟩) fun obj s₁ h₁ => ?_
  obtain ⟨rfl, rfl⟩ := h₁
  have hS : (s.heap.push { cls := .type "list", data := .seq #[] }).get? s.heap.objs.size = some { cls := .type "list", data := .seq #[] } := Heap.get?_push_size _ rfl
  have hel : e < s.heap.objs.size := Heap.lt_size he
  have hil : it < s.heap.objs.size := by obtain ⟨_, q, _⟩ := hit; exact Heap.lt_size q
  have hll : l < s.heap.objs.size := by obtain ⟨_, q, _⟩ := hl; exact Heap.lt_size q
  refine ⟨⟨_, hS, rfl⟩, PySem.F.args_list_init_2 _ _, en_init (A := A.in1) hh (Heap.get?_push_of_some _ he) (hit.at fun o z => Heap.get?_push_of_some _ z) (hl.at fun o z => Heap.get?_push_of_some _ z) hle hli hne _ hel hil (Nat.ne_of_lt hll) hS (fun h' tk acc c as hk hS' hl' hG hacc => ?_) hn⟩
  exact ⟨rfl, hQ h' tk acc c as (fun b o h1 h2 z => hk b o (Nat.ne_of_lt (Heap.lt_size z)) h1 h2 (Heap.get?_push_of_some _ z)) hS' hl' hG hacc⟩
end
end LsE
namespace LsE
open PySem PySem.Spec PyProof.Rows L2
def ekvV : Nat → List V → List (Key × V)
  | _, [] => []
  | n, v :: r => (.inl (n : Int), v) :: ekvV (n + 1) r
theorem ekv_KV : ∀ (n : Nat) {xs : List V} {vs : List Value}, Vals xs vs → KV (ekvV n xs) (ekv n vs)
  | _, _, _, .nil => .nil
  | n, _, _, .cons r t => .cons ⟨rfl, r⟩ (ekv_KV (n + 1) t)
theorem ekvV_len : ∀ (n : Nat) (xs : List V), (ekvV n xs).length = xs.length
  | _, [] => rfl
  | n, v :: r => by
    show (ekvV (n + 1) r).length + 1 = r.length + 1
    rw [ekvV_len]
section
variable {X : Cx}
theorem enum_laid {pins : List (Addr × Obj)} {σ : L2.St} {H : Hp} {s : Shared} {h' : Heap} {tk : Nat} {kvs : List (Key × V)} {vs : List (Key × Value)} {acc : Array Value} {c : Nat} {as : List Addr} {S : Addr} (I : Inv X pins σ H s) (hz : kvs.length ≤ sizeLine) (kv : KV kvs vs) (hSz : s.heap.objs.size ≤ S)
    (hk : ∀ b o, s.heap.get? b = some o → h'.get? b = some o) (hS : h'.get? S = some { cls := .type "list", dict := none, data := .seq acc c, slots := #[] }) (hl : as.length = vs.length) (hG : PySem.W.KdxG (mixKind X.prog X.w) vs S h' as) (hacc : acc.toList = as.map Value.ref) :
    ∃ H' : Hp, (∀ b o, H b = some o → H' b = some o) ∧ H S = none ∧ (∀ t ∈ as, H t = none) ∧ S ∉ as ∧ as.Nodup ∧ H' S = some (.lst (as.map V.ref)) ∧ Paired (fun (t : Addr) (q : Key × V) => H' t = some (.tup [kV q.1, q.2])) as kvs ∧ Inv X pins σ H' { s with heap := h', toks := tk } := by
  have lk : kvs.length = vs.length := Paired.length kv
  have hSn : S ∉ as := fun z => Nat.lt_irrefl _ (hG.above _ z)
  have nd : as.Nodup := List.Pairwise.imp (fun {a b} (h : a < b) => Nat.ne_of_lt h) hG.rise
  have new : ∀ t ∈ as, H t = none := fun t ht => I.hok.fresh (Nat.le_of_lt (Nat.lt_of_le_of_lt hSz (hG.above t ht)))
  have newS : H S = none := I.hok.fresh hSz
  have atP := LiI.putT_at as kvs (upd H S (.lst (as.map V.ref))) (by omega) nd
  have off : ∀ b, b ∉ as → b ≠ S → LiI.putT (upd H S (.lst (as.map V.ref))) as kvs b = H b := fun b h1 h2 => by rw [LiI.putT_off as kvs _ h1, upd_ne h2]
  have low : ∀ b o, s.heap.get? b = some o → b ∉ as ∧ b ≠ S := fun b o e => ⟨fun z => absurd (Heap.lt_size e) (Nat.not_lt.mpr (Nat.le_of_lt (Nat.lt_of_le_of_lt hSz (hG.above b z)))), Nat.ne_of_lt (Nat.lt_of_lt_of_le (Heap.lt_size e) hSz)⟩
  have kp : ∀ b u, H b = some u → (LiI.putT (upd H S (.lst (as.map V.ref))) as kvs) b = some u := fun b u e => by
    rw [off b (fun z => by rw [new b z] at e; cases e) (fun z => by rw [z, newS] at e; cases e)]
    exact e
  have eS : LiI.putT (upd H S (.lst (as.map V.ref))) as kvs S = some (.lst (as.map V.ref)) := by rw [LiI.putT_off as kvs _ hSn, upd_same]
  refine ⟨LiI.putT (upd H S (.lst (as.map V.ref))) as kvs, kp, newS, new, hSn, nd, eS, atP, ?_⟩
  refine I.call' (ch := []) rfl ⟨fun b o q _ _ _ => hk b o q, fun b o q _ _ _ => ⟨o.slots, hk b o q⟩, fun b o q n _ => ?_, fun b o q _ => ⟨o, hk b o q⟩, fun b xs q => kp b _ q, fun b o u q => kp b _ q, fun b ps q => ⟨#[], by rw [kp b _ q]; simp⟩⟩ (fun b u q => ?_) I.bare fun b z => by simp at z
  · obtain ⟨z1, z2⟩ := low b o q
    rw [off b z1 z2]
    exact n
  · by_cases hb : b ∈ as
    · obtain ⟨j, pk, e1, e2, e3⟩ := LiI.paired_ix atP hb
      rw [e3] at q
      cases q
      obtain ⟨key, k, x, f1, f2, f3⟩ := hG.pairs j b e1
      obtain ⟨qv, g1, g2, g3⟩ := LiI.paired_get kv e2
      rw [f1] at g1
      cases g1
      have rk : RelV (kV pk.1) key := by
        rw [g2]
        exact relV_key (show keyIs k key = true from f2)
      exact ⟨by show 2 ≤ sizeLine; decide, [key, x], .cons rk (.cons g3 .nil), ⟨_, f3, rfl, _, rfl⟩⟩
    · by_cases hb2 : b = S
      · rw [hb2] at q ⊢
        rw [eS] at q
        cases q
        refine ⟨by rw [List.length_map]; omega, acc.toList, c, by rw [hacc]; exact LiI.vals_refs as, ?_⟩
        rw [Array.toArray_toList]
        exact hS
      · rw [off b hb hb2] at q
        exact (I.hok b u q).stay (fun d v _ y => hk d v y) (fun d y => kp d _ y) fun d xs y => kp d _ y
def tLsE (K : PySem.W.Frag) (ta : TA) : TE := fun σ H Q => ta σ H fun vs H1 => ∃ a xs, vs = [.ref a] ∧ SqL K H1 a xs ∧
  ∀ (H' : Hp) (p : Addr) (ts : List Addr), (∀ b o, H1 b = some o → H' b = some o) → H1 p = none → (∀ t ∈ ts, H1 t = none) → p ∉ ts → ts.Nodup → H' p = some (.lst (ts.map V.ref)) → Paired (fun (t : Addr) (q : Key × V) => H' t = some (.tup [kV q.1, q.2])) ts (ekvV 0 xs) → Q (.ref p) H'
theorem pe_listEnum {e : Expr} {ta : TA} {p p2 pos pos2 : Pos} (hc : X.calm = true) (hg : Gl X "list") (hm : X.mg "list" = none) (hg2 : Gl X "enumerate") (hm2 : X.mg "enumerate" = none) (ha : PA X [e] ta) (hs2 : starEach [e] X.env = [(false, eval e X.env)] := by rfl)
    (na : starEach [.Call (.Name "enumerate" p2) [e] [] pos2] X.env = (false, eval (.Call (.Name "enumerate" p2) [e] [] pos2) X.env) :: starEach [] X.env := by rfl) :
    PE X (.Call (.Name "list" p) [.Call (.Name "enumerate" p2) [e] [] pos2] [] pos) (tLsE X.K ta) := by
  refine ⟨fun pins s σ H Q I h => ?_⟩
  refine Call_ (ld_blt I hg hm boot_list (PyProof.Rows.callWith_type1 (args_cons (Call_ (ld_blt I hg2 hm2 boot_enumerate (PyProof.Rows.callWith_type1 (thn (ha.run pos2 pins s σ H _ I h) fun us s1 ⟨vs, H1, I1, r1, q1⟩ => ?_) hs2 rfl))) na) na))
  obtain ⟨a, xs, ex, hq, q⟩ := q1
  subst ex
  cases r1 with
  | cons r rr =>
    cases rr
    cases r
    obtain ⟨its, rv, p', hz⟩ := I1.list hq
    have hal : a < s1.heap.objs.size := by obtain ⟨_, z, _⟩ := p'.isList; exact Heap.lt_size z
    refine call_enumerate_list p'.isList fun h' he hit hsz hk => args_nil ?_
    have hlen := rv.length
    refine en_call (s := { s1 with heap := h' }) (l := a) (items := its.toArray) (I1.ok.hd hc) he hit (p'.isList.at fun o z => hk a o z) (Nat.ne_of_lt (Nat.lt_succ_of_lt hal)) (Nat.ne_of_lt hal) (Nat.succ_ne_self _) (by simp; omega) fun h2 tk acc c as hk2 hS hl hG hacc => ?_
    dsimp only at hk2 hS hG
    rw [hsz] at hS hG ⊢
    have hG' : PySem.W.KdxG (mixKind X.prog X.w) (ekv 0 its) (s1.heap.objs.size + 2) h2 as := hG
    obtain ⟨H', k1, k2, k3, k4, k5, k6, k7, J⟩ := enum_laid (tk := tk) (s := s1) (h' := h2) (S := s1.heap.objs.size + 2) I1 (by rw [ekvV_len]; exact hz) (ekv_KV 0 rv) (by omega) (fun b o z => by
      have hb := Heap.lt_size z
      exact hk2 b o (Nat.ne_of_lt (Nat.lt_succ_of_lt hb)) (Nat.ne_of_lt hb) (hk b o z)) hS (by rw [hl, ekv_len]; simp) hG' hacc
    exact ⟨.ref _, H', J, rfl, q H' _ as k1 k2 k3 k4 k5 k6 k7⟩
end
end LsE
namespace Dt
open PySem PySem.Spec PyProof.Rows L2
def listED : List D → Option D
  | [.lst xs] => some (.lst (enumFrom 0 xs))
  | _ => none
theorem reps_enum {K : PySem.W.Frag} {A H' : Hp} : ∀ (n : Nat) {xs : List V} {ds : List D} {ts : List Addr}, Paired (fun (t : Addr) (q : Key × V) => H' t = some (.tup [kV q.1, q.2])) ts (LsE.ekvV n xs) → Reps K A xs ds → (∀ t ∈ ts, A t = H' t) → Reps K A (ts.map V.ref) (enumFrom n ds)
  | _, [], _, _, .nil, .nil, _ => .nil
  | n, x :: xs, d :: ds, t :: ts, .cons h p, .cons r rr, k => .cons (.tup (.inl (.inl ((k t List.mem_cons_self).trans h))) (.cons (.int _) (.cons r .nil))) (reps_enum (n + 1) p rr fun u hu => k u (List.mem_cons_of_mem _ hu))
theorem pd_listE {X : Cx} {W : WX} {e : Expr} {fl : Env → Res (List D)} {p p2 pos pos2 : Pos} (hc : X.calm = true) (hg : Gl X "list") (hm : X.mg "list" = none) (hg2 : Gl X "enumerate") (hm2 : X.mg "enumerate" = none) (ha : PA X [e] (tDs X.K W fl)) (hs2 : starEach [e] X.env = [(false, eval e X.env)] := by rfl)
    (na : starEach [.Call (.Name "enumerate" p2) [e] [] pos2] X.env = (false, eval (.Call (.Name "enumerate" p2) [e] [] pos2) X.env) :: starEach [] X.env := by rfl) :
    PE X (.Call (.Name "list" p) [.Call (.Name "enumerate" p2) [e] [] pos2] [] pos) (tD X.K W (eFn listED fl)) := PE.imp (LsE.pe_listEnum hc hg hm hg2 hm2 ha hs2 na) fun σ H Q h => by
  obtain ⟨H0, env, er, k⟩ := h
  refine ⟨H0, env, er, Kt.seq er k fun vs ds A B gr er' r k' => ?_⟩
  obtain ⟨d2, e, q⟩ := kt_ofO er'.sub k'
  match ds, e with
  | [.lst ys], e =>
    obtain ⟨v, rfl, rv⟩ := reps1 r
    cases rv with
    | @lst a xs _ h rr =>
    cases e
    refine ⟨a, xs, rfl, Same.seq er'.sub h, fun H' p' ts k1 k2 k3 k4 k5 k6 k7 => ?_⟩
    classical
    let A' : Hp := fun b => if b = p' ∨ b ∈ ts then H' b else A b
    have sA : Same A A' := fun b o z => by
      show (if b = p' ∨ b ∈ ts then H' b else A b) = some o
      rw [if_neg]
      · exact z
      · have zb := er'.sub b o z
        rintro (rfl | c)
        · rw [k2] at zb; cases zb
        · rw [k3 b c] at zb; cases zb
    have g : Grow A B A' H' := by
      refine ⟨sA, k1, fun b o z => ?_, fun b hb z => ?_⟩
      · have z : (if b = p' ∨ b ∈ ts then H' b else A b) = some o := z
        by_cases c : b = p' ∨ b ∈ ts
        · rw [if_pos c] at z; exact z
        · rw [if_neg c] at z; exact k1 b o (er'.sub b o z)
      · show (if b = p' ∨ b ∈ ts then H' b else A b) = none
        rw [if_neg]
        · exact z
        · rintro (rfl | c)
          · exact hb k2
          · exact hb (k3 b c)
    refine q _ A' H' g (.lst (SqL.of ?_) (reps_enum 0 k7 (rr.mono sA) fun t ht => ?_))
    · show (if p' = p' ∨ p' ∈ ts then H' p' else A p') = _
      rw [if_pos (.inl rfl)]
      exact k6
    · show (if t = p' ∨ t ∈ ts then H' t else A t) = _
      rw [if_pos (.inr ht)]
end Dt
namespace Dt
open PySem PySem.Spec PyProof.Rows L2 He
/-! ## data with no list in it -/
mutual
def flat : D → Bool
  | .non => true | .bl _ => true | .int _ => true | .str _ => true | .ty _ => true | .cls _ => true
  | .tup xs => flats xs
  | _ => false
def flats : List D → Bool
  | [] => true
  | d :: ds => flat d && flats ds
end
/-- A' is A and lists -/
def OnlyL (A A' : Hp) : Prop := ∀ a o, A' a = some o → A a = some o ∨ ∃ xs, o = .lst xs
section
variable {K : PySem.W.Frag} {A A' : Hp}
theorem OnlyL.seqT (h : OnlyL A A') {a : Addr} {xs : List V} (r : SqT K A' a xs) : SqT K A a xs := by
  rcases r with (r | ⟨o, r⟩) | r
  · rcases h _ _ r with z | ⟨ys, z⟩
    · exact .inl (.inl z)
    · cases z
  · rcases h _ _ r with z | ⟨ys, z⟩
    · exact .inl (.inr ⟨o, z⟩)
    · cases z
  · exact .inr r
mutual
theorem Rep.low (h : OnlyL A A') : ∀ {v : V} {d : D}, flat d = true → Rep K A' v d → Rep K A v d
  | _, _, _, .non => .non
  | _, _, _, .bl b => .bl b
  | _, _, _, .int i => .int i
  | _, _, _, .str x => .str x
  | _, _, _, .ty n => .ty n
  | _, _, _, .cls a => .cls a
  | _, _, f, .tup q r => .tup (h.seqT q) (Reps.low h f r)
  | _, _, f, .lst _ _ => by cases f
  | _, _, f, .ins _ _ => by cases f
  | _, _, f, .dic _ => by cases f
theorem Reps.low (h : OnlyL A A') : ∀ {vs : List V} {ds : List D}, flats ds = true → Reps K A' vs ds → Reps K A vs ds
  | _, _, _, .nil => .nil
  | _, _, f, .cons r t => .cons (Rep.low h (Bool.and_eq_true_iff.mp f).1 r) (Reps.low h (Bool.and_eq_true_iff.mp f).2 t)
end
def flatL (gs : Fl2) : Bool := gs.all fun f => flats f.2
theorem RepO.low {H H' : Hp} (h : OnlyL A A') : ∀ {L : List Addr} {vs : List (Str × V)} {gs : Fl2}, flatL gs = true → RepO K A' H H' L vs (gs.map fun f => (f.1, .lst f.2)) → RepO K A H H' L vs (gs.map fun f => (f.1, .lst f.2))
  | _, _, [], _, .nil => .nil
  | _, _, g :: gs, f, r => by
    have f' : (flats g.2 && flatL gs) = true := f
    have r : RepO K A' H H' _ _ ((g.1, .lst g.2) :: gs.map fun f => (f.1, .lst f.2)) := r
    show RepO K A H H' _ _ ((g.1, .lst g.2) :: gs.map fun f => (f.1, .lst f.2))
    cases r with
    | sh nl _ _ => cases nl
    | ow h1 h2 h3 h4 h5 => exact .ow h1 h2 (Reps.low h (Bool.and_eq_true_iff.mp f').1 h3) h4 (RepO.low h (Bool.and_eq_true_iff.mp f').2 h5)
end
/-! ## x = list(e), one's own -/
def sAsgL (i : Nat) (fa : Env → Res D) : Env → Res Fl := fun env => (fa env).bind fun d => match d with
  | .lst xs => .ok (.nx (env.set i (.ow xs)))
  | _ => .no
section
variable {X : Cx} {W : WX} {G : Hp → Hp → Prop} {P : Addr → Prop} {pos : Pos} {a : Expr} {fa : Env → Res D}
theorem sd_setL (gd : Gd G P) {i : Nat} {x : Str} {p0 pc pos' : Pos} (hN : X.N.Nodup) (hg : Gl X "list") (hm : X.mg "list" = none) (ha : PE X a (tD X.K W fa)) (hi : X.N[i]? = some x := by rfl) (hx : Loc X.env.scope x := by first | exact Or.inl rfl | exact Or.inr rfl) (hs : swapsWith (.Call (.Name "list" p0) [a] [] pc) (some (.Name x pos')) pos.line X.env = pure false := by rfl) (hf : X.fn x = true ∨ X.env.scope.names.lookup x = some .local := by first | exact .inl rfl | exact .inr rfl | assumption)
    (he : starEach [a] X.env = (false, eval a X.env) :: starEach [] X.env := by rfl) (hpl : (backTo pc (starEach ([] : List Expr) X.env)).any (·.1) = false := by rfl) :
    PS X (.Assign [.Name x pos'] (.Call (.Name "list" p0) [a] [] pc) pos) (tS X.K W G P (sAsgL i fa)) := PS.imp (ps_set hN hi hx (pe_callTy call_list_of hg hm (by decide +kernel) (pa_cons ha pa_nil he) (by decide) (by decide) he hpl) hs hf) fun Dd σ H h => by
  obtain ⟨A, env, s, k⟩ := h
  refine ks_seq gd s k fun x d A' H' s' rx k' => ?_
  cases d with
  | lst xs =>
    cases rx with
    | lst h1 r1 =>
    exact ⟨_, _, rfl, .inl (Same.seq s'.er.sub h1), fun p hp => k' _ A' _ (stt_new gd s' hp r1)⟩
  | _ => exact k'.elim
end
/-! ## y = C(x), x a list of one's own that stays so -/
def sMkO (i j : Nat) (C : Addr) (g : List D → Option Fs) : Env → Res Fl := fun env => match env[i]? with
  | some (.ow ds) => (match (g [.lst ds]).bind allL with
    | some gs => if flatL gs = true then .ok (.nx (env.set j (.sh (.ins C (gs.map fun f => (f.1, .lst f.2)))))) else .no
    | none => .no)
  | _ => .no
theorem onlyL_one {A : Hp} {p : Addr} {vs : List V} : OnlyL A (upd A p (.lst vs)) := fun a o e => by
  by_cases c : a = p
  · rw [c, upd_same] at e
    cases e
    exact .inr ⟨vs, rfl⟩
  · rw [upd_ne c] at e
    exact .inl e
theorem same_put {A H : Hp} {p : Addr} {o : HO} (s : Same A H) (h : H p = some o) : Same (upd A p o) H := fun b u e => by
  by_cases c : b = p
  · rw [c, upd_same] at e
    cases e
    rw [c]
    exact h
  · rw [upd_ne c] at e
    exact s b u e
section
variable {X : Cx} {W : WX} {G : Hp → Hp → Prop} {P : Addr → Prop} {pos : Pos}
theorem sd_mkO (gd : Gd G P) (i j : Nat) {f C : Addr} {gi : List D → Option Fs} {x y z : Str} {p xp pos' cpos : Pos} (F : HeldI X.prog X.w X.K X.mg X.base f C 1 gi) (hr : Room 2 X.A) (M : Mk X.K C f) (hN : X.N.Nodup) (hg : Gl X x) (hm : X.mg x = some (.ref C))
    (hi : X.N[i]? = some z := by rfl) (hv : Vis X.env.scope z := by first | exact Or.inl rfl | exact Or.inr (Or.inl rfl) | exact Or.inr (Or.inr rfl)) (hj : X.N[j]? = some y := by rfl) (hx : Loc X.env.scope y := by first | exact Or.inl rfl | exact Or.inr rfl)
    (hs : swapsWith (.Call (.Name x p) [.Name z xp] [] cpos) (some (.Name y pos')) pos.line X.env = pure false := by rfl) (hf : X.fn y = true ∨ X.env.scope.names.lookup y = some .local := by first | exact .inl rfl | exact .inr rfl | assumption)
    (hdb : (x == ("__debug__" : Str)) = false := by decide) (hd : (z == ("__debug__" : Str)) = false := by decide) (hcd : (z == ("__classdict__" : Str)) = false := by decide) (he : starEach [.Name z xp] X.env = (false, eval (.Name z xp) X.env) :: starEach [] X.env := by rfl) (hpl : (backTo cpos (starEach ([] : List Expr) X.env)).any (·.1) = false := by rfl) :
    PS X (.Assign [.Name y pos'] (.Call (.Name x p) [.Name z xp] [] cpos) pos) (tS X.K W G P (sMkO i j C gi)) := by
  obtain ⟨fd, ps, F, b⟩ := F
  refine PS.imp (ps_set hN hj hx (pe_make (E := fun _ _ _ => False) M F hr hg hm b .nil (fun pins σ H s e s' I h => (cx_false H s e s' h).elim) (pa_cons (pe_var hi hv hd hcd) pa_nil he) hdb he hpl) hs hf) fun Dd σ H h => ?_
  obtain ⟨A, env, s, k⟩ := h
  unfold sMkO at k
  cases e1 : env[i]? with
  | none => rw [e1] at k; exact k.elim
  | some sl =>
    rw [e1] at k
    cases sl with
    | ow ds =>
      have k : KS X.K W G P Dd (match (gi [.lst ds]).bind allL with
        | some gs => if flatL gs = true then .ok (.nx (env.set j (.sh (.ins C (gs.map fun f => (f.1, .lst f.2)))))) else .no
        | none => .no) := k
      obtain ⟨q, vs, h1, h2, h3, h4⟩ := s.er.ow i ds e1
      cases e2 : gi [.lst ds] with
      | none => rw [e2] at k; exact k.elim
      | some fs =>
        cases e3 : allL fs with
        | none => rw [e2, Option.bind_some, e3] at k; exact k.elim
        | some gs =>
          rw [e2, Option.bind_some, e3] at k
          have k : KS X.K W G P Dd (if flatL gs = true then .ok (.nx (env.set j (.sh (.ins C (gs.map fun f => (f.1, .lst f.2)))))) else .no) := k
          by_cases c : flatL gs = true
          · rw [if_pos c] at k
            refine ⟨.ref q, h1, fun x1 dx hx1 hd1 ne => ?_⟩
            have sub' : Same (upd A q (.lst vs)) H := same_put s.er.sub h2
            have ax : upd A q (.lst vs) x1 = none := Same.free sub' hx1
            have subI : Same (upd A q (.lst vs)) (upd (upd H dx (.own x1)) x1 (.ins C dx [])) := fun b o z => by
              rw [upd_ne (ne_of_none z ax), upd_ne (ne_of_none z (Same.free sub' hd1))]
              exact sub' b o z
            refine ⟨x1, dx, [.ref q], upd A q (.lst vs), [.lst ds], fs, rfl, upd_same, ax, subI, .cons (.lst (SqL.of upd_same) (h4.mono (Same.new h3))) .nil, rfl, e2, fun vfs L H' kp hx' ro => ⟨rfl, ?_⟩⟩
            rw [allL_eq e3] at ro
            obtain ⟨A2, gr, rp⟩ := grow_ins s.er.sub hx1 hd1 ne kp hx' (RepO.low onlyL_one c ro)
            have s2 := s.grow gd gr
            exact k _ A2 H' ⟨s2.er.set rp, s2.ow.set, s2.g⟩
          · rw [if_neg c] at k
            exact k.elim
    | _ => exact k.elim
end
/-! ## two lists made, handed to C(..), and changed afterwards -/
def noOwn (env : Env) : Bool := env.all fun s => match s with
  | .ow _ => false
  | .oi _ _ => false
  | _ => true
theorem noOw_of {env : Env} (h : noOwn env = true) : noOw env := fun i => by
  have key : ∀ s, env[i]? = some s → (match s with | .ow _ => false | .oi _ _ => false | _ => true) = true := fun s e => List.all_eq_true.mp h s (List.mem_of_getElem? e)
  exact ⟨fun ds e => (by have := key _ e; cases this), fun C fs e => (by have := key _ e; cases this)⟩
theorem noOw_set {env : Env} {i : Nat} {s : Sl} (h : noOw env) (hs : s = .no ∨ ∃ d, s = .sh d) : noOw (env.set i s) := fun j => by
  refine ⟨fun ds e => ?_, fun C fs e => ?_⟩
  · rcases set_some e with ⟨rfl, z⟩ | ⟨_, z⟩
    · rcases hs with w | ⟨d, w⟩ <;> (rw [w] at z; cases z)
    · exact (h j).1 _ z
  · rcases set_some e with ⟨rfl, z⟩ | ⟨_, z⟩
    · rcases hs with w | ⟨d, w⟩ <;> (rw [w] at z; cases z)
    · exact (h j).2 _ _ z
theorem ownB_no {B : Addr → Prop} {H : Hp} {σ : L2.St} {env : Env} (h : noOw env) : OwnB B H σ env := ⟨fun i ds p e _ => ((h i).1 _ e).elim, fun i C fs x C' dx vfs n q e _ _ _ => ((h i).2 _ _ e).elim⟩
theorem stt_put {K : PySem.W.Frag} {G : Hp → Hp → Prop} {P : Addr → Prop} {σ : L2.St} {A H : Hp} {env : Env} {p : Addr} {o : HO} (gd : Gd G P) (n : noOw env) (s : Stt K G P σ A H env) (h0 : A p = none) (hp : P p) : Stt K G P σ A (upd H p o) env :=
  ⟨s.er.plain n fun b u e => by
    rw [upd_ne (ne_of_none e h0)]
    exact s.er.sub b u e, ownB_no n, gd.put s.g h0 hp⟩
def sRgB (h y ia ib : Nat) (C : Addr) (g : List D → Option Fs) : Env → Res Fl := fun env => if noOwn env = true ∧ h < env.length then (match env[ia]?, env[ib]? with
  | some (.sh (.lst xs)), some (.sh (.lst ys)) => if xs.length < 1000000 ∧ ys.length < 1000000 then (match (g [.lst xs, .lst ys]).bind allL with
    | some gs => if flatL gs = true then .ok (.nx ((env.set h .no).set y (.sh (.ins C (gs.map fun f => (f.1, .lst f.2)))))) else .no
    | none => .no) else .no
  | _, _ => .no) else .no
theorem sRgB_ok (h y ia ib : Nat) (C : Addr) (g : List D → Option Fs) (env : Env) : sRgB h y ia ib C g env = .no ∨ (noOw env ∧ h < env.length ∧ ∃ xs ys fs gs, env[ia]? = some (.sh (.lst xs)) ∧ env[ib]? = some (.sh (.lst ys)) ∧ xs.length < 1000000 ∧ ys.length < 1000000 ∧ g [.lst xs, .lst ys] = some fs ∧ allL fs = some gs ∧ flatL gs = true ∧
    sRgB h y ia ib C g env = .ok (.nx ((env.set h .no).set y (.sh (.ins C (gs.map fun f => (f.1, .lst f.2))))))) := by
  unfold sRgB
  split
  · rename_i c
    split
    · rename_i xs ys e1 e2
      split
      · rename_i c2
        cases e5 : g [.lst xs, .lst ys] with
        | none => exact .inl rfl
        | some fs =>
          cases e6 : allL fs with
          | none => exact .inl (by rw [Option.bind_some, e6])
          | some gs =>
            by_cases c3 : flatL gs = true
            · exact .inr ⟨noOw_of c.1, c.2, xs, ys, fs, gs, e1, e2, c2.1, c2.2, e5, e6, c3, by rw [Option.bind_some, e6]; exact if_pos c3⟩
            · exact .inl (by rw [Option.bind_some, e6]; exact if_neg c3)
      · exact .inl rfl
    · exact .inl rfl
  · exact .inl rfl
section
variable {X : Cx} {W : WX} {G : Hp → Hp → Prop} {P : Addr → Prop}
theorem sd_rgB (gd : Gd G P) (h y ia ib : Nat) (hy : h ≠ y) {f C : Addr} {gi : List D → Option Fs} {xa xb xh xy xC : Str} {rest : List Stmt} {g2 : Env → Res Fl} {k1 k2 k3 k4 k5 k6 k7 k8} {p1 p2 p3 p4 p5 p6 p7 p8 p9 p10 p11 p12 p13 p14 p15 p16 p17 p18 p19 p20 p21 p22 p23 p24 p25 p26 p27 p28 p29 p30 p31 p32 p33 p34 p35 : Pos}
    (F : HeldI X.prog X.w X.K X.mg X.base f C 2 gi) (hr : Room 2 X.A) (M : Mk X.K C f) (hN : X.N.Nodup) (hg : Gl X xC) (hm : X.mg xC = some (.ref C)) (hgL : Gl X "list") (hmL : X.mg "list" = none) (hrest : PSs X rest (tS X.K W G P g2))
    (ha : X.N[ia]? = some xa := by rfl) (hva : Vis X.env.scope xa := by first | exact Or.inl rfl | exact Or.inr (Or.inl rfl) | exact Or.inr (Or.inr rfl)) (hb : X.N[ib]? = some xb := by rfl) (hvb : Vis X.env.scope xb := by first | exact Or.inl rfl | exact Or.inr (Or.inl rfl) | exact Or.inr (Or.inr rfl))
    (hh : X.N[h]? = some xh := by rfl) (hvh : Vis X.env.scope xh := by first | exact Or.inl rfl | exact Or.inr (Or.inl rfl) | exact Or.inr (Or.inr rfl)) (hlh : Loc X.env.scope xh := by first | exact Or.inl rfl | exact Or.inr rfl) (hfh : X.fn xh = true ∨ X.env.scope.names.lookup xh = some .local := by first | exact .inl rfl | exact .inr rfl | assumption)
    (hyy : X.N[y]? = some xy := by rfl) (hly : Loc X.env.scope xy := by first | exact Or.inl rfl | exact Or.inr rfl) (hfy : X.fn xy = true ∨ X.env.scope.names.lookup xy = some .local := by first | exact .inl rfl | exact .inr rfl | assumption)
    (da : (xa == ("__debug__" : Str)) = false := by decide) (ca : (xa == ("__classdict__" : Str)) = false := by decide) (db : (xb == ("__debug__" : Str)) = false := by decide) (cb : (xb == ("__classdict__" : Str)) = false := by decide) (dh : (xh == ("__debug__" : Str)) = false := by decide) (ch : (xh == ("__classdict__" : Str)) = false := by decide) (dC : (xC == ("__debug__" : Str)) = false := by decide)
    (s1 : swapsWith (.List [.Call (.Name "list" p2) [.Name xa p3] [] p4, .Call (.Name "list" p5) [.Name xb p6] [] p7] p8) (some (.Name xh p1)) p9.line X.env = pure false := by rfl)
    (a1 : starEach [.Name xa p3] X.env = (false, eval (.Name xa p3) X.env) :: starEach [] X.env := by rfl) (l1 : (backTo p4 (starEach ([] : List Expr) X.env)).any (·.1) = false := by rfl)
    (a2 : starEach [.Name xb p6] X.env = (false, eval (.Name xb p6) X.env) :: starEach [] X.env := by rfl) (l2 : (backTo p7 (starEach ([] : List Expr) X.env)).any (·.1) = false := by rfl)
    (a3 : starEach [.Call (.Name "list" p2) [.Name xa p3] [] p4, .Call (.Name "list" p5) [.Name xb p6] [] p7] X.env = (false, eval (.Call (.Name "list" p2) [.Name xa p3] [] p4) X.env) :: starEach [.Call (.Name "list" p5) [.Name xb p6] [] p7] X.env := by rfl)
    (a4 : starEach [.Call (.Name "list" p5) [.Name xb p6] [] p7] X.env = (false, eval (.Call (.Name "list" p5) [.Name xb p6] [] p7) X.env) :: starEach [] X.env := by rfl)
    (s2 : swapsWith (.Call (.Name xC p11) [.Subscript (.Name xh p12) (.Constant (.int 0) k1 p13) p14, .Subscript (.Name xh p15) (.Constant (.int 1) k2 p16) p17] [] p18) (some (.Name xy p10)) p19.line X.env = pure false := by rfl)
    (a5 : starEach [.Subscript (.Name xh p12) (.Constant (.int 0) k1 p13) p14, .Subscript (.Name xh p15) (.Constant (.int 1) k2 p16) p17] X.env = (false, eval (.Subscript (.Name xh p12) (.Constant (.int 0) k1 p13) p14) X.env) :: starEach [.Subscript (.Name xh p15) (.Constant (.int 1) k2 p16) p17] X.env := by rfl)
    (a6 : starEach [.Subscript (.Name xh p15) (.Constant (.int 1) k2 p16) p17] X.env = (false, eval (.Subscript (.Name xh p15) (.Constant (.int 1) k2 p16) p17) X.env) :: starEach [] X.env := by rfl)
    (l3 : (backTo p18 (starEach [.Subscript (.Name xh p15) (.Constant (.int 1) k2 p16) p17] X.env)).any (·.1) = false := by rfl)
    (s3 : swapsWith (.Call (.Attribute (.Subscript (.Name xh p20) (.Constant (.int 0) k3 p21) p22) "append" p23) [.Tuple [.Constant (.int 1) k4 p24, .Constant (.int 1) k5 p25] k6 p26] [] p27) none p28.line X.env = pure false := by rfl)
    (a7 : starEach [.Tuple [.Constant (.int 1) k4 p24, .Constant (.int 1) k5 p25] k6 p26] X.env = (false, eval (.Tuple [.Constant (.int 1) k4 p24, .Constant (.int 1) k5 p25] k6 p26) X.env) :: starEach [] X.env := by rfl)
    (a8 : starEach [.Constant (.int 1) k4 p24, .Constant (.int 1) k5 p25] X.env = (false, eval (.Constant (.int 1) k4 p24) X.env) :: starEach [.Constant (.int 1) k5 p25] X.env := by rfl) (a9 : starEach [.Constant (.int 1) k5 p25] X.env = (false, eval (.Constant (.int 1) k5 p25) X.env) :: starEach [] X.env := by rfl)
    (b3 : attributeBase (.Subscript (.Name xh p20) (.Constant (.int 0) k3 p21) p22) "append" X.env (eval (.Subscript (.Name xh p20) (.Constant (.int 0) k3 p21) p22) X.env) = eval (.Subscript (.Name xh p20) (.Constant (.int 0) k3 p21) p22) X.env := by rfl)
    (w3 : ((backTo p27 (starEach [.Tuple [.Constant (.int 1) k4 p24, .Constant (.int 1) k5 p25] k6 p26] X.env)).all (fun x => !x.1) && (backToKw p27 (keywordEach [] X.env)).all (fun x => x.1.isSome)
      && decide (([.Tuple [.Constant (.int 1) k4 p24, .Constant (.int 1) k5 p25] k6 p26] : List Expr).length + ([] : List Keyword).length + (if ([] : List Keyword).isEmpty then 0 else 1) < 30)) = true := by rfl)
    (n3 : (p23.endLine == p27.line) = true := by rfl) (l4 : (backTo p27 (starEach ([] : List Expr) X.env)).any (·.1) = false := by rfl)
    (s4 : swapsWith (.Call (.Attribute (.Subscript (.Name xh p29) (.Constant (.int 1) k7 p30) p31) "append" p32) [.Constant (.int 0) k8 p33] [] p34) none p35.line X.env = pure false := by rfl)
    (aa : starEach [.Constant (.int 0) k8 p33] X.env = (false, eval (.Constant (.int 0) k8 p33) X.env) :: starEach [] X.env := by rfl)
    (b4 : attributeBase (.Subscript (.Name xh p29) (.Constant (.int 1) k7 p30) p31) "append" X.env (eval (.Subscript (.Name xh p29) (.Constant (.int 1) k7 p30) p31) X.env) = eval (.Subscript (.Name xh p29) (.Constant (.int 1) k7 p30) p31) X.env := by rfl)
    (w4 : ((backTo p34 (starEach [.Constant (.int 0) k8 p33] X.env)).all (fun x => !x.1) && (backToKw p34 (keywordEach [] X.env)).all (fun x => x.1.isSome)
      && decide (([.Constant (.int 0) k8 p33] : List Expr).length + ([] : List Keyword).length + (if ([] : List Keyword).isEmpty then 0 else 1) < 30)) = true := by rfl)
    (n4 : (p32.endLine == p34.line) = true := by rfl) (l5 : (backTo p34 (starEach ([] : List Expr) X.env)).any (·.1) = false := by rfl) :
    PSs X (.Assign [.Name xh p1] (.List [.Call (.Name "list" p2) [.Name xa p3] [] p4, .Call (.Name "list" p5) [.Name xb p6] [] p7] p8) p9 ::
      .Assign [.Name xy p10] (.Call (.Name xC p11) [.Subscript (.Name xh p12) (.Constant (.int 0) k1 p13) p14, .Subscript (.Name xh p15) (.Constant (.int 1) k2 p16) p17] [] p18) p19 ::
      .Expr (.Call (.Attribute (.Subscript (.Name xh p20) (.Constant (.int 0) k3 p21) p22) "append" p23) [.Tuple [.Constant (.int 1) k4 p24, .Constant (.int 1) k5 p25] k6 p26] [] p27) p28 ::
      .Expr (.Call (.Attribute (.Subscript (.Name xh p29) (.Constant (.int 1) k7 p30) p31) "append" p32) [.Constant (.int 0) k8 p33] [] p34) p35 :: rest) (tS X.K W G P (sSeq (sRgB h y ia ib C gi) g2)) := by
  obtain ⟨fd, ps, F, b⟩ := F
  refine PSs.imp (pss_cons (ps_set hN hh hlh (pe_lst (pa_cons (pe_callTy call_list_of hgL hmL (by decide +kernel) (pa_cons (pe_var ha hva da ca) pa_nil a1) (by decide) (by decide) a1 l1) (pa_cons (pe_callTy call_list_of hgL hmL (by decide +kernel) (pa_cons (pe_var hb hvb db cb) pa_nil a2) (by decide) (by decide) a2 l2) pa_nil a4) a3)) s1 hfh)
    (pss_cons (ps_set hN hyy hly (pe_make (E := fun _ _ _ => False) M F hr hg hm b .nil (fun pins σ H s e s' I h => (cx_false H s e s' h).elim) (pa_cons (pe_ix ix_list (pe_var hh hvh dh ch) pe_int (fun _ _ => rfl)) (pa_cons (pe_ix ix_list (pe_var hh hvh dh ch) pe_int (fun _ _ => rfl)) pa_nil a6) a5) dC a5 l3) s2 hfy)
    (pss_cons (ps_expr (pe_bm PySem.F.plainAttrs_list PySem.F.slot_list_append PySem.F.type_list_append mt_append (pe_ix ix_list (pe_var hh hvh dh ch) pe_int (fun _ _ => rfl)) (pa_cons (pe_tup (pa_cons pe_int (pa_cons pe_int pa_nil a9) a8)) pa_nil a7) b3 w3 n3 a7 l4) s3)
    (pss_cons (ps_expr (pe_bm PySem.F.plainAttrs_list PySem.F.slot_list_append PySem.F.type_list_append mt_append (pe_ix ix_list (pe_var hh hvh dh ch) pe_int (fun _ _ => rfl)) (pa_cons pe_int pa_nil aa) b4 w4 n4 aa l5) s4) hrest)))) fun Dd σ H hyp => ?_
  obtain ⟨A, env, s, k⟩ := hyp
  rcases sRgB_ok h y ia ib C gi env with e | ⟨no, hlen, xs, ys, fs, gs, e1, e2, len1, len2, e3, e4, e5, e⟩
  · unfold sSeq at k
    rw [e] at k
    exact k.elim
  unfold sSeq at k
  rw [e] at k
  have k : KS X.K W G P Dd (g2 ((env.set h .no).set y (.sh (.ins C (gs.map fun f => (f.1, .lst f.2)))))) := k
  obtain ⟨va, hσa, ra⟩ := s.er.sh ia _ e1
  obtain ⟨vb, hσb, rb⟩ := s.er.sh ib _ e2
  cases ra with
  | @lst pa vs _ qa ra =>
  cases rb with
  | @lst pb ws _ qb rb =>
  refine ⟨.ref pa, hσa, pa, vs, rfl, .inl (Same.seq s.er.sub qa), fun q1 hq1 => ?_⟩
  have A1 : A q1 = none := Same.free s.er.sub hq1
  have S1 : Same H (upd H q1 (.lst vs)) := Same.new hq1
  refine ⟨.ref pb, hσb, pb, ws, rfl, .inl (Same.seq S1 (Same.seq s.er.sub qb)), fun q2 hq2 => ?_⟩
  have A2 : A q2 = none := Same.free (s.er.sub.trans S1) hq2
  have H2 : H q2 = none := Same.free S1 hq2
  have S2 : Same (upd H q1 (.lst vs)) (upd (upd H q1 (.lst vs)) q2 (.lst ws)) := Same.new hq2
  have ne12 : q1 ≠ q2 := ne_of_none upd_same hq2
  refine ⟨by show 2 ≤ sizeLine; decide, fun q hq => ?_⟩
  have S3 : Same (upd (upd H q1 (.lst vs)) q2 (.lst ws)) (upd (upd (upd H q1 (.lst vs)) q2 (.lst ws)) q (.lst [.ref q1, .ref q2])) := Same.new hq
  generalize hH3 : upd (upd (upd H q1 (.lst vs)) q2 (.lst ws)) q (.lst [.ref q1, .ref q2]) = H3 at *
  have v1 : H3 q1 = some (.lst vs) := S3 _ _ (S2 _ _ upd_same)
  have v2 : H3 q2 = some (.lst ws) := S3 _ _ upd_same
  have v3 : H3 q = some (.lst [.ref q1, .ref q2]) := by rw [← hH3]; exact upd_same
  have S03 : Same H H3 := (S1.trans S2).trans S3
  have hσ1 : (σ.set h (some (.ref q)))[h]? = some (some (.ref q)) := List.getElem?_set_self (by rw [← s.er.len]; exact hlen)
  have no1 : noOw (env.set h .no) := noOw_set no (.inl rfl)
  have st1 : Stt X.K G P (σ.set h (some (.ref q))) A H3 (env.set h .no) := ⟨(s.er.grow (Grow.keep s.er.sub S03)).forget, ownB_no no1, gd.grow s.g (Grow.keep s.er.sub S03)⟩
  refine ⟨.ref q, hσ1, q, _, 0, .ref q1, rfl, rfl, SqL.of v3, rfl, .ref q, hσ1, q, _, 1, .ref q2, rfl, rfl, SqL.of v3, rfl, fun x dx hx hd ne => ?_⟩
  have O1 : OnlyL A (upd (upd A q1 (.lst vs)) q2 (.lst ws)) := fun a o z => by
    rcases onlyL_one a o z with z | z
    · exact onlyL_one a o z
    · exact .inr z
  have T1 : Same (upd (upd A q1 (.lst vs)) q2 (.lst ws)) H3 := same_put (same_put (s.er.sub.trans S03) v1) v2
  have ax : (upd (upd A q1 (.lst vs)) q2 (.lst ws)) x = none := Same.free T1 hx
  have subI : Same (upd (upd A q1 (.lst vs)) q2 (.lst ws)) (upd (upd H3 dx (.own x)) x (.ins C dx [])) := fun b o z => by
    rw [upd_ne (ne_of_none z ax), upd_ne (ne_of_none z (Same.free T1 hd))]
    exact T1 b o z
  have B1 : Same A (upd A q1 (.lst vs)) := Same.new A1
  have B2 : Same (upd A q1 (.lst vs)) (upd (upd A q1 (.lst vs)) q2 (.lst ws)) := Same.new (by rw [upd_ne ne12.symm]; exact A2)
  refine ⟨x, dx, [.ref q1, .ref q2], _, [.lst xs, .lst ys], fs, rfl, upd_same, ax, subI, .cons (.lst (SqL.of (B2 _ _ upd_same)) (ra.mono (B1.trans B2))) (.cons (.lst (SqL.of upd_same) (rb.mono (B1.trans B2))) .nil), rfl, e3, fun vfs L H' kp hx' ro => ⟨rfl, ?_⟩⟩
  rw [allL_eq e4] at ro
  obtain ⟨A', gr, rp⟩ := grow_ins st1.er.sub hx hd ne kp hx' (RepO.low O1 e5 ro)
  have st2 := st1.grow gd gr
  have no2 : noOw ((env.set h .no).set y (.sh (.ins C (gs.map fun f => (f.1, .lst f.2))))) := noOw_set no1 (.inr ⟨_, rfl⟩)
  have st3 : Stt X.K G P ((σ.set h (some (.ref q))).set y (some (.ref x))) A' H' ((env.set h .no).set y (.sh (.ins C (gs.map fun f => (f.1, .lst f.2))))) := ⟨st2.er.set rp, ownB_no no2, st2.g⟩
  have hσ2 : ((σ.set h (some (.ref q))).set y (some (.ref x)))[h]? = some (some (.ref q)) := by rw [List.getElem?_set_ne hy.symm]; exact hσ1
  have f1 : A' q1 = none := gr.fr q1 (by rw [v1]; exact fun z => nomatch z) A1
  have f2 : A' q2 = none := gr.fr q2 (by rw [v2]; exact fun z => nomatch z) A2
  refine ⟨.ref q, hσ2, q, _, 0, .ref q1, rfl, rfl, SqL.of (gr.s _ _ v3), rfl, .inl ⟨rfl, vs, SqL.of (gr.s _ _ v1)⟩, by show 2 ≤ sizeLine; decide, fun t ht => ?_⟩
  have S4 : Same H' (upd H' t (.tup [.int 1, .int 1])) := Same.new ht
  have st4 := st3.grow gd (Grow.keep st3.er.sub S4)
  refine ⟨q1, vs, .ref t, rfl, rfl, S4 _ _ (gr.s _ _ v1), by rw [ra.length]; exact sz_lt len1, ?_⟩
  have st5 := stt_put (o := .lst (vs ++ [.ref t])) gd no2 st4 f1 (gd.fresh s.g hq1)
  have u3 : upd (upd H' t (.tup [.int 1, .int 1])) q1 (.lst (vs ++ [.ref t])) q = some (.lst [.ref q1, .ref q2]) := by
    rw [upd_ne (ne_of_none ((S2 _ _ upd_same)) hq).symm]
    exact S4 _ _ (gr.s _ _ v3)
  have u2 : upd (upd H' t (.tup [.int 1, .int 1])) q1 (.lst (vs ++ [.ref t])) q2 = some (.lst ws) := by
    rw [upd_ne ne12.symm]
    exact S4 _ _ (gr.s _ _ v2)
  exact ⟨.ref q, hσ2, q, _, 1, .ref q2, rfl, rfl, SqL.of u3, rfl, .inl ⟨rfl, ws, SqL.of u2⟩, q2, ws, .int 0, rfl, rfl, u2, by rw [rb.length]; exact sz_lt len2, A', _, stt_put gd no2 st5 f2 (gd.fresh s.g H2), k⟩
end
/-! ## xs[k], xs[0] = xs[0], xs[k] -/
def sSwap (i j : Nat) : Env → Res Fl := fun env => match env[i]?, env[j]? with
  | some (.ow ds), some (.sh (.int k)) => (match atI ds 0, atI ds k, ixN ds.length k with
    | some a, some b, some m => .ok (.nx (env.set i (.ow ((ds.set m a).set 0 b))))
    | _, _, _ => .no)
  | _, _ => .no
theorem sSwap_ok (i j : Nat) (env : Env) : sSwap i j env = .no ∨ ∃ ds k a b m, env[i]? = some (.ow ds) ∧ env[j]? = some (.sh (.int k)) ∧ atI ds 0 = some a ∧ atI ds k = some b ∧ ixN ds.length k = some m ∧ sSwap i j env = .ok (.nx (env.set i (.ow ((ds.set m a).set 0 b)))) := by
  unfold sSwap
  split
  · rename_i ds k e1 e2
    split
    · rename_i a b m e3 e4 e5
      exact .inr ⟨ds, k, a, b, m, e1, e2, e3, e4, e5, rfl⟩
    · exact .inl rfl
  · exact .inl rfl
theorem atI_reps {K : PySem.W.Frag} {H : Hp} {vs : List V} {ds : List D} {k : Int} {d : D} (r : Reps K H vs ds) (h : atI ds k = some d) : ∃ v, atI vs k = some v ∧ Rep K H v d := by
  unfold atI at h ⊢
  rw [r.length]
  cases e : ixN ds.length k with
  | none => rw [e] at h; cases h
  | some j =>
    rw [e] at h
    exact r.get h
theorem atI_zero {n : Nat} {ds : List D} {d : D} (h : atI ds 0 = some d) (e : ds.length = n) : ixN n 0 = some 0 := by
  unfold atI at h
  subst e
  unfold ixN at h ⊢
  rw [if_pos (by decide)] at h ⊢
  by_cases c : (0 : Int) < ds.length
  · rw [if_pos c]; rfl
  · rw [if_neg c] at h
    cases h
section
variable {X : Cx} {W : WX} {G : Hp → Hp → Prop} {P : Addr → Prop}
theorem stt_putO {K : PySem.W.Frag} {σ : L2.St} {A H : Hp} {env : Env} {i : Nat} {p : Addr} {vs : List V} {ds es : List D} (gd : Gd G P) (s : Stt K G P σ A H env) (hi : env[i]? = some (.ow es)) (hσ : σ[i]? = some (some (.ref p))) (h0 : A p = none) (hr : Reps K A vs ds) : Stt K G P σ A (upd H p (.lst vs)) (env.set i (.ow ds)) :=
  ⟨s.er.put hi hσ hr, s.ow.put s.er hi hσ, gd.put s.g h0 (s.ow.l i es p hi hσ)⟩
theorem sd_swap (gd : Gd G P) (hc : X.calm = true) (i j : Nat) {x y : Str} {k1 k2 k3 k4} {p1 p2 p3 p4 p5 p6 p7 p8 p9 p10 p11 p12 p13 p14 pos : Pos} (hi : X.N[i]? = some x := by rfl) (hv : Vis X.env.scope x := by first | exact Or.inl rfl | exact Or.inr (Or.inl rfl) | exact Or.inr (Or.inr rfl)) (hj : X.N[j]? = some y := by rfl) (hw : Vis X.env.scope y := by first | exact Or.inl rfl | exact Or.inr (Or.inl rfl) | exact Or.inr (Or.inr rfl))
    (dx : (x == ("__debug__" : Str)) = false := by decide) (cx : (x == ("__classdict__" : Str)) = false := by decide) (dy : (y == ("__debug__" : Str)) = false := by decide) (cy : (y == ("__classdict__" : Str)) = false := by decide)
    (a1 : starEach [.Subscript (.Name x p1) (.Constant (.int 0) k1 p2) p3, .Subscript (.Name x p4) (.Name y p5) p6] X.env = (false, eval (.Subscript (.Name x p1) (.Constant (.int 0) k1 p2) p3) X.env) :: starEach [.Subscript (.Name x p4) (.Name y p5) p6] X.env := by rfl)
    (a2 : starEach [.Subscript (.Name x p4) (.Name y p5) p6] X.env = (false, eval (.Subscript (.Name x p4) (.Name y p5) p6) X.env) :: starEach [] X.env := by rfl)
    (hs : swapsWithSole [.Tuple [.Subscript (.Name x p7) (.Name y p8) p9, .Subscript (.Name x p10) (.Constant (.int 0) k2 p11) p12] k3 p13] (.Tuple [.Subscript (.Name x p1) (.Constant (.int 0) k1 p2) p3, .Subscript (.Name x p4) (.Name y p5) p6] k4 p14) pos.line X.env = pure false := by rfl)
    (hsw : swappedStores [.Tuple [.Subscript (.Name x p7) (.Name y p8) p9, .Subscript (.Name x p10) (.Constant (.int 0) k2 p11) p12] k3 p13] (.Tuple [.Subscript (.Name x p1) (.Constant (.int 0) k1 p2) p3, .Subscript (.Name x p4) (.Name y p5) p6] k4 p14) X.env = pure none := by rfl)
    (h1 : (assignEach [.Tuple [.Subscript (.Name x p7) (.Name y p8) p9, .Subscript (.Name x p10) (.Constant (.int 0) k2 p11) p12] k3 p13] X.env).map (·.2) = [assign (.Tuple [.Subscript (.Name x p7) (.Name y p8) p9, .Subscript (.Name x p10) (.Constant (.int 0) k2 p11) p12] k3 p13) X.env] := by rfl) :
    PS X (.Assign [.Tuple [.Subscript (.Name x p7) (.Name y p8) p9, .Subscript (.Name x p10) (.Constant (.int 0) k2 p11) p12] k3 p13] (.Tuple [.Subscript (.Name x p1) (.Constant (.int 0) k1 p2) p3, .Subscript (.Name x p4) (.Name y p5) p6] k4 p14) pos) (tS X.K W G P (sSwap i j)) := by
  refine PS.imp (ps_asg (pe_tup (pa_cons (pe_ix ix_list (pe_var hi hv dx cx) pe_int (fun _ _ => rfl)) (pa_cons (pe_ix ix_list (pe_var hi hv dx cx) (pe_var hj hw dy cy) (fun _ _ => rfl)) pa_nil a2) a1)) (pg_tup hc (pgs_cons (pg_sub (pe_var hi hv dx cx) (pe_var hj hw dy cy) set_list) (pgs_cons (pg_sub (pe_var hi hv dx cx) pe_int set_list) pgs_nil))) hs hsw h1) fun Dd σ H hyp => ?_
  obtain ⟨A, env, s, k⟩ := hyp
  rcases sSwap_ok i j env with e | ⟨ds, n, a, b, m, e1, e2, e3, e4, e5, e⟩
  · rw [e] at k
    exact k.elim
  rw [e] at k
  have k : KS X.K W G P Dd (.ok (.nx (env.set i (.ow ((ds.set m a).set 0 b))))) := k
  obtain ⟨p, vs, hσ, hp, h0, rr⟩ := s.er.ow i ds e1
  obtain ⟨vk, hσj, rk⟩ := s.er.sh j _ e2
  cases rk
  obtain ⟨va, g1, r1⟩ := atI_reps rr e3
  obtain ⟨vb, g2, r2⟩ := atI_reps rr e4
  refine ⟨.ref p, hσ, p, vs, 0, va, rfl, rfl, SqL.of hp, g1, .ref p, hσ, .int n, hσj, p, vs, n, vb, rfl, rfl, SqL.of hp, g2, by show 2 ≤ sizeLine; decide, fun t ht => ?_⟩
  have S1 : Same H (upd H t (.tup [va, vb])) := Same.new ht
  have s1 := s.grow gd (Grow.keep s.er.sub S1)
  have s2 := stt_putO gd s1 e1 hσ h0 (rr.set m r1)
  have il : i < env.length := by
    by_cases hl : i < env.length
    · exact hl
    · rw [List.getElem?_eq_none (by simpa using hl)] at e1
      cases e1
  have s3 := stt_putO gd s2 (List.getElem?_set_self il) hσ h0 ((rr.set m r1).set 0 r2)
  rw [List.set_set] at s3
  exact ⟨t, [va, vb], rfl, SqT.of upd_same, rfl, va, [vb], rfl, .ref p, hσ, .int n, hσj, p, vs, n, m, rfl, rfl, S1 _ _ hp, by rw [rr.length]; exact e5, vb, [], rfl, .ref p, hσ, p, vs.set m va, 0, 0, rfl, rfl, upd_same, atI_zero (ds := ds) e3 (by rw [List.length_set, rr.length]), rfl, k _ A _ s3⟩
end
/-! ## f() -/
theorem pd_callH0 {X : Cx} {W : WX} {k : Nat} {f : Addr} {φ : List D → Res D} {x : Str} {p pos : Pos} (F : Held X.prog X.w X.K X.mg X.base k f [] φ) (hr : Room k X.A) (tk : Takes X W) (hg : Gl X x) (hm : X.mg x = some (.ref f)) (hdb : (x == ("__debug__" : Str)) = false := by decide) :
    PE X (.Call (.Name x p) [] [] pos) (tD X.K W (eCall φ aNil)) := by
  obtain ⟨fd, F, b, kp⟩ := F
  refine ⟨fun pins s σ H Q I h => ?_⟩
  have ht : tCallS (spD X.K 0 φ) (WE W) (tDs X.K W aNil) σ H Q := t_call arge_nil h
  obtain ⟨H0, env, er, k0⟩ := ht
  have z : spD X.K 0 φ [] H Q (WE W σ) := k0 [] H0 H (Grow.refl er.sub) .nil
  refine wpAny_Call_Name_kw (ld_glob I hg hm ?_ hdb)
  exact PySem.W.callWith_K0 I.kIn kp (run_fnS (E := WE W) F hr b (passAt tk σ) I .nil z)
end Dt
namespace Dt.Ws
open PySem PySem.Spec PyProof.Rows L2 Dt He
def topS (i : Nat) : Stmt := PySem.Challenge.pw_leasttariff_k06_answers_by_hand.main.body.getD i (.Pass ⟨0, 0, 0, 0⟩)
def c_NONE : D := .tup [.int 0, .int 1]
abbrev cis (K : PySem.W.Frag) : List Addr := [ga K "Answer", ga K "Alone", ga K "Needless", ga K "Ranges", ga K "Under", ga K "Over", ga K "Most", ga K "Endless", ga K "Dear"]
abbrev at_amount (K : PySem.W.Frag) : List Addr := [ga K "Alone", ga K "Over", ga K "Most"]
abbrev at_begins (K : PySem.W.Frag) : List Addr := [ga K "Ranges"]
abbrev at_first (K : PySem.W.Frag) : List Addr := [ga K "Needless"]
abbrev at_one (K : PySem.W.Frag) : List Addr := [ga K "Needless"]
abbrev at_other (K : PySem.W.Frag) : List Addr := [ga K "Needless"]
abbrev at_place (K : PySem.W.Frag) : List Addr := [ga K "Most", ga K "Endless"]
abbrev at_places (K : PySem.W.Frag) : List Addr := [ga K "Ranges"]
abbrev at_rows (K : PySem.W.Frag) : List Addr := [ga K "Under"]
abbrev at_second (K : PySem.W.Frag) : List Addr := [ga K "Needless"]
abbrev s_is_number : Stmt := topS 5
abbrev s_is_pair : Stmt := topS 6
abbrev s_common : Stmt := topS 7
abbrev s_lowest : Stmt := topS 8
abbrev s_check_book : Stmt := topS 9
abbrev s_cost_of : Stmt := topS 10
abbrev s_is_mixture : Stmt := topS 13
abbrev s_Alone___init__ : Stmt := inClass (topS 14) 0
abbrev s_Alone_shows : Stmt := inClass (topS 14) 1
abbrev s_Needless___init__ : Stmt := inClass (topS 15) 0
abbrev s_Needless_shows : Stmt := inClass (topS 15) 1
abbrev s_Ranges___init__ : Stmt := inClass (topS 16) 0
abbrev s_Ranges_shows : Stmt := inClass (topS 16) 1
abbrev s_Ranges_is_least : Stmt := inClass (topS 16) 2
abbrev s_Under___init__ : Stmt := inClass (topS 17) 0
abbrev s_Under_shows : Stmt := inClass (topS 17) 1
abbrev s_Over___init__ : Stmt := inClass (topS 18) 0
abbrev s_Over_shows : Stmt := inClass (topS 18) 1
abbrev s_Most___init__ : Stmt := inClass (topS 19) 0
abbrev s_Most_shows : Stmt := inClass (topS 19) 1
abbrev s_Endless___init__ : Stmt := inClass (topS 20) 0
abbrev s_Endless_shows : Stmt := inClass (topS 20) 1
abbrev s_Dear_shows : Stmt := inClass (topS 21) 0
abbrev s_next_of : Stmt := topS 23
abbrev s_ranges_of : Stmt := topS 24
abbrev s_against : Stmt := topS 25
abbrev s_ranges : Stmt := topS 26
abbrev s_under : Stmt := topS 27
abbrev s__law_book : Stmt := topS 29
abbrev s__law_lowest : Stmt := topS 30
abbrev s__law_amount : Stmt := topS 31
abbrev s__law_cost : Stmt := topS 32
abbrev s__law_mixture : Stmt := topS 33
abbrev s__law_alone : Stmt := topS 34
abbrev s__law_needless : Stmt := topS 35
abbrev s__law_ranges : Stmt := topS 36
abbrev s__law_under : Stmt := topS 37
abbrev s__law_over : Stmt := topS 38
abbrev s__law_most : Stmt := topS 39
abbrev s__law_endless : Stmt := topS 40
abbrev s__law_says : Stmt := topS 41
abbrev s__law_bent : Stmt := topS 42
abbrev s__law_one_right : Stmt := topS 43
abbrev s__law_ranges_right : Stmt := topS 44
abbrev s__law_books_right : Stmt := topS 45
abbrev s__law_money_right : Stmt := topS 46
abbrev s__law_outright : Stmt := topS 47
abbrev s_law : Stmt := topS 48
/-- what the top has left -/
structure Top (K : PySem.W.Frag) (mg : Str → Option Value) : Prop where
  g_is_number : mg "is_number" = some (.ref (ga K "is_number"))
  g_is_pair : mg "is_pair" = some (.ref (ga K "is_pair"))
  g_common : mg "common" = some (.ref (ga K "common"))
  g_lowest : mg "lowest" = some (.ref (ga K "lowest"))
  g_check_book : mg "check_book" = some (.ref (ga K "check_book"))
  g_cost_of : mg "cost_of" = some (.ref (ga K "cost_of"))
  g_is_mixture : mg "is_mixture" = some (.ref (ga K "is_mixture"))
  g_next_of : mg "next_of" = some (.ref (ga K "next_of"))
  g_ranges_of : mg "ranges_of" = some (.ref (ga K "ranges_of"))
  g_against : mg "against" = some (.ref (ga K "against"))
  g_ranges : mg "ranges" = some (.ref (ga K "ranges"))
  g_under : mg "under" = some (.ref (ga K "under"))
  g__law_book : mg "_law_book" = some (.ref (ga K "_law_book"))
  g__law_lowest : mg "_law_lowest" = some (.ref (ga K "_law_lowest"))
  g__law_amount : mg "_law_amount" = some (.ref (ga K "_law_amount"))
  g__law_cost : mg "_law_cost" = some (.ref (ga K "_law_cost"))
  g__law_mixture : mg "_law_mixture" = some (.ref (ga K "_law_mixture"))
  g__law_alone : mg "_law_alone" = some (.ref (ga K "_law_alone"))
  g__law_needless : mg "_law_needless" = some (.ref (ga K "_law_needless"))
  g__law_ranges : mg "_law_ranges" = some (.ref (ga K "_law_ranges"))
  g__law_under : mg "_law_under" = some (.ref (ga K "_law_under"))
  g__law_over : mg "_law_over" = some (.ref (ga K "_law_over"))
  g__law_most : mg "_law_most" = some (.ref (ga K "_law_most"))
  g__law_endless : mg "_law_endless" = some (.ref (ga K "_law_endless"))
  g__law_says : mg "_law_says" = some (.ref (ga K "_law_says"))
  g__law_bent : mg "_law_bent" = some (.ref (ga K "_law_bent"))
  g__law_one_right : mg "_law_one_right" = some (.ref (ga K "_law_one_right"))
  g__law_ranges_right : mg "_law_ranges_right" = some (.ref (ga K "_law_ranges_right"))
  g__law_books_right : mg "_law_books_right" = some (.ref (ga K "_law_books_right"))
  g__law_money_right : mg "_law_money_right" = some (.ref (ga K "_law_money_right"))
  g__law_outright : mg "_law_outright" = some (.ref (ga K "_law_outright"))
  g_law : mg "law" = some (.ref (ga K "law"))
  g_TariffError : mg "TariffError" = some (.ref (ga K "TariffError"))
  g_BadBook : mg "BadBook" = some (.ref (ga K "BadBook"))
  g_Answer : mg "Answer" = some (.ref (ga K "Answer"))
  g_Alone : mg "Alone" = some (.ref (ga K "Alone"))
  g_Needless : mg "Needless" = some (.ref (ga K "Needless"))
  g_Ranges : mg "Ranges" = some (.ref (ga K "Ranges"))
  g_Under : mg "Under" = some (.ref (ga K "Under"))
  g_Over : mg "Over" = some (.ref (ga K "Over"))
  g_Most : mg "Most" = some (.ref (ga K "Most"))
  g_Endless : mg "Endless" = some (.ref (ga K "Endless"))
  g_Dear : mg "Dear" = some (.ref (ga K "Dear"))
  g_NONE : mg "NONE" = some (.ref (ga K "NONE"))
  k_NONE : ∀ H, Rep K H (.ref (ga K "NONE")) c_NONE
  b_all : mg "all" = none
  b_any : mg "any" = none
  b_bool : mg "bool" = none
  b_enumerate : mg "enumerate" = none
  b_int : mg "int" = none
  b_isinstance : mg "isinstance" = none
  b_len : mg "len" = none
  b_list : mg "list" = none
  b_max : mg "max" = none
  b_min : mg "min" = none
  b_range : mg "range" = none
  b_sum : mg "sum" = none
  b_tuple : mg "tuple" = none
  b_zip : mg "zip" = none
  ci : ∀ C ∈ cis K, CI K C
  at_amount : ∀ C ∈ at_amount K, Cls K C ∧ NoAttr K C "amount"
  at_begins : ∀ C ∈ at_begins K, Cls K C ∧ NoAttr K C "begins"
  at_first : ∀ C ∈ at_first K, Cls K C ∧ NoAttr K C "first"
  at_one : ∀ C ∈ at_one K, Cls K C ∧ NoAttr K C "one"
  at_other : ∀ C ∈ at_other K, Cls K C ∧ NoAttr K C "other"
  at_place : ∀ C ∈ at_place K, Cls K C ∧ NoAttr K C "place"
  at_places : ∀ C ∈ at_places K, Cls K C ∧ NoAttr K C "places"
  at_rows : ∀ C ∈ at_rows K, Cls K C ∧ NoAttr K C "rows"
  at_second : ∀ C ∈ at_second K, Cls K C ∧ NoAttr K C "second"
  c_Alone : Cls K (ga K "Alone")
  c_Dear : Cls K (ga K "Dear")
  c_Endless : Cls K (ga K "Endless")
  c_Most : Cls K (ga K "Most")
  c_Needless : Cls K (ga K "Needless")
  c_Over : Cls K (ga K "Over")
  c_Ranges : Cls K (ga K "Ranges")
  c_Under : Cls K (ga K "Under")
  k_Alone : Mk K (ga K "Alone") (ma K (ga K "Alone") "__init__")
  k_Endless : Mk K (ga K "Endless") (ma K (ga K "Endless") "__init__")
  k_Most : Mk K (ga K "Most") (ma K (ga K "Most") "__init__")
  k_Needless : Mk K (ga K "Needless") (ma K (ga K "Needless") "__init__")
  k_Over : Mk K (ga K "Over") (ma K (ga K "Over") "__init__")
  k_Ranges : Mk K (ga K "Ranges") (ma K (ga K "Ranges") "__init__")
  k_Under : Mk K (ga K "Under") (ma K (ga K "Under") "__init__")
  k_Dear : Mk0 K (ga K "Dear")
  m_Alone_shows : Meth K (ga K "Alone") "shows" (ma K (ga K "Alone") "shows")
  m_Dear_shows : Meth K (ga K "Dear") "shows" (ma K (ga K "Dear") "shows")
  m_Endless_shows : Meth K (ga K "Endless") "shows" (ma K (ga K "Endless") "shows")
  m_Most_shows : Meth K (ga K "Most") "shows" (ma K (ga K "Most") "shows")
  m_Needless_shows : Meth K (ga K "Needless") "shows" (ma K (ga K "Needless") "shows")
  m_Over_shows : Meth K (ga K "Over") "shows" (ma K (ga K "Over") "shows")
  m_Ranges_is_least : Meth K (ga K "Ranges") "is_least" (ma K (ga K "Ranges") "is_least")
  m_Ranges_shows : Meth K (ga K "Ranges") "shows" (ma K (ga K "Ranges") "shows")
  m_Under_shows : Meth K (ga K "Under") "shows" (ma K (ga K "Under") "shows")
  i_Under_Under : PySem.W.kitOne K (.ref (ga K "Under")) (.ref (ga K "Under")) = some true
  i_Over_Under : PySem.W.kitOne K (.ref (ga K "Over")) (.ref (ga K "Under")) = some false
  d_is_number : ∃ fd, L2.FunD K "is_number" "is_number" (defArgs s_is_number) (defBody s_is_number) (defScope s_is_number) [] [] (ga K "is_number") fd
  d_is_pair : ∃ fd, L2.FunD K "is_pair" "is_pair" (defArgs s_is_pair) (defBody s_is_pair) (defScope s_is_pair) [] [] (ga K "is_pair") fd
  d_common : ∃ fd, L2.FunD K "common" "common" (defArgs s_common) (defBody s_common) (defScope s_common) [] [] (ga K "common") fd
  d_lowest : ∃ fd, L2.FunD K "lowest" "lowest" (defArgs s_lowest) (defBody s_lowest) (defScope s_lowest) [] [] (ga K "lowest") fd
  d_check_book : ∃ fd, L2.FunD K "check_book" "check_book" (defArgs s_check_book) (defBody s_check_book) (defScope s_check_book) [] [] (ga K "check_book") fd
  d_cost_of : ∃ fd, L2.FunD K "cost_of" "cost_of" (defArgs s_cost_of) (defBody s_cost_of) (defScope s_cost_of) [] [] (ga K "cost_of") fd
  d_is_mixture : ∃ fd, L2.FunD K "is_mixture" "is_mixture" (defArgs s_is_mixture) (defBody s_is_mixture) (defScope s_is_mixture) [] [] (ga K "is_mixture") fd
  d_Alone___init__ : ∃ fd, L2.FunD K "__init__" "Alone.__init__" (defArgs s_Alone___init__) (defBody s_Alone___init__) (defScope s_Alone___init__) [] [] (ma K (ga K "Alone") "__init__") fd
  d_Alone_shows : ∃ fd, L2.FunD K "shows" "Alone.shows" (defArgs s_Alone_shows) (defBody s_Alone_shows) (defScope s_Alone_shows) [] [] (ma K (ga K "Alone") "shows") fd
  d_Needless___init__ : ∃ fd, L2.FunD K "__init__" "Needless.__init__" (defArgs s_Needless___init__) (defBody s_Needless___init__) (defScope s_Needless___init__) [] [] (ma K (ga K "Needless") "__init__") fd
  d_Needless_shows : ∃ fd, L2.FunD K "shows" "Needless.shows" (defArgs s_Needless_shows) (defBody s_Needless_shows) (defScope s_Needless_shows) [] [] (ma K (ga K "Needless") "shows") fd
  d_Ranges___init__ : ∃ fd, L2.FunD K "__init__" "Ranges.__init__" (defArgs s_Ranges___init__) (defBody s_Ranges___init__) (defScope s_Ranges___init__) [] [] (ma K (ga K "Ranges") "__init__") fd
  d_Ranges_shows : ∃ fd, L2.FunD K "shows" "Ranges.shows" (defArgs s_Ranges_shows) (defBody s_Ranges_shows) (defScope s_Ranges_shows) [] [] (ma K (ga K "Ranges") "shows") fd
  d_Ranges_is_least : ∃ fd, L2.FunD K "is_least" "Ranges.is_least" (defArgs s_Ranges_is_least) (defBody s_Ranges_is_least) (defScope s_Ranges_is_least) [] [] (ma K (ga K "Ranges") "is_least") fd
  d_Under___init__ : ∃ fd, L2.FunD K "__init__" "Under.__init__" (defArgs s_Under___init__) (defBody s_Under___init__) (defScope s_Under___init__) [] [] (ma K (ga K "Under") "__init__") fd
  d_Under_shows : ∃ fd, L2.FunD K "shows" "Under.shows" (defArgs s_Under_shows) (defBody s_Under_shows) (defScope s_Under_shows) [] [] (ma K (ga K "Under") "shows") fd
  d_Over___init__ : ∃ fd, L2.FunD K "__init__" "Over.__init__" (defArgs s_Over___init__) (defBody s_Over___init__) (defScope s_Over___init__) [] [] (ma K (ga K "Over") "__init__") fd
  d_Over_shows : ∃ fd, L2.FunD K "shows" "Over.shows" (defArgs s_Over_shows) (defBody s_Over_shows) (defScope s_Over_shows) [] [] (ma K (ga K "Over") "shows") fd
  d_Most___init__ : ∃ fd, L2.FunD K "__init__" "Most.__init__" (defArgs s_Most___init__) (defBody s_Most___init__) (defScope s_Most___init__) [] [] (ma K (ga K "Most") "__init__") fd
  d_Most_shows : ∃ fd, L2.FunD K "shows" "Most.shows" (defArgs s_Most_shows) (defBody s_Most_shows) (defScope s_Most_shows) [] [] (ma K (ga K "Most") "shows") fd
  d_Endless___init__ : ∃ fd, L2.FunD K "__init__" "Endless.__init__" (defArgs s_Endless___init__) (defBody s_Endless___init__) (defScope s_Endless___init__) [] [] (ma K (ga K "Endless") "__init__") fd
  d_Endless_shows : ∃ fd, L2.FunD K "shows" "Endless.shows" (defArgs s_Endless_shows) (defBody s_Endless_shows) (defScope s_Endless_shows) [] [] (ma K (ga K "Endless") "shows") fd
  d_Dear_shows : ∃ fd, L2.FunD K "shows" "Dear.shows" (defArgs s_Dear_shows) (defBody s_Dear_shows) (defScope s_Dear_shows) [] [] (ma K (ga K "Dear") "shows") fd
  d_next_of : ∃ fd, L2.FunD K "next_of" "next_of" (defArgs s_next_of) (defBody s_next_of) (defScope s_next_of) [] [] (ga K "next_of") fd
  d_ranges_of : ∃ fd, L2.FunD K "ranges_of" "ranges_of" (defArgs s_ranges_of) (defBody s_ranges_of) (defScope s_ranges_of) [] [] (ga K "ranges_of") fd
  d_against : ∃ fd, L2.FunD K "against" "against" (defArgs s_against) (defBody s_against) (defScope s_against) [] [] (ga K "against") fd
  d_ranges : ∃ fd, L2.FunD K "ranges" "ranges" (defArgs s_ranges) (defBody s_ranges) (defScope s_ranges) [] [] (ga K "ranges") fd
  d_under : ∃ fd, L2.FunD K "under" "under" (defArgs s_under) (defBody s_under) (defScope s_under) [] [] (ga K "under") fd
  d__law_book : ∃ fd, L2.FunD K "_law_book" "_law_book" (defArgs s__law_book) (defBody s__law_book) (defScope s__law_book) [] [] (ga K "_law_book") fd
  d__law_lowest : ∃ fd, L2.FunD K "_law_lowest" "_law_lowest" (defArgs s__law_lowest) (defBody s__law_lowest) (defScope s__law_lowest) [] [] (ga K "_law_lowest") fd
  d__law_amount : ∃ fd, L2.FunD K "_law_amount" "_law_amount" (defArgs s__law_amount) (defBody s__law_amount) (defScope s__law_amount) [] [] (ga K "_law_amount") fd
  d__law_cost : ∃ fd, L2.FunD K "_law_cost" "_law_cost" (defArgs s__law_cost) (defBody s__law_cost) (defScope s__law_cost) [] [] (ga K "_law_cost") fd
  d__law_mixture : ∃ fd, L2.FunD K "_law_mixture" "_law_mixture" (defArgs s__law_mixture) (defBody s__law_mixture) (defScope s__law_mixture) [] [] (ga K "_law_mixture") fd
  d__law_alone : ∃ fd, L2.FunD K "_law_alone" "_law_alone" (defArgs s__law_alone) (defBody s__law_alone) (defScope s__law_alone) [] [] (ga K "_law_alone") fd
  d__law_needless : ∃ fd, L2.FunD K "_law_needless" "_law_needless" (defArgs s__law_needless) (defBody s__law_needless) (defScope s__law_needless) [] [] (ga K "_law_needless") fd
  d__law_ranges : ∃ fd, L2.FunD K "_law_ranges" "_law_ranges" (defArgs s__law_ranges) (defBody s__law_ranges) (defScope s__law_ranges) [] [] (ga K "_law_ranges") fd
  d__law_under : ∃ fd, L2.FunD K "_law_under" "_law_under" (defArgs s__law_under) (defBody s__law_under) (defScope s__law_under) [] [] (ga K "_law_under") fd
  d__law_over : ∃ fd, L2.FunD K "_law_over" "_law_over" (defArgs s__law_over) (defBody s__law_over) (defScope s__law_over) [] [] (ga K "_law_over") fd
  d__law_most : ∃ fd, L2.FunD K "_law_most" "_law_most" (defArgs s__law_most) (defBody s__law_most) (defScope s__law_most) [] [] (ga K "_law_most") fd
  d__law_endless : ∃ fd, L2.FunD K "_law_endless" "_law_endless" (defArgs s__law_endless) (defBody s__law_endless) (defScope s__law_endless) [] [] (ga K "_law_endless") fd
  d__law_says : ∃ fd, L2.FunD K "_law_says" "_law_says" (defArgs s__law_says) (defBody s__law_says) (defScope s__law_says) [] [] (ga K "_law_says") fd
  d__law_bent : ∃ fd, L2.FunD K "_law_bent" "_law_bent" (defArgs s__law_bent) (defBody s__law_bent) (defScope s__law_bent) [] [] (ga K "_law_bent") fd
  d__law_one_right : ∃ fd, L2.FunD K "_law_one_right" "_law_one_right" (defArgs s__law_one_right) (defBody s__law_one_right) (defScope s__law_one_right) [] [] (ga K "_law_one_right") fd
  d__law_ranges_right : ∃ fd, L2.FunD K "_law_ranges_right" "_law_ranges_right" (defArgs s__law_ranges_right) (defBody s__law_ranges_right) (defScope s__law_ranges_right) [] [] (ga K "_law_ranges_right") fd
  d__law_books_right : ∃ fd, L2.FunD K "_law_books_right" "_law_books_right" (defArgs s__law_books_right) (defBody s__law_books_right) (defScope s__law_books_right) [] [] (ga K "_law_books_right") fd
  d__law_money_right : ∃ fd, L2.FunD K "_law_money_right" "_law_money_right" (defArgs s__law_money_right) (defBody s__law_money_right) (defScope s__law_money_right) [] [] (ga K "_law_money_right") fd
  d__law_outright : ∃ fd, L2.FunD K "_law_outright" "_law_outright" (defArgs s__law_outright) (defBody s__law_outright) (defScope s__law_outright) [] [] (ga K "_law_outright") fd
  d_law : ∃ fd, L2.FunD K "law" "law" (defArgs s_law) (defBody s_law) (defScope s_law) [] [] (ga K "law") fd
theorem isi_Under_Under {K : PySem.W.Frag} {mg : Str → Option Value} (T : Top K mg) {fs : Fs} : isiD K (cis K) [.ins (ga K "Under") fs, .cls (ga K "Under")] = some (.bl true) := isi_own (by simp) T.i_Under_Under
theorem isi_Over_Under {K : PySem.W.Frag} {mg : Str → Option Value} (T : Top K mg) {fs : Fs} : isiD K (cis K) [.ins (ga K "Over") fs, .cls (ga K "Under")] = some (.bl false) := isi_own (by simp) T.i_Over_Under
/-! is_number -/
abbrev N_is_number : List Str := ["thing", "least"]
theorem sc_is_number : FnScope N_is_number ["thing", "least"] (defScope s_is_number) := ⟨rfl, rfl, rfl, by decide +kernel, rfl, by decide +kernel, by decide +kernel⟩
def g_is_number (K : PySem.W.Frag) : Env → Res Fl :=
    (sRet (eB (bAnd (bV (eFn (isiD K (cis K)) (aCons (eVar 0) (aCons (eC (.ty "int")) aNil)))) (bAnd (bNot (bV (eFn (isiD K (cis K)) (aCons (eVar 0) (aCons (eC (.ty "bool")) aNil))))) (bV (eOp geD (eVar 0) (eVar 1)))))))
def f_is_number (K : PySem.W.Frag) : List D → Res D := run 2 (g_is_number K)
theorem okF_is_number {P : Program} {w : World} {K : PySem.W.Frag} {mg : Str → Option Value} {base : Heap} (T : Top K mg) {fd : FuncData} (F : L2.FunD K "is_number" "is_number" (defArgs s_is_number) (defBody s_is_number) (defScope s_is_number) [] [] (ga K "is_number") fd) : FnOk P w K mg base (L2.CX P w) 1 (ga K "is_number") fd ["thing", "least"] (spD K 2 (f_is_number K)) := by
  refine fn_dt (N := N_is_number) F sc_is_number (fun cdv A outer s H E G P' hr gd => ?_)
  have nd := sc_is_number.nd
  have tk := takes_of (X := cxOf (L2.CX P w) P w K mg base N_is_number "is_number" (defScope s_is_number) (ga K "is_number") cdv A outer s H E) rfl rfl rfl rfl
  have pow := passes_of (X := cxOf (L2.CX P w) P w K mg base N_is_number "is_number" (defScope s_is_number) (ga K "is_number") cdv A outer s H E) rfl
  exact (sd_one (sd_ret gd (pd_and (pd_eB (pd_isi T.ci (by rfl) T.b_isinstance (pad_cons (pd_var 0) (pad_cons (pd_bty (by rfl) T.b_int (by decide +kernel)) pad_nil)))) (pd_and (pd_not (pd_eB (pd_isi T.ci (by rfl) T.b_isinstance (pad_cons (pd_var 0) (pad_cons (pd_bty (by rfl) T.b_bool (by decide +kernel)) pad_nil))))) (pd_one (pd_eB (pd_ge (pd_var 0) (pd_var 1))))))))
theorem ok_is_number {P : Program} {w : World} {K : PySem.W.Frag} {mg : Str → Option Value} {base : Heap} (T : Top K mg) : Held P w K mg base 1 (ga K "is_number") ["thing", "least"] (f_is_number K) := by
  obtain ⟨fd, F⟩ := T.d_is_number
  exact ⟨fd, okF_is_number T F, F.bindsN fun _ _ _ _ _ _ us hl => match us, hl with | [_, _], _ => rfl, F.kp⟩
/-! is_pair -/
abbrev N_is_pair : List Str := ["thing", "least"]
theorem sc_is_pair : FnScope N_is_pair ["thing", "least"] (defScope s_is_pair) := ⟨rfl, rfl, rfl, by decide +kernel, rfl, by decide +kernel, by decide +kernel⟩
def g_is_pair (K : PySem.W.Frag) : Env → Res Fl :=
    (sRet (eB (bAnd (bV (eFn (isiD K (cis K)) (aCons (eVar 0) (aCons (eC (.ty "tuple")) aNil)))) (bAnd (bV (eOp eqD (eFn lenD (aCons (eVar 0) aNil)) (eC (.int 2)))) (bAnd (bV (eCall (f_is_number K) (aCons (eOp ixD (eVar 0) (eC (.int 0))) (aCons (eC (.int 0)) aNil)))) (bV (eCall (f_is_number K) (aCons (eOp ixD (eVar 0) (eC (.int 1))) (aCons (eVar 1) aNil)))))))))
def f_is_pair (K : PySem.W.Frag) : List D → Res D := run 2 (g_is_pair K)
theorem okF_is_pair {P : Program} {w : World} {K : PySem.W.Frag} {mg : Str → Option Value} {base : Heap} (T : Top K mg) {fd : FuncData} (F : L2.FunD K "is_pair" "is_pair" (defArgs s_is_pair) (defBody s_is_pair) (defScope s_is_pair) [] [] (ga K "is_pair") fd) : FnOk P w K mg base (L2.CX P w) 2 (ga K "is_pair") fd ["thing", "least"] (spD K 2 (f_is_pair K)) := by
  refine fn_dt (N := N_is_pair) F sc_is_pair (fun cdv A outer s H E G P' hr gd => ?_)
  have nd := sc_is_pair.nd
  have tk := takes_of (X := cxOf (L2.CX P w) P w K mg base N_is_pair "is_pair" (defScope s_is_pair) (ga K "is_pair") cdv A outer s H E) rfl rfl rfl rfl
  have pow := passes_of (X := cxOf (L2.CX P w) P w K mg base N_is_pair "is_pair" (defScope s_is_pair) (ga K "is_pair") cdv A outer s H E) rfl
  exact (sd_one (sd_ret gd (pd_and (pd_eB (pd_isi T.ci (by rfl) T.b_isinstance (pad_cons (pd_var 0) (pad_cons (pd_bty (by rfl) T.b_tuple (by decide +kernel)) pad_nil)))) (pd_and (pd_eB (pd_eq hr.units (pd_len (by rfl) T.b_len (pad_cons (pd_var 0) pad_nil)) pd_int)) (pd_and (pd_eB (pd_callH (ok_is_number T) (hr.mono (by decide)) tk (by rfl) T.g_is_number (pad_cons (pd_sub' (pd_var 0) pd_int) (pad_cons pd_int pad_nil)) (arge_cons (arge_cons arge_nil)))) (pd_one (pd_eB (pd_callH (ok_is_number T) (hr.mono (by decide)) tk (by rfl) T.g_is_number (pad_cons (pd_sub' (pd_var 0) pd_int) (pad_cons (pd_var 1) pad_nil)) (arge_cons (arge_cons arge_nil))))))))))
theorem ok_is_pair {P : Program} {w : World} {K : PySem.W.Frag} {mg : Str → Option Value} {base : Heap} (T : Top K mg) : Held P w K mg base 2 (ga K "is_pair") ["thing", "least"] (f_is_pair K) := by
  obtain ⟨fd, F⟩ := T.d_is_pair
  exact ⟨fd, okF_is_pair T F, F.bindsN fun _ _ _ _ _ _ us hl => match us, hl with | [_, _], _ => rfl, F.kp⟩
/-! common -/
abbrev N_common : List Str := ["one", "other"]
theorem sc_common : FnScope N_common ["one", "other"] (defScope s_common) := ⟨rfl, rfl, rfl, by decide +kernel, rfl, by decide +kernel, by decide +kernel⟩
def g_common (K : PySem.W.Frag) : Env → Res Fl :=
    (sSeq (sWhile (fun env => Dt.fuel 1 env) (bV (eOp gtD (eVar 1) (eC (.int 0)))) (sPar 0 1 (aCons (eVar 1) (aCons (eOp modD (eVar 0) (eVar 1)) aNil))))
    (sRet (eVar 0)))
def f_common (K : PySem.W.Frag) : List D → Res D := run 2 (g_common K)
theorem okF_common {P : Program} {w : World} {K : PySem.W.Frag} {mg : Str → Option Value} {base : Heap} (T : Top K mg) {fd : FuncData} (F : L2.FunD K "common" "common" (defArgs s_common) (defBody s_common) (defScope s_common) [] [] (ga K "common") fd) : FnOk P w K mg base (L2.CX P w) 1 (ga K "common") fd ["one", "other"] (spD K 2 (f_common K)) := by
  refine fn_dt (N := N_common) F sc_common (fun cdv A outer s H E G P' hr gd => ?_)
  have nd := sc_common.nd
  have tk := takes_of (X := cxOf (L2.CX P w) P w K mg base N_common "common" (defScope s_common) (ga K "common") cdv A outer s H E) rfl rfl rfl rfl
  have pow := passes_of (X := cxOf (L2.CX P w) P w K mg base N_common "common" (defScope s_common) (ga K "common") cdv A outer s H E) rfl
  exact (sd_cons (sd_while gd (fun env => Dt.fuel 1 env) pow (pt_gt (pd_var 1) pd_int) (sd_one (sd_par gd (i := 0) (j := 1) rfl nd (pad_cons (pd_var 1) (pad_cons (pd_mod (pd_var 0) (pd_var 1)) pad_nil)))))
      (sd_one (sd_ret gd (pd_var 0))))
theorem ok_common {P : Program} {w : World} {K : PySem.W.Frag} {mg : Str → Option Value} {base : Heap} (T : Top K mg) : Held P w K mg base 1 (ga K "common") ["one", "other"] (f_common K) := by
  obtain ⟨fd, F⟩ := T.d_common
  exact ⟨fd, okF_common T F, F.bindsN fun _ _ _ _ _ _ us hl => match us, hl with | [_, _], _ => rfl, F.kp⟩
/-! lowest -/
abbrev N_lowest : List Str := ["above", "below", "by"]
theorem sc_lowest : FnScope N_lowest ["above", "below"] (defScope s_lowest) := ⟨rfl, rfl, rfl, by decide +kernel, rfl, by decide +kernel, by decide +kernel⟩
def g_lowest (K : PySem.W.Frag) : Env → Res Fl :=
    (sSeq (sAsg (eCall (f_common K) (aCons (eVar 0) (aCons (eVar 1) aNil))) (bNm 2))
    (sRet (eTup (aCons (eOp divD (eVar 0) (eVar 2)) (aCons (eOp divD (eVar 1) (eVar 2)) aNil)))))
def f_lowest (K : PySem.W.Frag) : List D → Res D := run 3 (g_lowest K)
theorem okF_lowest {P : Program} {w : World} {K : PySem.W.Frag} {mg : Str → Option Value} {base : Heap} (T : Top K mg) {fd : FuncData} (F : L2.FunD K "lowest" "lowest" (defArgs s_lowest) (defBody s_lowest) (defScope s_lowest) [] [] (ga K "lowest") fd) : FnOk P w K mg base (L2.CX P w) 2 (ga K "lowest") fd ["above", "below"] (spD K 2 (f_lowest K)) := by
  refine fn_dt (N := N_lowest) F sc_lowest (fun cdv A outer s H E G P' hr gd => ?_)
  have nd := sc_lowest.nd
  have tk := takes_of (X := cxOf (L2.CX P w) P w K mg base N_lowest "lowest" (defScope s_lowest) (ga K "lowest") cdv A outer s H E) rfl rfl rfl rfl
  have pow := passes_of (X := cxOf (L2.CX P w) P w K mg base N_lowest "lowest" (defScope s_lowest) (ga K "lowest") cdv A outer s H E) rfl
  exact (sd_cons (sd_set gd (i := 2) nd (pd_callH (ok_common T) (hr.mono (by decide)) tk (by rfl) T.g_common (pad_cons (pd_var 0) (pad_cons (pd_var 1) pad_nil)) (arge_cons (arge_cons arge_nil))))
      (sd_one (sd_ret gd (pd_tup (pad_cons (pd_div (pd_var 0) (pd_var 2)) (pad_cons (pd_div (pd_var 1) (pd_var 2)) pad_nil)) (arge_cons (arge_cons arge_nil)).le))))
theorem ok_lowest {P : Program} {w : World} {K : PySem.W.Frag} {mg : Str → Option Value} {base : Heap} (T : Top K mg) : Held P w K mg base 2 (ga K "lowest") ["above", "below"] (f_lowest K) := by
  obtain ⟨fd, F⟩ := T.d_lowest
  exact ⟨fd, okF_lowest T F, F.bindsN fun _ _ _ _ _ _ us hl => match us, hl with | [_, _], _ => rfl, F.kp⟩
/-! check_book -/
abbrev N_check_book : List Str := ["book", "tariff"]
theorem sc_check_book : FnScope N_check_book ["book"] (defScope s_check_book) := ⟨rfl, rfl, rfl, by decide +kernel, rfl, by decide +kernel, by decide +kernel⟩
def g_check_book (K : PySem.W.Frag) : Env → Res Fl :=
    (sIf (bOr (bNot (bV (eFn (isiD K (cis K)) (aCons (eVar 0) (aCons (eC (.ty "list")) aNil))))) (bOr (bV (eOp eqD (eVar 0) (eLst aNil))) (bNot (bV (eFn allD (aCons (eLC [1] (bNm 1) bYes (eCall (f_is_pair K) (aCons (eVar 1) (aCons (eC (.int 0)) aNil))) (iL (eVar 0))) aNil)))))) sNever sNil)
def f_check_book (K : PySem.W.Frag) : List D → Res D := run 2 (g_check_book K)
theorem okF_check_book {P : Program} {w : World} {K : PySem.W.Frag} {mg : Str → Option Value} {base : Heap} (T : Top K mg) {fd : FuncData} (F : L2.FunD K "check_book" "check_book" (defArgs s_check_book) (defBody s_check_book) (defScope s_check_book) [] [] (ga K "check_book") fd) : FnOk P w K mg base (L2.CX P w) 3 (ga K "check_book") fd ["book"] (spD K 1 (f_check_book K)) := by
  refine fn_dt (N := N_check_book) F sc_check_book (fun cdv A outer s H E G P' hr gd => ?_)
  have nd := sc_check_book.nd
  have tk := takes_of (X := cxOf (L2.CX P w) P w K mg base N_check_book "check_book" (defScope s_check_book) (ga K "check_book") cdv A outer s H E) rfl rfl rfl rfl
  have pow := passes_of (X := cxOf (L2.CX P w) P w K mg base N_check_book "check_book" (defScope s_check_book) (ga K "check_book") cdv A outer s H E) rfl
  exact (sd_one (sd_if gd (PW.pt (pwd_or (ptd_not (pt_v (pd_isi T.ci (by rfl) T.b_isinstance (pad_cons (pd_var 0) (pad_cons (pd_bty (by rfl) T.b_list (by decide +kernel)) pad_nil))))) (pwd_or (pt_eq hr.units (pd_var 0) (pd_lst pad_nil arge_nil.le)) (pwd_or1 (ptd_not (pt_v (pd_all (by rfl) (by rfl) T.b_all (pad_cons (pd_lc (own := [("tariff", 1)]) (by rfl) nd (id_list (pd_var 0)) (blkOk_by (own := [("tariff", 1)]) (N := N_check_book) (sc := defScope s_check_book) (by decide +kernel)) (by decide) (fun _ _ _ _ _ => (gd_name (i := 1) nd)) (fun _ _ _ _ _ => ptsd_nil) (fun _ _ _ _ _ => (pd_callH (ok_is_pair T) (hr.mono (by decide)) takes0 (by rfl) T.g_is_pair (pad_cons (pd_var 1) (pad_cons pd_int pad_nil)) (arge_cons (arge_cons arge_nil))))) pad_nil)))))))) (sd_one sd_never) sd_nil))
theorem ok_check_book {P : Program} {w : World} {K : PySem.W.Frag} {mg : Str → Option Value} {base : Heap} (T : Top K mg) : Held P w K mg base 3 (ga K "check_book") ["book"] (f_check_book K) := by
  obtain ⟨fd, F⟩ := T.d_check_book
  exact ⟨fd, okF_check_book T F, F.bindsN fun _ _ _ _ _ _ us hl => match us, hl with | [_], _ => rfl, F.kp⟩
/-! cost_of -/
abbrev N_cost_of : List Str := ["tariff", "amount"]
theorem sc_cost_of : FnScope N_cost_of ["tariff", "amount"] (defScope s_cost_of) := ⟨rfl, rfl, rfl, by decide +kernel, rfl, by decide +kernel, by decide +kernel⟩
def g_cost_of (K : PySem.W.Frag) : Env → Res Fl :=
    (sRet (eOp addD (eOp mulD (eOp ixD (eVar 0) (eC (.int 0))) (eOp ixD (eVar 1) (eC (.int 1)))) (eOp mulD (eOp ixD (eVar 0) (eC (.int 1))) (eOp ixD (eVar 1) (eC (.int 0))))))
def f_cost_of (K : PySem.W.Frag) : List D → Res D := run 2 (g_cost_of K)
theorem okF_cost_of {P : Program} {w : World} {K : PySem.W.Frag} {mg : Str → Option Value} {base : Heap} (T : Top K mg) {fd : FuncData} (F : L2.FunD K "cost_of" "cost_of" (defArgs s_cost_of) (defBody s_cost_of) (defScope s_cost_of) [] [] (ga K "cost_of") fd) : FnOk P w K mg base (L2.CX P w) 1 (ga K "cost_of") fd ["tariff", "amount"] (spD K 2 (f_cost_of K)) := by
  refine fn_dt (N := N_cost_of) F sc_cost_of (fun cdv A outer s H E G P' hr gd => ?_)
  have nd := sc_cost_of.nd
  have tk := takes_of (X := cxOf (L2.CX P w) P w K mg base N_cost_of "cost_of" (defScope s_cost_of) (ga K "cost_of") cdv A outer s H E) rfl rfl rfl rfl
  have pow := passes_of (X := cxOf (L2.CX P w) P w K mg base N_cost_of "cost_of" (defScope s_cost_of) (ga K "cost_of") cdv A outer s H E) rfl
  exact (sd_one (sd_ret gd (pd_add (pd_mul (pd_sub' (pd_var 0) pd_int) (pd_sub' (pd_var 1) pd_int)) (pd_mul (pd_sub' (pd_var 0) pd_int) (pd_sub' (pd_var 1) pd_int)))))
theorem ok_cost_of {P : Program} {w : World} {K : PySem.W.Frag} {mg : Str → Option Value} {base : Heap} (T : Top K mg) : Held P w K mg base 1 (ga K "cost_of") ["tariff", "amount"] (f_cost_of K) := by
  obtain ⟨fd, F⟩ := T.d_cost_of
  exact ⟨fd, okF_cost_of T F, F.bindsN fun _ _ _ _ _ _ us hl => match us, hl with | [_, _], _ => rfl, F.kp⟩
/-! is_mixture -/
abbrev N_is_mixture : List Str := ["book", "row", "tariff", "one", "other", "first", "second", "whole", "k"]
theorem sc_is_mixture : FnScope N_is_mixture ["book", "row", "tariff"] (defScope s_is_mixture) := ⟨rfl, rfl, rfl, by decide +kernel, rfl, by decide +kernel, by decide +kernel⟩
def g_is_mixture (K : PySem.W.Frag) : Env → Res Fl :=
    (sSeq (sAsg (eVar 1) (bTup (bsCons (bNm 3) (bsCons (bNm 4) (bsCons (bNm 5) (bsCons (bNm 6) bsNil))))))
    (sSeq (sIf (bOr (bNot (bV (eChain leD ltD (eC (.int 0)) (eVar 3) (eFn lenD (aCons (eVar 0) aNil))))) (bOr (bNot (bV (eChain leD ltD (eC (.int 0)) (eVar 4) (eFn lenD (aCons (eVar 0) aNil))))) (bOr (bV (eOp ltD (eFn minD (aCons (eVar 5) (aCons (eVar 6) aNil))) (eC (.int 0)))) (bV (eOp ltD (eFn maxD (aCons (eVar 5) (aCons (eVar 6) aNil))) (eC (.int 1))))))) (sRet (eC (.bl false))) sNil)
    (sSeq (sAsg (eOp addD (eVar 5) (eVar 6)) (bNm 7))
    (sRet (eFn allD (aCons (eLC [8] (bNm 8) bYes (eOp leD (eOp addD (eOp mulD (eVar 5) (eOp ixD (eOp ixD (eVar 0) (eVar 3)) (eVar 8))) (eOp mulD (eVar 6) (eOp ixD (eOp ixD (eVar 0) (eVar 4)) (eVar 8)))) (eOp mulD (eVar 7) (eOp ixD (eVar 2) (eVar 8)))) (iT (eTup (aCons (eC (.int 0)) (aCons (eC (.int 1)) aNil))))) aNil))))))
def f_is_mixture (K : PySem.W.Frag) : List D → Res D := run 9 (g_is_mixture K)
theorem okF_is_mixture {P : Program} {w : World} {K : PySem.W.Frag} {mg : Str → Option Value} {base : Heap} (T : Top K mg) {fd : FuncData} (F : L2.FunD K "is_mixture" "is_mixture" (defArgs s_is_mixture) (defBody s_is_mixture) (defScope s_is_mixture) [] [] (ga K "is_mixture") fd) : FnOk P w K mg base (L2.CX P w) 1 (ga K "is_mixture") fd ["book", "row", "tariff"] (spD K 3 (f_is_mixture K)) := by
  refine fn_dt (N := N_is_mixture) F sc_is_mixture (fun cdv A outer s H E G P' hr gd => ?_)
  have nd := sc_is_mixture.nd
  have tk := takes_of (X := cxOf (L2.CX P w) P w K mg base N_is_mixture "is_mixture" (defScope s_is_mixture) (ga K "is_mixture") cdv A outer s H E) rfl rfl rfl rfl
  have pow := passes_of (X := cxOf (L2.CX P w) P w K mg base N_is_mixture "is_mixture" (defScope s_is_mixture) (ga K "is_mixture") cdv A outer s H E) rfl
  exact (sd_cons (sd_asg gd (pd_var 1) (gd_tup rfl (gds_cons (gd_name (i := 3) nd) (gds_cons (gd_name (i := 4) nd) (gds_cons (gd_name (i := 5) nd) (gds_cons (gd_name (i := 6) nd) gds_nil)))) (btn_cons (btn_cons (btn_cons (btn_cons btn_nil))))))
      (sd_cons (sd_if gd (PW.pt (pwd_or (ptd_not (pt_chLL pd_int (pd_var 3) (pd_len (by rfl) T.b_len (pad_cons (pd_var 0) pad_nil)))) (pwd_or (ptd_not (pt_chLL pd_int (pd_var 4) (pd_len (by rfl) T.b_len (pad_cons (pd_var 0) pad_nil)))) (pwd_or (pt_lt (pd_min (by rfl) (by rfl) T.b_min (pad_cons (pd_var 5) (pad_cons (pd_var 6) pad_nil))) pd_int) (pwd_or1 (pt_lt (pd_max (by rfl) (by rfl) T.b_max (pad_cons (pd_var 5) (pad_cons (pd_var 6) pad_nil))) pd_int)))))) (sd_one (sd_ret gd pd_bl)) sd_nil)
      (sd_cons (sd_set gd (i := 7) nd (pd_add (pd_var 5) (pd_var 6)))
      (sd_one (sd_ret gd (pd_all (by rfl) (by rfl) T.b_all (pad_cons (pd_lc (own := [("k", 8)]) (by rfl) nd (id_tup (pd_tup (pad_cons pd_int (pad_cons pd_int pad_nil)) (arge_cons (arge_cons arge_nil)).le)) (blkOk_by (own := [("k", 8)]) (N := N_is_mixture) (sc := defScope s_is_mixture) (by decide +kernel)) (by decide) (fun _ _ _ _ _ => (gd_name (i := 8) nd)) (fun _ _ _ _ _ => ptsd_nil) (fun _ _ _ _ _ => (pd_le (pd_add (pd_mul (pd_var 5) (pd_sub' (pd_sub' (pd_var 0) (pd_var 3)) (pd_var 8))) (pd_mul (pd_var 6) (pd_sub' (pd_sub' (pd_var 0) (pd_var 4)) (pd_var 8)))) (pd_mul (pd_var 7) (pd_sub' (pd_var 2) (pd_var 8)))))) pad_nil)))))))
theorem ok_is_mixture {P : Program} {w : World} {K : PySem.W.Frag} {mg : Str → Option Value} {base : Heap} (T : Top K mg) : Held P w K mg base 1 (ga K "is_mixture") ["book", "row", "tariff"] (f_is_mixture K) := by
  obtain ⟨fd, F⟩ := T.d_is_mixture
  exact ⟨fd, okF_is_mixture T F, F.bindsN fun _ _ _ _ _ _ us hl => match us, hl with | [_, _, _], _ => rfl, F.kp⟩
/-! Alone.__init__ -/
abbrev N_Alone___init__ : List Str := ["self", "amount"]
theorem sc_Alone___init__ : FnScope N_Alone___init__ ["self", "amount"] (defScope s_Alone___init__) := ⟨rfl, rfl, rfl, by decide +kernel, rfl, by decide +kernel, by decide +kernel⟩
def i_Alone : List D → Option Fs := fun ds => (inSeq (inSh "amount" 1) inNil) (.no :: ds.map Sl.sh) []
theorem okI_Alone {P : Program} {w : World} {K : PySem.W.Frag} {mg : Str → Option Value} {base : Heap} (T : Top K mg) : HeldI P w K mg base (ma K (ga K "Alone") "__init__") (ga K "Alone") 1 i_Alone := by
  obtain ⟨fd, F⟩ := T.d_Alone___init__
  exact ⟨fd, ["self", "amount"], fn_init F sc_Alone___init__ rfl rfl (fun cdv A outer s H E hr => (in_cons (in_sh T.c_Alone (T.at_amount _ (by simp [at_amount])).2 1) in_nil)), F.bindsN fun _ _ _ _ _ _ us hl => match us, hl with | [_, _], _ => rfl⟩
/-! Alone.shows -/
abbrev N_Alone_shows : List Str := ["self", "book", "place", "mine", "at", "tariff"]
theorem sc_Alone_shows : FnScope N_Alone_shows ["self", "book", "place"] (defScope s_Alone_shows) := ⟨rfl, rfl, rfl, by decide +kernel, rfl, by decide +kernel, by decide +kernel⟩
def g_Alone_shows (K : PySem.W.Frag) : Env → Res Fl :=
    (sSeq (sAsg (eCall (f_cost_of K) (aCons (eOp ixD (eVar 1) (eVar 2)) (aCons (eFld (at_amount K) "amount" (eVar 0)) aNil))) (bNm 3))
    (sRet (eFn allD (aCons (eLC [4, 5] (bTup (bsCons (bNm 4) (bsCons (bNm 5) bsNil))) bYes (eB (bOr (bV (eOp eqD (eVar 4) (eVar 2))) (bV (eOp gtD (eCall (f_cost_of K) (aCons (eVar 5) (aCons (eFld (at_amount K) "amount" (eVar 0)) aNil))) (eVar 3))))) (iE (aCons (eVar 1) aNil))) aNil))))
def f_Alone_shows (K : PySem.W.Frag) : List D → Res D := run 6 (g_Alone_shows K)
theorem okF_Alone_shows {P : Program} {w : World} {K : PySem.W.Frag} {mg : Str → Option Value} {base : Heap} (T : Top K mg) {fd : FuncData} (F : L2.FunD K "shows" "Alone.shows" (defArgs s_Alone_shows) (defBody s_Alone_shows) (defScope s_Alone_shows) [] [] (ma K (ga K "Alone") "shows") fd) : FnOk P w K mg base (L2.CX P w) 2 (ma K (ga K "Alone") "shows") fd ["self", "book", "place"] (spD K 3 (f_Alone_shows K)) := by
  refine fn_dt (N := N_Alone_shows) F sc_Alone_shows (fun cdv A outer s H E G P' hr gd => ?_)
  have nd := sc_Alone_shows.nd
  have tk := takes_of (X := cxOf (L2.CX P w) P w K mg base N_Alone_shows "Alone.shows" (defScope s_Alone_shows) (ma K (ga K "Alone") "shows") cdv A outer s H E) rfl rfl rfl rfl
  have pow := passes_of (X := cxOf (L2.CX P w) P w K mg base N_Alone_shows "Alone.shows" (defScope s_Alone_shows) (ma K (ga K "Alone") "shows") cdv A outer s H E) rfl
  exact (sd_cons (sd_set gd (i := 3) nd (pd_callH (ok_cost_of T) (hr.mono (by decide)) tk (by rfl) T.g_cost_of (pad_cons (pd_sub' (pd_var 1) (pd_var 2)) (pad_cons (pd_fld T.at_amount (pd_var 0)) pad_nil)) (arge_cons (arge_cons arge_nil))))
      (sd_one (sd_ret gd (pd_all (by rfl) (by rfl) T.b_all (pad_cons (pd_lc (own := [("at", 4), ("tariff", 5)]) (by rfl) nd (id_enum (by rfl) T.b_enumerate (pad_cons (pd_var 1) pad_nil)) (blkOk_by (own := [("at", 4), ("tariff", 5)]) (N := N_Alone_shows) (sc := defScope s_Alone_shows) (by decide +kernel)) (by decide) (fun _ _ _ _ _ => (gd_tup rfl (gds_cons (gd_name (i := 4) nd) (gds_cons (gd_name (i := 5) nd) gds_nil)) (btn_cons (btn_cons btn_nil)))) (fun _ _ _ _ _ => ptsd_nil) (fun _ _ _ _ _ => (pd_or (pd_eB (pd_eq hr.units (pd_var 4) (pd_var 2))) (pd_one (pd_eB (pd_gt (pd_callH (ok_cost_of T) (hr.mono (by decide)) takes0 (by rfl) T.g_cost_of (pad_cons (pd_var 5) (pad_cons (pd_fld T.at_amount (pd_var 0)) pad_nil)) (arge_cons (arge_cons arge_nil))) (pd_var 3))))))) pad_nil)))))
theorem ok_Alone_shows {P : Program} {w : World} {K : PySem.W.Frag} {mg : Str → Option Value} {base : Heap} (T : Top K mg) : Held P w K mg base 2 (ma K (ga K "Alone") "shows") ["self", "book", "place"] (f_Alone_shows K) := by
  obtain ⟨fd, F⟩ := T.d_Alone_shows
  exact ⟨fd, okF_Alone_shows T F, F.bindsN fun _ _ _ _ _ _ us hl => match us, hl with | [_, _, _], _ => rfl, F.kp⟩
/-! Needless.__init__ -/
abbrev N_Needless___init__ : List Str := ["self", "one", "other", "first", "second"]
theorem sc_Needless___init__ : FnScope N_Needless___init__ ["self", "one", "other", "first", "second"] (defScope s_Needless___init__) := ⟨rfl, rfl, rfl, by decide +kernel, rfl, by decide +kernel, by decide +kernel⟩
def i_Needless : List D → Option Fs := fun ds => (inSeq (inSh "one" 1) (inSeq (inSh "other" 2) (inSeq (inSh "first" 3) (inSeq (inSh "second" 4) inNil)))) (.no :: ds.map Sl.sh) []
theorem okI_Needless {P : Program} {w : World} {K : PySem.W.Frag} {mg : Str → Option Value} {base : Heap} (T : Top K mg) : HeldI P w K mg base (ma K (ga K "Needless") "__init__") (ga K "Needless") 4 i_Needless := by
  obtain ⟨fd, F⟩ := T.d_Needless___init__
  exact ⟨fd, ["self", "one", "other", "first", "second"], fn_init F sc_Needless___init__ rfl rfl (fun cdv A outer s H E hr => (in_cons (in_sh T.c_Needless (T.at_one _ (by simp [at_one])).2 1) (in_cons (in_sh T.c_Needless (T.at_other _ (by simp [at_other])).2 2) (in_cons (in_sh T.c_Needless (T.at_first _ (by simp [at_first])).2 3) (in_cons (in_sh T.c_Needless (T.at_second _ (by simp [at_second])).2 4) in_nil))))), F.bindsN fun _ _ _ _ _ _ us hl => match us, hl with | [_, _, _, _, _], _ => rfl⟩
/-! Needless.shows -/
abbrev N_Needless_shows : List Str := ["self", "book", "place"]
theorem sc_Needless_shows : FnScope N_Needless_shows ["self", "book", "place"] (defScope s_Needless_shows) := ⟨rfl, rfl, rfl, by decide +kernel, rfl, by decide +kernel, by decide +kernel⟩
def g_Needless_shows (K : PySem.W.Frag) : Env → Res Fl :=
    (sSeq (sIf (bV (eOp inD (eVar 2) (eTup (aCons (eFld (at_one K) "one" (eVar 0)) (aCons (eFld (at_other K) "other" (eVar 0)) aNil))))) (sRet (eC (.bl false))) sNil)
    (sRet (eCall (f_is_mixture K) (aCons (eVar 1) (aCons (eTup (aCons (eFld (at_one K) "one" (eVar 0)) (aCons (eFld (at_other K) "other" (eVar 0)) (aCons (eFld (at_first K) "first" (eVar 0)) (aCons (eFld (at_second K) "second" (eVar 0)) aNil))))) (aCons (eOp ixD (eVar 1) (eVar 2)) aNil))))))
def f_Needless_shows (K : PySem.W.Frag) : List D → Res D := run 3 (g_Needless_shows K)
theorem okF_Needless_shows {P : Program} {w : World} {K : PySem.W.Frag} {mg : Str → Option Value} {base : Heap} (T : Top K mg) {fd : FuncData} (F : L2.FunD K "shows" "Needless.shows" (defArgs s_Needless_shows) (defBody s_Needless_shows) (defScope s_Needless_shows) [] [] (ma K (ga K "Needless") "shows") fd) : FnOk P w K mg base (L2.CX P w) 2 (ma K (ga K "Needless") "shows") fd ["self", "book", "place"] (spD K 3 (f_Needless_shows K)) := by
  refine fn_dt (N := N_Needless_shows) F sc_Needless_shows (fun cdv A outer s H E G P' hr gd => ?_)
  have nd := sc_Needless_shows.nd
  have tk := takes_of (X := cxOf (L2.CX P w) P w K mg base N_Needless_shows "Needless.shows" (defScope s_Needless_shows) (ma K (ga K "Needless") "shows") cdv A outer s H E) rfl rfl rfl rfl
  have pow := passes_of (X := cxOf (L2.CX P w) P w K mg base N_Needless_shows "Needless.shows" (defScope s_Needless_shows) (ma K (ga K "Needless") "shows") cdv A outer s H E) rfl
  exact (sd_cons (sd_if gd (pt_in (pd_var 2) (pd_tup (pad_cons (pd_fld T.at_one (pd_var 0)) (pad_cons (pd_fld T.at_other (pd_var 0)) pad_nil)) (arge_cons (arge_cons arge_nil)).le)) (sd_one (sd_ret gd pd_bl)) sd_nil)
      (sd_one (sd_ret gd (pd_callH (ok_is_mixture T) (hr.mono (by decide)) tk (by rfl) T.g_is_mixture (pad_cons (pd_var 1) (pad_cons (pd_tup (pad_cons (pd_fld T.at_one (pd_var 0)) (pad_cons (pd_fld T.at_other (pd_var 0)) (pad_cons (pd_fld T.at_first (pd_var 0)) (pad_cons (pd_fld T.at_second (pd_var 0)) pad_nil)))) (arge_cons (arge_cons (arge_cons (arge_cons arge_nil)))).le) (pad_cons (pd_sub' (pd_var 1) (pd_var 2)) pad_nil))) (arge_cons (arge_cons (arge_cons arge_nil)))))))
theorem ok_Needless_shows {P : Program} {w : World} {K : PySem.W.Frag} {mg : Str → Option Value} {base : Heap} (T : Top K mg) : Held P w K mg base 2 (ma K (ga K "Needless") "shows") ["self", "book", "place"] (f_Needless_shows K) := by
  obtain ⟨fd, F⟩ := T.d_Needless_shows
  exact ⟨fd, okF_Needless_shows T F, F.bindsN fun _ _ _ _ _ _ us hl => match us, hl with | [_, _, _], _ => rfl, F.kp⟩
/-! Ranges.__init__ -/
abbrev N_Ranges___init__ : List Str := ["self", "begins", "places"]
theorem sc_Ranges___init__ : FnScope N_Ranges___init__ ["self", "begins", "places"] (defScope s_Ranges___init__) := ⟨rfl, rfl, rfl, by decide +kernel, rfl, by decide +kernel, by decide +kernel⟩
def i_Ranges : List D → Option Fs := fun ds => (inSeq (inLs "begins" 1) (inSeq (inLs "places" 2) inNil)) (.no :: ds.map Sl.sh) []
theorem okI_Ranges {P : Program} {w : World} {K : PySem.W.Frag} {mg : Str → Option Value} {base : Heap} (T : Top K mg) : HeldI P w K mg base (ma K (ga K "Ranges") "__init__") (ga K "Ranges") 2 i_Ranges := by
  obtain ⟨fd, F⟩ := T.d_Ranges___init__
  exact ⟨fd, ["self", "begins", "places"], fn_init F sc_Ranges___init__ rfl rfl (fun cdv A outer s H E hr => (in_cons (in_ls T.c_Ranges (T.at_begins _ (by simp [at_begins])).2 1 (by rfl) T.b_list) (in_cons (in_ls T.c_Ranges (T.at_places _ (by simp [at_places])).2 2 (by rfl) T.b_list) in_nil))), F.bindsN fun _ _ _ _ _ _ us hl => match us, hl with | [_, _, _], _ => rfl⟩
/-! Ranges.is_least -/
abbrev N_Ranges_is_least : List Str := ["self", "book", "at", "amount", "tariff"]
theorem sc_Ranges_is_least : FnScope N_Ranges_is_least ["self", "book", "at", "amount"] (defScope s_Ranges_is_least) := ⟨rfl, rfl, rfl, by decide +kernel, rfl, by decide +kernel, by decide +kernel⟩
def g_Ranges_is_least (K : PySem.W.Frag) : Env → Res Fl :=
    (sRet (eOp eqD (eCall (f_cost_of K) (aCons (eOp ixD (eVar 1) (eOp ixD (eFld (at_places K) "places" (eVar 0)) (eVar 2))) (aCons (eVar 3) aNil))) (eFn minD (aCons (eLC [4] (bNm 4) bYes (eCall (f_cost_of K) (aCons (eVar 4) (aCons (eVar 3) aNil))) (iL (eVar 1))) aNil))))
def f_Ranges_is_least (K : PySem.W.Frag) : List D → Res D := run 5 (g_Ranges_is_least K)
theorem okF_Ranges_is_least {P : Program} {w : World} {K : PySem.W.Frag} {mg : Str → Option Value} {base : Heap} (T : Top K mg) {fd : FuncData} (F : L2.FunD K "is_least" "Ranges.is_least" (defArgs s_Ranges_is_least) (defBody s_Ranges_is_least) (defScope s_Ranges_is_least) [] [] (ma K (ga K "Ranges") "is_least") fd) : FnOk P w K mg base (L2.CX P w) 2 (ma K (ga K "Ranges") "is_least") fd ["self", "book", "at", "amount"] (spD K 4 (f_Ranges_is_least K)) := by
  refine fn_dt (N := N_Ranges_is_least) F sc_Ranges_is_least (fun cdv A outer s H E G P' hr gd => ?_)
  have nd := sc_Ranges_is_least.nd
  have tk := takes_of (X := cxOf (L2.CX P w) P w K mg base N_Ranges_is_least "Ranges.is_least" (defScope s_Ranges_is_least) (ma K (ga K "Ranges") "is_least") cdv A outer s H E) rfl rfl rfl rfl
  have pow := passes_of (X := cxOf (L2.CX P w) P w K mg base N_Ranges_is_least "Ranges.is_least" (defScope s_Ranges_is_least) (ma K (ga K "Ranges") "is_least") cdv A outer s H E) rfl
  exact (sd_one (sd_ret gd (pd_eq hr.units (pd_callH (ok_cost_of T) (hr.mono (by decide)) tk (by rfl) T.g_cost_of (pad_cons (pd_sub' (pd_var 1) (pd_sub' (pd_fld T.at_places (pd_var 0)) (pd_var 2))) (pad_cons (pd_var 3) pad_nil)) (arge_cons (arge_cons arge_nil))) (pd_min (by rfl) (by rfl) T.b_min (pad_cons (pd_lc (own := [("tariff", 4)]) (by rfl) nd (id_list (pd_var 1)) (blkOk_by (own := [("tariff", 4)]) (N := N_Ranges_is_least) (sc := defScope s_Ranges_is_least) (by decide +kernel)) (by decide) (fun _ _ _ _ _ => (gd_name (i := 4) nd)) (fun _ _ _ _ _ => ptsd_nil) (fun _ _ _ _ _ => (pd_callH (ok_cost_of T) (hr.mono (by decide)) takes0 (by rfl) T.g_cost_of (pad_cons (pd_var 4) (pad_cons (pd_var 3) pad_nil)) (arge_cons (arge_cons arge_nil))))) pad_nil)))))
theorem ok_Ranges_is_least {P : Program} {w : World} {K : PySem.W.Frag} {mg : Str → Option Value} {base : Heap} (T : Top K mg) : Held P w K mg base 2 (ma K (ga K "Ranges") "is_least") ["self", "book", "at", "amount"] (f_Ranges_is_least K) := by
  obtain ⟨fd, F⟩ := T.d_Ranges_is_least
  exact ⟨fd, okF_Ranges_is_least T F, F.bindsN fun _ _ _ _ _ _ us hl => match us, hl with | [_, _, _, _], _ => rfl, F.kp⟩
/-! Ranges.shows -/
abbrev N_Ranges_shows : List Str := ["self", "book", "many", "place", "at", "ahead", "here", "tariff"]
theorem sc_Ranges_shows : FnScope N_Ranges_shows ["self", "book"] (defScope s_Ranges_shows) := ⟨rfl, rfl, rfl, by decide +kernel, rfl, by decide +kernel, by decide +kernel⟩
def g_Ranges_shows (K : PySem.W.Frag) : Env → Res Fl :=
    (sSeq (sAsg (eFn lenD (aCons (eFld (at_places K) "places" (eVar 0)) aNil)) (bNm 2))
    (sSeq (sIf (bOr (bV (eOp eqD (eVar 2) (eC (.int 0)))) (bOr (bV (eOp neD (eFn lenD (aCons (eFld (at_begins K) "begins" (eVar 0)) aNil)) (eVar 2))) (bV (eOp neD (eOp ixD (eFld (at_begins K) "begins" (eVar 0)) (eC (.int 0))) (eC c_NONE))))) (sRet (eC (.bl false))) sNil)
    (sSeq (sIf (bNot (bV (eFn allD (aCons (eLC [3] (bNm 3) bYes (eChain leD ltD (eC (.int 0)) (eVar 3) (eFn lenD (aCons (eVar 1) aNil))) (iL (eFld (at_places K) "places" (eVar 0)))) aNil)))) (sRet (eC (.bl false))) sNil)
    (sSeq (sFor (iR2 (aCons (eC (.int 1)) (aCons (eVar 2) aNil))) (bNm 4) (sSeq (sPar 5 6 (aCons (eOp ixD (eFld (at_begins K) "begins" (eVar 0)) (eOp subD (eVar 4) (eC (.int 1)))) (aCons (eOp ixD (eFld (at_begins K) "begins" (eVar 0)) (eVar 4)) aNil)))
    (sSeq (sIf (bOr (bV (eOp geD (eOp mulD (eOp ixD (eVar 5) (eC (.int 0))) (eOp ixD (eVar 6) (eC (.int 1)))) (eOp mulD (eOp ixD (eVar 6) (eC (.int 0))) (eOp ixD (eVar 5) (eC (.int 1)))))) (bV (eOp eqD (eOp ixD (eFld (at_places K) "places" (eVar 0)) (eOp subD (eVar 4) (eC (.int 1)))) (eOp ixD (eFld (at_places K) "places" (eVar 0)) (eVar 4))))) (sRet (eC (.bl false))) sNil)
    (sIf (bOr (bNot (bV (eMth (ga K "Ranges") "is_least" (f_Ranges_is_least K) (eVar 0) (aCons (eVar 1) (aCons (eOp subD (eVar 4) (eC (.int 1))) (aCons (eVar 5) aNil)))))) (bNot (bV (eMth (ga K "Ranges") "is_least" (f_Ranges_is_least K) (eVar 0) (aCons (eVar 1) (aCons (eOp subD (eVar 4) (eC (.int 1))) (aCons (eVar 6) aNil))))))) (sRet (eC (.bl false))) sNil))))
    (sSeq (sIf (bNot (bV (eMth (ga K "Ranges") "is_least" (f_Ranges_is_least K) (eVar 0) (aCons (eVar 1) (aCons (eOp subD (eVar 2) (eC (.int 1))) (aCons (eOp ixD (eFld (at_begins K) "begins" (eVar 0)) (eUn negD (eC (.int 1)))) aNil)))))) (sRet (eC (.bl false))) sNil)
    (sRet (eOp eqD (eFn minD (aCons (eLC [7] (bNm 7) bYes (eOp ixD (eVar 7) (eC (.int 1))) (iL (eVar 1))) aNil)) (eOp ixD (eOp ixD (eVar 1) (eOp ixD (eFld (at_places K) "places" (eVar 0)) (eUn negD (eC (.int 1))))) (eC (.int 1))))))))))
def f_Ranges_shows (K : PySem.W.Frag) : List D → Res D := run 8 (g_Ranges_shows K)
theorem okF_Ranges_shows {P : Program} {w : World} {K : PySem.W.Frag} {mg : Str → Option Value} {base : Heap} (T : Top K mg) {fd : FuncData} (F : L2.FunD K "shows" "Ranges.shows" (defArgs s_Ranges_shows) (defBody s_Ranges_shows) (defScope s_Ranges_shows) [] [] (ma K (ga K "Ranges") "shows") fd) : FnOk P w K mg base (L2.CX P w) 3 (ma K (ga K "Ranges") "shows") fd ["self", "book"] (spD K 2 (f_Ranges_shows K)) := by
  refine fn_dt (N := N_Ranges_shows) F sc_Ranges_shows (fun cdv A outer s H E G P' hr gd => ?_)
  have nd := sc_Ranges_shows.nd
  have tk := takes_of (X := cxOf (L2.CX P w) P w K mg base N_Ranges_shows "Ranges.shows" (defScope s_Ranges_shows) (ma K (ga K "Ranges") "shows") cdv A outer s H E) rfl rfl rfl rfl
  have pow := passes_of (X := cxOf (L2.CX P w) P w K mg base N_Ranges_shows "Ranges.shows" (defScope s_Ranges_shows) (ma K (ga K "Ranges") "shows") cdv A outer s H E) rfl
  exact (sd_cons (sd_set gd (i := 2) nd (pd_len (by rfl) T.b_len (pad_cons (pd_fld T.at_places (pd_var 0)) pad_nil)))
      (sd_cons (sd_if gd (PW.pt (pwd_or (pt_eq hr.units (pd_var 2) pd_int) (pwd_or (pt_ne hr.units (pd_len (by rfl) T.b_len (pad_cons (pd_fld T.at_begins (pd_var 0)) pad_nil)) (pd_var 2)) (pwd_or1 (pt_ne hr.units (pd_sub' (pd_fld T.at_begins (pd_var 0)) pd_int) (pd_globR (by rfl) T.g_NONE T.k_NONE)))))) (sd_one (sd_ret gd pd_bl)) sd_nil)
      (sd_cons (sd_if gd (ptd_not (pt_v (pd_all (by rfl) (by rfl) T.b_all (pad_cons (pd_lc (own := [("place", 3)]) (by rfl) nd (id_list (pd_fld T.at_places (pd_var 0))) (blkOk_by (own := [("place", 3)]) (N := N_Ranges_shows) (sc := defScope s_Ranges_shows) (by decide +kernel)) (by decide) (fun _ _ _ _ _ => (gd_name (i := 3) nd)) (fun _ _ _ _ _ => ptsd_nil) (fun _ _ _ _ _ => (pd_chLL pd_int (pd_var 3) (pd_len (by rfl) T.b_len (pad_cons (pd_var 1) pad_nil))))) pad_nil)))) (sd_one (sd_ret gd pd_bl)) sd_nil)
      (sd_cons (sd_for gd pow rfl (id_range2 (by rfl) T.b_range (pad_cons pd_int (pad_cons (pd_var 2) pad_nil))) (gd_name (i := 4) nd) (fun G gd => (sd_cons (sd_par gd (i := 5) (j := 6) rfl nd (pad_cons (pd_sub' (pd_fld T.at_begins (pd_var 0)) (pd_sub (pd_var 4) pd_int)) (pad_cons (pd_sub' (pd_fld T.at_begins (pd_var 0)) (pd_var 4)) pad_nil)))
      (sd_cons (sd_if gd (PW.pt (pwd_or (pt_ge (pd_mul (pd_sub' (pd_var 5) pd_int) (pd_sub' (pd_var 6) pd_int)) (pd_mul (pd_sub' (pd_var 6) pd_int) (pd_sub' (pd_var 5) pd_int))) (pwd_or1 (pt_eq hr.units (pd_sub' (pd_fld T.at_places (pd_var 0)) (pd_sub (pd_var 4) pd_int)) (pd_sub' (pd_fld T.at_places (pd_var 0)) (pd_var 4)))))) (sd_one (sd_ret gd pd_bl)) sd_nil)
      (sd_one (sd_if gd (PW.pt (pwd_or (ptd_not (pt_v (pd_meth (ok_Ranges_is_least T) (hr.mono (by decide)) T.c_Ranges T.m_Ranges_is_least (pd_var 0) (pad_cons (pd_var 1) (pad_cons (pd_sub (pd_var 4) pd_int) (pad_cons (pd_var 5) pad_nil))) (arge_cons (arge_cons (arge_cons arge_nil)))))) (pwd_or1 (ptd_not (pt_v (pd_meth (ok_Ranges_is_least T) (hr.mono (by decide)) T.c_Ranges T.m_Ranges_is_least (pd_var 0) (pad_cons (pd_var 1) (pad_cons (pd_sub (pd_var 4) pd_int) (pad_cons (pd_var 6) pad_nil))) (arge_cons (arge_cons (arge_cons arge_nil))))))))) (sd_one (sd_ret gd pd_bl)) sd_nil))))))
      (sd_cons (sd_if gd (ptd_not (pt_v (pd_meth (ok_Ranges_is_least T) (hr.mono (by decide)) T.c_Ranges T.m_Ranges_is_least (pd_var 0) (pad_cons (pd_var 1) (pad_cons (pd_sub (pd_var 2) pd_int) (pad_cons (pd_sub' (pd_fld T.at_begins (pd_var 0)) (pd_neg pd_int)) pad_nil))) (arge_cons (arge_cons (arge_cons arge_nil)))))) (sd_one (sd_ret gd pd_bl)) sd_nil)
      (sd_one (sd_ret gd (pd_eq hr.units (pd_min (by rfl) (by rfl) T.b_min (pad_cons (pd_lc (own := [("tariff", 7)]) (by rfl) nd (id_list (pd_var 1)) (blkOk_by (own := [("tariff", 7)]) (N := N_Ranges_shows) (sc := defScope s_Ranges_shows) (by decide +kernel)) (by decide) (fun _ _ _ _ _ => (gd_name (i := 7) nd)) (fun _ _ _ _ _ => ptsd_nil) (fun _ _ _ _ _ => (pd_sub' (pd_var 7) pd_int))) pad_nil)) (pd_sub' (pd_sub' (pd_var 1) (pd_sub' (pd_fld T.at_places (pd_var 0)) (pd_neg pd_int))) pd_int)))))))))
theorem ok_Ranges_shows {P : Program} {w : World} {K : PySem.W.Frag} {mg : Str → Option Value} {base : Heap} (T : Top K mg) : Held P w K mg base 3 (ma K (ga K "Ranges") "shows") ["self", "book"] (f_Ranges_shows K) := by
  obtain ⟨fd, F⟩ := T.d_Ranges_shows
  exact ⟨fd, okF_Ranges_shows T F, F.bindsN fun _ _ _ _ _ _ us hl => match us, hl with | [_, _], _ => rfl, F.kp⟩
/-! Under.__init__ -/
abbrev N_Under___init__ : List Str := ["self", "rows"]
theorem sc_Under___init__ : FnScope N_Under___init__ ["self", "rows"] (defScope s_Under___init__) := ⟨rfl, rfl, rfl, by decide +kernel, rfl, by decide +kernel, by decide +kernel⟩
def i_Under : List D → Option Fs := fun ds => (inSeq (inLs "rows" 1) inNil) (.no :: ds.map Sl.sh) []
theorem okI_Under {P : Program} {w : World} {K : PySem.W.Frag} {mg : Str → Option Value} {base : Heap} (T : Top K mg) : HeldI P w K mg base (ma K (ga K "Under") "__init__") (ga K "Under") 1 i_Under := by
  obtain ⟨fd, F⟩ := T.d_Under___init__
  exact ⟨fd, ["self", "rows"], fn_init F sc_Under___init__ rfl rfl (fun cdv A outer s H E hr => (in_cons (in_ls T.c_Under (T.at_rows _ (by simp [at_rows])).2 1 (by rfl) T.b_list) in_nil)), F.bindsN fun _ _ _ _ _ _ us hl => match us, hl with | [_, _], _ => rfl⟩
/-! Under.shows -/
abbrev N_Under_shows : List Str := ["self", "one", "other", "row", "tariff"]
theorem sc_Under_shows : FnScope N_Under_shows ["self", "one", "other"] (defScope s_Under_shows) := ⟨rfl, rfl, rfl, by decide +kernel, rfl, by decide +kernel, by decide +kernel⟩
def g_Under_shows (K : PySem.W.Frag) : Env → Res Fl :=
    (sSeq (sIf (bV (eOp neD (eFn lenD (aCons (eFld (at_rows K) "rows" (eVar 0)) aNil)) (eFn lenD (aCons (eVar 2) aNil)))) (sRet (eC (.bl false))) sNil)
    (sRet (eFn allD (aCons (eLC [3, 4] (bTup (bsCons (bNm 3) (bsCons (bNm 4) bsNil))) bYes (eCall (f_is_mixture K) (aCons (eVar 1) (aCons (eVar 3) (aCons (eVar 4) aNil)))) (iZ (aCons (eFld (at_rows K) "rows" (eVar 0)) (aCons (eVar 2) aNil)))) aNil))))
def f_Under_shows (K : PySem.W.Frag) : List D → Res D := run 5 (g_Under_shows K)
theorem okF_Under_shows {P : Program} {w : World} {K : PySem.W.Frag} {mg : Str → Option Value} {base : Heap} (T : Top K mg) {fd : FuncData} (F : L2.FunD K "shows" "Under.shows" (defArgs s_Under_shows) (defBody s_Under_shows) (defScope s_Under_shows) [] [] (ma K (ga K "Under") "shows") fd) : FnOk P w K mg base (L2.CX P w) 2 (ma K (ga K "Under") "shows") fd ["self", "one", "other"] (spD K 3 (f_Under_shows K)) := by
  refine fn_dt (N := N_Under_shows) F sc_Under_shows (fun cdv A outer s H E G P' hr gd => ?_)
  have nd := sc_Under_shows.nd
  have tk := takes_of (X := cxOf (L2.CX P w) P w K mg base N_Under_shows "Under.shows" (defScope s_Under_shows) (ma K (ga K "Under") "shows") cdv A outer s H E) rfl rfl rfl rfl
  have pow := passes_of (X := cxOf (L2.CX P w) P w K mg base N_Under_shows "Under.shows" (defScope s_Under_shows) (ma K (ga K "Under") "shows") cdv A outer s H E) rfl
  exact (sd_cons (sd_if gd (pt_ne hr.units (pd_len (by rfl) T.b_len (pad_cons (pd_fld T.at_rows (pd_var 0)) pad_nil)) (pd_len (by rfl) T.b_len (pad_cons (pd_var 2) pad_nil))) (sd_one (sd_ret gd pd_bl)) sd_nil)
      (sd_one (sd_ret gd (pd_all (by rfl) (by rfl) T.b_all (pad_cons (pd_lc (own := [("row", 3), ("tariff", 4)]) (by rfl) nd (id_zip (by rfl) T.b_zip (pad_cons (pd_fld T.at_rows (pd_var 0)) (pad_cons (pd_var 2) pad_nil))) (blkOk_by (own := [("row", 3), ("tariff", 4)]) (N := N_Under_shows) (sc := defScope s_Under_shows) (by decide +kernel)) (by decide) (fun _ _ _ _ _ => (gd_tup rfl (gds_cons (gd_name (i := 3) nd) (gds_cons (gd_name (i := 4) nd) gds_nil)) (btn_cons (btn_cons btn_nil)))) (fun _ _ _ _ _ => ptsd_nil) (fun _ _ _ _ _ => (pd_callH (ok_is_mixture T) (hr.mono (by decide)) takes0 (by rfl) T.g_is_mixture (pad_cons (pd_var 1) (pad_cons (pd_var 3) (pad_cons (pd_var 4) pad_nil))) (arge_cons (arge_cons (arge_cons arge_nil)))))) pad_nil)))))
theorem ok_Under_shows {P : Program} {w : World} {K : PySem.W.Frag} {mg : Str → Option Value} {base : Heap} (T : Top K mg) : Held P w K mg base 2 (ma K (ga K "Under") "shows") ["self", "one", "other"] (f_Under_shows K) := by
  obtain ⟨fd, F⟩ := T.d_Under_shows
  exact ⟨fd, okF_Under_shows T F, F.bindsN fun _ _ _ _ _ _ us hl => match us, hl with | [_, _, _], _ => rfl, F.kp⟩
/-! Over.__init__ -/
abbrev N_Over___init__ : List Str := ["self", "amount"]
theorem sc_Over___init__ : FnScope N_Over___init__ ["self", "amount"] (defScope s_Over___init__) := ⟨rfl, rfl, rfl, by decide +kernel, rfl, by decide +kernel, by decide +kernel⟩
def i_Over : List D → Option Fs := fun ds => (inSeq (inSh "amount" 1) inNil) (.no :: ds.map Sl.sh) []
theorem okI_Over {P : Program} {w : World} {K : PySem.W.Frag} {mg : Str → Option Value} {base : Heap} (T : Top K mg) : HeldI P w K mg base (ma K (ga K "Over") "__init__") (ga K "Over") 1 i_Over := by
  obtain ⟨fd, F⟩ := T.d_Over___init__
  exact ⟨fd, ["self", "amount"], fn_init F sc_Over___init__ rfl rfl (fun cdv A outer s H E hr => (in_cons (in_sh T.c_Over (T.at_amount _ (by simp [at_amount])).2 1) in_nil)), F.bindsN fun _ _ _ _ _ _ us hl => match us, hl with | [_, _], _ => rfl⟩
/-! Over.shows -/
abbrev N_Over_shows : List Str := ["self", "one", "other", "first", "tariff"]
theorem sc_Over_shows : FnScope N_Over_shows ["self", "one", "other"] (defScope s_Over_shows) := ⟨rfl, rfl, rfl, by decide +kernel, rfl, by decide +kernel, by decide +kernel⟩
def g_Over_shows (K : PySem.W.Frag) : Env → Res Fl :=
    (sSeq (sAsg (eFn minD (aCons (eLC [4] (bNm 4) bYes (eCall (f_cost_of K) (aCons (eVar 4) (aCons (eFld (at_amount K) "amount" (eVar 0)) aNil))) (iL (eVar 1))) aNil)) (bNm 3))
    (sRet (eOp gtD (eVar 3) (eFn minD (aCons (eLC [4] (bNm 4) bYes (eCall (f_cost_of K) (aCons (eVar 4) (aCons (eFld (at_amount K) "amount" (eVar 0)) aNil))) (iL (eVar 2))) aNil)))))
def f_Over_shows (K : PySem.W.Frag) : List D → Res D := run 5 (g_Over_shows K)
theorem okF_Over_shows {P : Program} {w : World} {K : PySem.W.Frag} {mg : Str → Option Value} {base : Heap} (T : Top K mg) {fd : FuncData} (F : L2.FunD K "shows" "Over.shows" (defArgs s_Over_shows) (defBody s_Over_shows) (defScope s_Over_shows) [] [] (ma K (ga K "Over") "shows") fd) : FnOk P w K mg base (L2.CX P w) 2 (ma K (ga K "Over") "shows") fd ["self", "one", "other"] (spD K 3 (f_Over_shows K)) := by
  refine fn_dt (N := N_Over_shows) F sc_Over_shows (fun cdv A outer s H E G P' hr gd => ?_)
  have nd := sc_Over_shows.nd
  have tk := takes_of (X := cxOf (L2.CX P w) P w K mg base N_Over_shows "Over.shows" (defScope s_Over_shows) (ma K (ga K "Over") "shows") cdv A outer s H E) rfl rfl rfl rfl
  have pow := passes_of (X := cxOf (L2.CX P w) P w K mg base N_Over_shows "Over.shows" (defScope s_Over_shows) (ma K (ga K "Over") "shows") cdv A outer s H E) rfl
  exact (sd_cons (sd_set gd (i := 3) nd (pd_min (by rfl) (by rfl) T.b_min (pad_cons (pd_lc (own := [("tariff", 4)]) (by rfl) nd (id_list (pd_var 1)) (blkOk_by (own := [("tariff", 4)]) (N := N_Over_shows) (sc := defScope s_Over_shows) (by decide +kernel)) (by decide) (fun _ _ _ _ _ => (gd_name (i := 4) nd)) (fun _ _ _ _ _ => ptsd_nil) (fun _ _ _ _ _ => (pd_callH (ok_cost_of T) (hr.mono (by decide)) takes0 (by rfl) T.g_cost_of (pad_cons (pd_var 4) (pad_cons (pd_fld T.at_amount (pd_var 0)) pad_nil)) (arge_cons (arge_cons arge_nil))))) pad_nil)))
      (sd_one (sd_ret gd (pd_gt (pd_var 3) (pd_min (by rfl) (by rfl) T.b_min (pad_cons (pd_lc (own := [("tariff", 4)]) (by rfl) nd (id_list (pd_var 2)) (blkOk_by (own := [("tariff", 4)]) (N := N_Over_shows) (sc := defScope s_Over_shows) (by decide +kernel)) (by decide) (fun _ _ _ _ _ => (gd_name (i := 4) nd)) (fun _ _ _ _ _ => ptsd_nil) (fun _ _ _ _ _ => (pd_callH (ok_cost_of T) (hr.mono (by decide)) takes0 (by rfl) T.g_cost_of (pad_cons (pd_var 4) (pad_cons (pd_fld T.at_amount (pd_var 0)) pad_nil)) (arge_cons (arge_cons arge_nil))))) pad_nil))))))
theorem ok_Over_shows {P : Program} {w : World} {K : PySem.W.Frag} {mg : Str → Option Value} {base : Heap} (T : Top K mg) : Held P w K mg base 2 (ma K (ga K "Over") "shows") ["self", "one", "other"] (f_Over_shows K) := by
  obtain ⟨fd, F⟩ := T.d_Over_shows
  exact ⟨fd, okF_Over_shows T F, F.bindsN fun _ _ _ _ _ _ us hl => match us, hl with | [_, _, _], _ => rfl, F.kp⟩
/-! Most.__init__ -/
abbrev N_Most___init__ : List Str := ["self", "place", "amount"]
theorem sc_Most___init__ : FnScope N_Most___init__ ["self", "place", "amount"] (defScope s_Most___init__) := ⟨rfl, rfl, rfl, by decide +kernel, rfl, by decide +kernel, by decide +kernel⟩
def i_Most : List D → Option Fs := fun ds => (inSeq (inSh "place" 1) (inSeq (inSh "amount" 2) inNil)) (.no :: ds.map Sl.sh) []
theorem okI_Most {P : Program} {w : World} {K : PySem.W.Frag} {mg : Str → Option Value} {base : Heap} (T : Top K mg) : HeldI P w K mg base (ma K (ga K "Most") "__init__") (ga K "Most") 2 i_Most := by
  obtain ⟨fd, F⟩ := T.d_Most___init__
  exact ⟨fd, ["self", "place", "amount"], fn_init F sc_Most___init__ rfl rfl (fun cdv A outer s H E hr => (in_cons (in_sh T.c_Most (T.at_place _ (by simp [at_place])).2 1) (in_cons (in_sh T.c_Most (T.at_amount _ (by simp [at_amount])).2 2) in_nil))), F.bindsN fun _ _ _ _ _ _ us hl => match us, hl with | [_, _, _], _ => rfl⟩
/-! Most.shows -/
abbrev N_Most_shows : List Str := ["self", "book", "money", "due", "tariff", "there"]
theorem sc_Most_shows : FnScope N_Most_shows ["self", "book", "money"] (defScope s_Most_shows) := ⟨rfl, rfl, rfl, by decide +kernel, rfl, by decide +kernel, by decide +kernel⟩
def g_Most_shows (K : PySem.W.Frag) : Env → Res Fl :=
    (sSeq (sIf (bNot (bV (eChain leD ltD (eC (.int 0)) (eFld (at_place K) "place" (eVar 0)) (eFn lenD (aCons (eVar 1) aNil))))) (sRet (eC (.bl false))) sNil)
    (sSeq (sAsg (eOp mulD (eVar 2) (eOp ixD (eFld (at_amount K) "amount" (eVar 0)) (eC (.int 1)))) (bNm 3))
    (sSeq (sIf (bV (eOp neD (eCall (f_cost_of K) (aCons (eOp ixD (eVar 1) (eFld (at_place K) "place" (eVar 0))) (aCons (eFld (at_amount K) "amount" (eVar 0)) aNil))) (eVar 3))) (sRet (eC (.bl false))) sNil)
    (sSeq (sFor (iL (eVar 1)) (bNm 4) (sSeq (sAsg (eCall (f_cost_of K) (aCons (eVar 4) (aCons (eFld (at_amount K) "amount" (eVar 0)) aNil))) (bNm 5))
    (sIf (bOr (bV (eOp ltD (eVar 5) (eVar 3))) (bAnd (bV (eOp eqD (eVar 5) (eVar 3))) (bV (eOp eqD (eOp ixD (eVar 4) (eC (.int 1))) (eC (.int 0)))))) (sRet (eC (.bl false))) sNil)))
    (sRet (eC (.bl true)))))))
def f_Most_shows (K : PySem.W.Frag) : List D → Res D := run 6 (g_Most_shows K)
theorem okF_Most_shows {P : Program} {w : World} {K : PySem.W.Frag} {mg : Str → Option Value} {base : Heap} (T : Top K mg) {fd : FuncData} (F : L2.FunD K "shows" "Most.shows" (defArgs s_Most_shows) (defBody s_Most_shows) (defScope s_Most_shows) [] [] (ma K (ga K "Most") "shows") fd) : FnOk P w K mg base (L2.CX P w) 2 (ma K (ga K "Most") "shows") fd ["self", "book", "money"] (spD K 3 (f_Most_shows K)) := by
  refine fn_dt (N := N_Most_shows) F sc_Most_shows (fun cdv A outer s H E G P' hr gd => ?_)
  have nd := sc_Most_shows.nd
  have tk := takes_of (X := cxOf (L2.CX P w) P w K mg base N_Most_shows "Most.shows" (defScope s_Most_shows) (ma K (ga K "Most") "shows") cdv A outer s H E) rfl rfl rfl rfl
  have pow := passes_of (X := cxOf (L2.CX P w) P w K mg base N_Most_shows "Most.shows" (defScope s_Most_shows) (ma K (ga K "Most") "shows") cdv A outer s H E) rfl
  exact (sd_cons (sd_if gd (ptd_not (pt_chLL pd_int (pd_fld T.at_place (pd_var 0)) (pd_len (by rfl) T.b_len (pad_cons (pd_var 1) pad_nil)))) (sd_one (sd_ret gd pd_bl)) sd_nil)
      (sd_cons (sd_set gd (i := 3) nd (pd_mul (pd_var 2) (pd_sub' (pd_fld T.at_amount (pd_var 0)) pd_int)))
      (sd_cons (sd_if gd (pt_ne hr.units (pd_callH (ok_cost_of T) (hr.mono (by decide)) tk (by rfl) T.g_cost_of (pad_cons (pd_sub' (pd_var 1) (pd_fld T.at_place (pd_var 0))) (pad_cons (pd_fld T.at_amount (pd_var 0)) pad_nil)) (arge_cons (arge_cons arge_nil))) (pd_var 3)) (sd_one (sd_ret gd pd_bl)) sd_nil)
      (sd_cons (sd_for gd pow rfl (id_list (pd_var 1)) (gd_name (i := 4) nd) (fun G gd => (sd_cons (sd_set gd (i := 5) nd (pd_callH (ok_cost_of T) (hr.mono (by decide)) tk (by rfl) T.g_cost_of (pad_cons (pd_var 4) (pad_cons (pd_fld T.at_amount (pd_var 0)) pad_nil)) (arge_cons (arge_cons arge_nil))))
      (sd_one (sd_if gd (PW.pt (pwd_or (pt_lt (pd_var 5) (pd_var 3)) (pwd_or1 (PW.pt (pwd_and (pt_eq hr.units (pd_var 5) (pd_var 3)) (pwd_and1 (pt_eq hr.units (pd_sub' (pd_var 4) pd_int) pd_int))))))) (sd_one (sd_ret gd pd_bl)) sd_nil)))))
      (sd_one (sd_ret gd pd_bl))))))
theorem ok_Most_shows {P : Program} {w : World} {K : PySem.W.Frag} {mg : Str → Option Value} {base : Heap} (T : Top K mg) : Held P w K mg base 2 (ma K (ga K "Most") "shows") ["self", "book", "money"] (f_Most_shows K) := by
  obtain ⟨fd, F⟩ := T.d_Most_shows
  exact ⟨fd, okF_Most_shows T F, F.bindsN fun _ _ _ _ _ _ us hl => match us, hl with | [_, _, _], _ => rfl, F.kp⟩
/-! Endless.__init__ -/
abbrev N_Endless___init__ : List Str := ["self", "place"]
theorem sc_Endless___init__ : FnScope N_Endless___init__ ["self", "place"] (defScope s_Endless___init__) := ⟨rfl, rfl, rfl, by decide +kernel, rfl, by decide +kernel, by decide +kernel⟩
def i_Endless : List D → Option Fs := fun ds => (inSeq (inSh "place" 1) inNil) (.no :: ds.map Sl.sh) []
theorem okI_Endless {P : Program} {w : World} {K : PySem.W.Frag} {mg : Str → Option Value} {base : Heap} (T : Top K mg) : HeldI P w K mg base (ma K (ga K "Endless") "__init__") (ga K "Endless") 1 i_Endless := by
  obtain ⟨fd, F⟩ := T.d_Endless___init__
  exact ⟨fd, ["self", "place"], fn_init F sc_Endless___init__ rfl rfl (fun cdv A outer s H E hr => (in_cons (in_sh T.c_Endless (T.at_place _ (by simp [at_place])).2 1) in_nil)), F.bindsN fun _ _ _ _ _ _ us hl => match us, hl with | [_, _], _ => rfl⟩
/-! Endless.shows -/
abbrev N_Endless_shows : List Str := ["self", "book", "money"]
theorem sc_Endless_shows : FnScope N_Endless_shows ["self", "book", "money"] (defScope s_Endless_shows) := ⟨rfl, rfl, rfl, by decide +kernel, rfl, by decide +kernel, by decide +kernel⟩
def g_Endless_shows (K : PySem.W.Frag) : Env → Res Fl :=
    (sRet (eB (bAnd (bV (eChain leD ltD (eC (.int 0)) (eFld (at_place K) "place" (eVar 0)) (eFn lenD (aCons (eVar 1) aNil)))) (bAnd (bV (eOp eqD (eOp ixD (eOp ixD (eVar 1) (eFld (at_place K) "place" (eVar 0))) (eC (.int 1))) (eC (.int 0)))) (bV (eOp leD (eOp ixD (eOp ixD (eVar 1) (eFld (at_place K) "place" (eVar 0))) (eC (.int 0))) (eVar 2)))))))
def f_Endless_shows (K : PySem.W.Frag) : List D → Res D := run 3 (g_Endless_shows K)
theorem okF_Endless_shows {P : Program} {w : World} {K : PySem.W.Frag} {mg : Str → Option Value} {base : Heap} (T : Top K mg) {fd : FuncData} (F : L2.FunD K "shows" "Endless.shows" (defArgs s_Endless_shows) (defBody s_Endless_shows) (defScope s_Endless_shows) [] [] (ma K (ga K "Endless") "shows") fd) : FnOk P w K mg base (L2.CX P w) 1 (ma K (ga K "Endless") "shows") fd ["self", "book", "money"] (spD K 3 (f_Endless_shows K)) := by
  refine fn_dt (N := N_Endless_shows) F sc_Endless_shows (fun cdv A outer s H E G P' hr gd => ?_)
  have nd := sc_Endless_shows.nd
  have tk := takes_of (X := cxOf (L2.CX P w) P w K mg base N_Endless_shows "Endless.shows" (defScope s_Endless_shows) (ma K (ga K "Endless") "shows") cdv A outer s H E) rfl rfl rfl rfl
  have pow := passes_of (X := cxOf (L2.CX P w) P w K mg base N_Endless_shows "Endless.shows" (defScope s_Endless_shows) (ma K (ga K "Endless") "shows") cdv A outer s H E) rfl
  exact (sd_one (sd_ret gd (pd_and (pd_eB (pd_chLL pd_int (pd_fld T.at_place (pd_var 0)) (pd_len (by rfl) T.b_len (pad_cons (pd_var 1) pad_nil)))) (pd_and (pd_eB (pd_eq hr.units (pd_sub' (pd_sub' (pd_var 1) (pd_fld T.at_place (pd_var 0))) pd_int) pd_int)) (pd_one (pd_eB (pd_le (pd_sub' (pd_sub' (pd_var 1) (pd_fld T.at_place (pd_var 0))) pd_int) (pd_var 2))))))))
theorem ok_Endless_shows {P : Program} {w : World} {K : PySem.W.Frag} {mg : Str → Option Value} {base : Heap} (T : Top K mg) : Held P w K mg base 1 (ma K (ga K "Endless") "shows") ["self", "book", "money"] (f_Endless_shows K) := by
  obtain ⟨fd, F⟩ := T.d_Endless_shows
  exact ⟨fd, okF_Endless_shows T F, F.bindsN fun _ _ _ _ _ _ us hl => match us, hl with | [_, _, _], _ => rfl, F.kp⟩
/-! Dear.shows -/
abbrev N_Dear_shows : List Str := ["self", "book", "money", "tariff"]
theorem sc_Dear_shows : FnScope N_Dear_shows ["self", "book", "money"] (defScope s_Dear_shows) := ⟨rfl, rfl, rfl, by decide +kernel, rfl, by decide +kernel, by decide +kernel⟩
def g_Dear_shows (K : PySem.W.Frag) : Env → Res Fl :=
    (sRet (eFn allD (aCons (eLC [3] (bNm 3) bYes (eOp gtD (eOp ixD (eVar 3) (eC (.int 0))) (eVar 2)) (iL (eVar 1))) aNil)))
def f_Dear_shows (K : PySem.W.Frag) : List D → Res D := run 4 (g_Dear_shows K)
theorem okF_Dear_shows {P : Program} {w : World} {K : PySem.W.Frag} {mg : Str → Option Value} {base : Heap} (T : Top K mg) {fd : FuncData} (F : L2.FunD K "shows" "Dear.shows" (defArgs s_Dear_shows) (defBody s_Dear_shows) (defScope s_Dear_shows) [] [] (ma K (ga K "Dear") "shows") fd) : FnOk P w K mg base (L2.CX P w) 1 (ma K (ga K "Dear") "shows") fd ["self", "book", "money"] (spD K 3 (f_Dear_shows K)) := by
  refine fn_dt (N := N_Dear_shows) F sc_Dear_shows (fun cdv A outer s H E G P' hr gd => ?_)
  have nd := sc_Dear_shows.nd
  have tk := takes_of (X := cxOf (L2.CX P w) P w K mg base N_Dear_shows "Dear.shows" (defScope s_Dear_shows) (ma K (ga K "Dear") "shows") cdv A outer s H E) rfl rfl rfl rfl
  have pow := passes_of (X := cxOf (L2.CX P w) P w K mg base N_Dear_shows "Dear.shows" (defScope s_Dear_shows) (ma K (ga K "Dear") "shows") cdv A outer s H E) rfl
  exact (sd_one (sd_ret gd (pd_all (by rfl) (by rfl) T.b_all (pad_cons (pd_lc (own := [("tariff", 3)]) (by rfl) nd (id_list (pd_var 1)) (blkOk_by (own := [("tariff", 3)]) (N := N_Dear_shows) (sc := defScope s_Dear_shows) (by decide +kernel)) (by decide) (fun _ _ _ _ _ => (gd_name (i := 3) nd)) (fun _ _ _ _ _ => ptsd_nil) (fun _ _ _ _ _ => (pd_gt (pd_sub' (pd_var 3) pd_int) (pd_var 2)))) pad_nil))))
theorem ok_Dear_shows {P : Program} {w : World} {K : PySem.W.Frag} {mg : Str → Option Value} {base : Heap} (T : Top K mg) : Held P w K mg base 1 (ma K (ga K "Dear") "shows") ["self", "book", "money"] (f_Dear_shows K) := by
  obtain ⟨fd, F⟩ := T.d_Dear_shows
  exact ⟨fd, okF_Dear_shows T F, F.bindsN fun _ _ _ _ _ _ us hl => match us, hl with | [_, _, _], _ => rfl, F.kp⟩
/-! next_of -/
abbrev N_next_of : List Str := ["book", "now", "best", "place", "tariff", "above", "below"]
theorem sc_next_of : FnScope N_next_of ["book", "now"] (defScope s_next_of) := ⟨rfl, rfl, rfl, by decide +kernel, rfl, by decide +kernel, by decide +kernel⟩
def g_next_of (K : PySem.W.Frag) : Env → Res Fl :=
    (sSeq (sAsg (eC .non) (bNm 2))
    (sSeq (sFor (iE (aCons (eVar 0) aNil)) (bTup (bsCons (bNm 3) (bsCons (bNm 4) bsNil))) (sIf (bV (eOp ltD (eOp ixD (eVar 4) (eC (.int 1))) (eOp ixD (eOp ixD (eVar 0) (eVar 1)) (eC (.int 1))))) (sSeq (sPar 5 6 (aCons (eOp subD (eOp ixD (eVar 4) (eC (.int 0))) (eOp ixD (eOp ixD (eVar 0) (eVar 1)) (eC (.int 0)))) (aCons (eOp subD (eOp ixD (eOp ixD (eVar 0) (eVar 1)) (eC (.int 1))) (eOp ixD (eVar 4) (eC (.int 1)))) aNil)))
    (sIf (bOr (bV (eOp isD (eVar 2) (eC .non))) (bV (eOp ltD (eOp mulD (eVar 5) (eOp ixD (eVar 2) (eC (.int 1)))) (eOp mulD (eOp ixD (eVar 2) (eC (.int 0))) (eVar 6))))) (sAsg (eTup (aCons (eVar 5) (aCons (eVar 6) (aCons (eVar 3) aNil)))) (bNm 2)) (sIf (bAnd (bV (eOp eqD (eOp mulD (eVar 5) (eOp ixD (eVar 2) (eC (.int 1)))) (eOp mulD (eOp ixD (eVar 2) (eC (.int 0))) (eVar 6)))) (bV (eOp ltD (eOp ixD (eVar 4) (eC (.int 1))) (eOp ixD (eOp ixD (eVar 0) (eOp ixD (eVar 2) (eC (.int 2)))) (eC (.int 1)))))) (sAsg (eTup (aCons (eVar 5) (aCons (eVar 6) (aCons (eVar 3) aNil)))) (bNm 2)) sNil))) sNil))
    (sRet (eVar 2))))
def f_next_of (K : PySem.W.Frag) : List D → Res D := run 7 (g_next_of K)
theorem okF_next_of {P : Program} {w : World} {K : PySem.W.Frag} {mg : Str → Option Value} {base : Heap} (T : Top K mg) {fd : FuncData} (F : L2.FunD K "next_of" "next_of" (defArgs s_next_of) (defBody s_next_of) (defScope s_next_of) [] [] (ga K "next_of") fd) : FnOk P w K mg base (L2.CX P w) 1 (ga K "next_of") fd ["book", "now"] (spD K 2 (f_next_of K)) := by
  refine fn_dt (N := N_next_of) F sc_next_of (fun cdv A outer s H E G P' hr gd => ?_)
  have nd := sc_next_of.nd
  have tk := takes_of (X := cxOf (L2.CX P w) P w K mg base N_next_of "next_of" (defScope s_next_of) (ga K "next_of") cdv A outer s H E) rfl rfl rfl rfl
  have pow := passes_of (X := cxOf (L2.CX P w) P w K mg base N_next_of "next_of" (defScope s_next_of) (ga K "next_of") cdv A outer s H E) rfl
  exact (sd_cons (sd_set gd (i := 2) nd pd_non)
      (sd_cons (sd_for gd pow rfl (id_enum (by rfl) T.b_enumerate (pad_cons (pd_var 0) pad_nil)) (gd_tup rfl (gds_cons (gd_name (i := 3) nd) (gds_cons (gd_name (i := 4) nd) gds_nil)) (btn_cons (btn_cons btn_nil))) (fun G gd => (sd_one (sd_if gd (pt_lt (pd_sub' (pd_var 4) pd_int) (pd_sub' (pd_sub' (pd_var 0) (pd_var 1)) pd_int)) (sd_cons (sd_par gd (i := 5) (j := 6) rfl nd (pad_cons (pd_sub (pd_sub' (pd_var 4) pd_int) (pd_sub' (pd_sub' (pd_var 0) (pd_var 1)) pd_int)) (pad_cons (pd_sub (pd_sub' (pd_sub' (pd_var 0) (pd_var 1)) pd_int) (pd_sub' (pd_var 4) pd_int)) pad_nil)))
      (sd_one (sd_if gd (PW.pt (pwd_or (pt_is (pd_var 2) pd_non) (pwd_or1 (pt_lt (pd_mul (pd_var 5) (pd_sub' (pd_var 2) pd_int)) (pd_mul (pd_sub' (pd_var 2) pd_int) (pd_var 6)))))) (sd_one (sd_set gd (i := 2) nd (pd_tup (pad_cons (pd_var 5) (pad_cons (pd_var 6) (pad_cons (pd_var 3) pad_nil))) (arge_cons (arge_cons (arge_cons arge_nil))).le))) (sd_one (sd_if gd (PW.pt (pwd_and (pt_eq hr.units (pd_mul (pd_var 5) (pd_sub' (pd_var 2) pd_int)) (pd_mul (pd_sub' (pd_var 2) pd_int) (pd_var 6))) (pwd_and1 (pt_lt (pd_sub' (pd_var 4) pd_int) (pd_sub' (pd_sub' (pd_var 0) (pd_sub' (pd_var 2) pd_int)) pd_int))))) (sd_one (sd_set gd (i := 2) nd (pd_tup (pad_cons (pd_var 5) (pad_cons (pd_var 6) (pad_cons (pd_var 3) pad_nil))) (arge_cons (arge_cons (arge_cons arge_nil))).le))) sd_nil))))) sd_nil))))
      (sd_one (sd_ret gd (pd_var 2)))))
theorem ok_next_of {P : Program} {w : World} {K : PySem.W.Frag} {mg : Str → Option Value} {base : Heap} (T : Top K mg) : Held P w K mg base 1 (ga K "next_of") ["book", "now"] (f_next_of K) := by
  obtain ⟨fd, F⟩ := T.d_next_of
  exact ⟨fd, okF_next_of T F, F.bindsN fun _ _ _ _ _ _ us hl => match us, hl with | [_, _], _ => rfl, F.kp⟩
/-! ranges_of -/
abbrev N_ranges_of : List Str := ["book", "now", "place", "tariff", "begins", "places", "best"]
theorem sc_ranges_of : FnScope N_ranges_of ["book"] (defScope s_ranges_of) := ⟨rfl, rfl, rfl, by decide +kernel, rfl, by decide +kernel, by decide +kernel⟩
def g_ranges_of (K : PySem.W.Frag) : Env → Res Fl :=
    (sSeq (sAsg (eOp ixD (eFn minTD (aCons (eLC [2, 3] (bTup (bsCons (bNm 2) (bsCons (bNm 3) bsNil))) bYes (eTup (aCons (eVar 3) (aCons (eVar 2) aNil))) (iE (aCons (eVar 0) aNil))) aNil)) (eC (.int 1))) (bNm 1))
    (sSeq (sParO 4 5 (aCons (eC c_NONE) aNil) (aCons (eVar 1) aNil))
    (sSeq (sAsg (eCall (f_next_of K) (aCons (eVar 0) (aCons (eVar 1) aNil))) (bNm 6))
    (sSeq (sWhile (fun env => Dt.fuelL 0 env) (bV (eOp isnD (eVar 6) (eC .non))) (sSeq (sApp 4 (eCall (f_lowest K) (aCons (eOp ixD (eVar 6) (eC (.int 0))) (aCons (eOp ixD (eVar 6) (eC (.int 1))) aNil))))
    (sSeq (sApp 5 (eOp ixD (eVar 6) (eC (.int 2))))
    (sAsg (eCall (f_next_of K) (aCons (eVar 0) (aCons (eOp ixD (eVar 6) (eC (.int 2))) aNil))) (bNm 6)))))
    (fun env => (fun env => (sRet (eTup (aCons (eVar 4) (aCons (eVar 5) aNil)))) (frz 4 env)) (frz 5 env))))))
def f_ranges_of (K : PySem.W.Frag) : List D → Res D := run 7 (g_ranges_of K)
theorem okF_ranges_of {P : Program} {w : World} {K : PySem.W.Frag} {mg : Str → Option Value} {base : Heap} (T : Top K mg) {fd : FuncData} (F : L2.FunD K "ranges_of" "ranges_of" (defArgs s_ranges_of) (defBody s_ranges_of) (defScope s_ranges_of) [] [] (ga K "ranges_of") fd) : FnOk P w K mg base (L2.CX P w) 3 (ga K "ranges_of") fd ["book"] (spD K 1 (f_ranges_of K)) := by
  refine fn_dt (N := N_ranges_of) F sc_ranges_of (fun cdv A outer s H E G P' hr gd => ?_)
  have nd := sc_ranges_of.nd
  have tk := takes_of (X := cxOf (L2.CX P w) P w K mg base N_ranges_of "ranges_of" (defScope s_ranges_of) (ga K "ranges_of") cdv A outer s H E) rfl rfl rfl rfl
  have pow := passes_of (X := cxOf (L2.CX P w) P w K mg base N_ranges_of "ranges_of" (defScope s_ranges_of) (ga K "ranges_of") cdv A outer s H E) rfl
  exact (sd_cons (sd_set gd (i := 1) nd (pd_sub' (pd_minT hr.units (by rfl) (by rfl) T.b_min (pad_cons (pd_lc (own := [("place", 2), ("tariff", 3)]) (by rfl) nd (id_enum (by rfl) T.b_enumerate (pad_cons (pd_var 0) pad_nil)) (blkOk_by (own := [("place", 2), ("tariff", 3)]) (N := N_ranges_of) (sc := defScope s_ranges_of) (by decide +kernel)) (by decide) (fun _ _ _ _ _ => (gd_tup rfl (gds_cons (gd_name (i := 2) nd) (gds_cons (gd_name (i := 3) nd) gds_nil)) (btn_cons (btn_cons btn_nil)))) (fun _ _ _ _ _ => ptsd_nil) (fun _ _ _ _ _ => (pd_tup (pad_cons (pd_var 3) (pad_cons (pd_var 2) pad_nil)) (arge_cons (arge_cons arge_nil)).le))) pad_nil)) pd_int))
      (sd_cons (sd_parO gd (i := 4) (j := 5) rfl nd (pad_cons (pd_globR (by rfl) T.g_NONE T.k_NONE) pad_nil) (pad_cons (pd_var 1) pad_nil) (arge_cons arge_nil).le (arge_cons arge_nil).le)
      (sd_cons (sd_set gd (i := 6) nd (pd_callH (ok_next_of T) (hr.mono (by decide)) tk (by rfl) T.g_next_of (pad_cons (pd_var 0) (pad_cons (pd_var 1) pad_nil)) (arge_cons (arge_cons arge_nil))))
      (sd_cons (sd_while gd (fun env => Dt.fuelL 0 env) pow (pt_isn (pd_var 6) pd_non) (sd_cons (sd_app gd 4 (pd_callH (ok_lowest T) (hr.mono (by decide)) tk (by rfl) T.g_lowest (pad_cons (pd_sub' (pd_var 6) pd_int) (pad_cons (pd_sub' (pd_var 6) pd_int) pad_nil)) (arge_cons (arge_cons arge_nil))))
      (sd_cons (sd_app gd 5 (pd_sub' (pd_var 6) pd_int))
      (sd_one (sd_set gd (i := 6) nd (pd_callH (ok_next_of T) (hr.mono (by decide)) tk (by rfl) T.g_next_of (pad_cons (pd_var 0) (pad_cons (pd_sub' (pd_var 6) pd_int) pad_nil)) (arge_cons (arge_cons arge_nil))))))))
      (sd_frz gd 5 (sd_frz gd 4 (sd_one (sd_ret gd (pd_tup (pad_cons (pd_var 4) (pad_cons (pd_var 5) pad_nil)) (arge_cons (arge_cons arge_nil)).le)))))))))
theorem ok_ranges_of {P : Program} {w : World} {K : PySem.W.Frag} {mg : Str → Option Value} {base : Heap} (T : Top K mg) : Held P w K mg base 3 (ga K "ranges_of") ["book"] (f_ranges_of K) := by
  obtain ⟨fd, F⟩ := T.d_ranges_of
  exact ⟨fd, okF_ranges_of T F, F.bindsN fun _ _ _ _ _ _ us hl => match us, hl with | [_], _ => rfl, F.kp⟩
/-! against -/
abbrev N_against : List Str := ["book", "spans", "tariff", "begins", "places", "begin", "place", "last", "at", "other", "one"]
theorem sc_against : FnScope N_against ["book", "spans", "tariff"] (defScope s_against) := ⟨rfl, rfl, rfl, by decide +kernel, rfl, by decide +kernel, by decide +kernel⟩
def g_against (K : PySem.W.Frag) : Env → Res Fl :=
    (sSeq (sAsg (eVar 1) (bTup (bsCons (bNm 3) (bsCons (bNm 4) bsNil))))
    (sSeq (sFor (iZ (aCons (eVar 3) (aCons (eVar 4) aNil))) (bTup (bsCons (bNm 5) (bsCons (bNm 6) bsNil))) (sIf (bV (eOp gtD (eCall (f_cost_of K) (aCons (eOp ixD (eVar 0) (eVar 6)) (aCons (eVar 5) aNil))) (eCall (f_cost_of K) (aCons (eVar 2) (aCons (eVar 5) aNil))))) (sRet (eTup (aCons (eVar 5) (aCons (eC .non) aNil)))) sNil))
    (sSeq (sAsg (eOp ixD (eVar 0) (eOp ixD (eVar 4) (eUn negD (eC (.int 1))))) (bNm 7))
    (sSeq (sIf (bV (eOp gtD (eOp ixD (eVar 7) (eC (.int 1))) (eOp ixD (eVar 2) (eC (.int 1))))) (sRet (eTup (aCons (eTup (aCons (eOp addD (eOp divD (eOp subD (eOp ixD (eVar 2) (eC (.int 0))) (eOp ixD (eVar 7) (eC (.int 0)))) (eOp subD (eOp ixD (eVar 7) (eC (.int 1))) (eOp ixD (eVar 2) (eC (.int 1))))) (eC (.int 1))) (aCons (eC (.int 1)) aNil))) (aCons (eC .non) aNil)))) sNil)
    (sSeq (sAsg (eC (.int 0)) (bNm 8))
    (sSeq (sWhile (fun env => Dt.fuelL 4 env) (bV (eOp gtD (eOp ixD (eOp ixD (eVar 0) (eOp ixD (eVar 4) (eVar 8))) (eC (.int 1))) (eOp ixD (eVar 2) (eC (.int 1))))) (sAugA 8 (eC (.int 1))))
    (sSeq (sAsg (eOp ixD (eVar 4) (eVar 8)) (bNm 9))
    (sSeq (sIf (bV (eOp eqD (eVar 8) (eC (.int 0)))) (sRet (eTup (aCons (eC .non) (aCons (eTup (aCons (eVar 9) (aCons (eVar 9) (aCons (eC (.int 1)) (aCons (eC (.int 0)) aNil))))) aNil)))) sNil)
    (sSeq (sAsg (eOp ixD (eVar 4) (eOp subD (eVar 8) (eC (.int 1)))) (bNm 10))
    (sRet (eTup (aCons (eC .non) (aCons (eTup (aCons (eVar 10) (aCons (eVar 9) (aCons (eOp subD (eOp ixD (eVar 2) (eC (.int 1))) (eOp ixD (eOp ixD (eVar 0) (eVar 9)) (eC (.int 1)))) (aCons (eOp subD (eOp ixD (eOp ixD (eVar 0) (eVar 10)) (eC (.int 1))) (eOp ixD (eVar 2) (eC (.int 1)))) aNil))))) aNil)))))))))))))
def f_against (K : PySem.W.Frag) : List D → Res D := run 11 (g_against K)
theorem okF_against {P : Program} {w : World} {K : PySem.W.Frag} {mg : Str → Option Value} {base : Heap} (T : Top K mg) {fd : FuncData} (F : L2.FunD K "against" "against" (defArgs s_against) (defBody s_against) (defScope s_against) [] [] (ga K "against") fd) : FnOk P w K mg base (L2.CX P w) 2 (ga K "against") fd ["book", "spans", "tariff"] (spD K 3 (f_against K)) := by
  refine fn_dt (N := N_against) F sc_against (fun cdv A outer s H E G P' hr gd => ?_)
  have nd := sc_against.nd
  have tk := takes_of (X := cxOf (L2.CX P w) P w K mg base N_against "against" (defScope s_against) (ga K "against") cdv A outer s H E) rfl rfl rfl rfl
  have pow := passes_of (X := cxOf (L2.CX P w) P w K mg base N_against "against" (defScope s_against) (ga K "against") cdv A outer s H E) rfl
  exact (sd_cons (sd_asg gd (pd_var 1) (gd_tup rfl (gds_cons (gd_name (i := 3) nd) (gds_cons (gd_name (i := 4) nd) gds_nil)) (btn_cons (btn_cons btn_nil))))
      (sd_cons (sd_for gd pow rfl (id_zip (by rfl) T.b_zip (pad_cons (pd_var 3) (pad_cons (pd_var 4) pad_nil))) (gd_tup rfl (gds_cons (gd_name (i := 5) nd) (gds_cons (gd_name (i := 6) nd) gds_nil)) (btn_cons (btn_cons btn_nil))) (fun G gd => (sd_one (sd_if gd (pt_gt (pd_callH (ok_cost_of T) (hr.mono (by decide)) tk (by rfl) T.g_cost_of (pad_cons (pd_sub' (pd_var 0) (pd_var 6)) (pad_cons (pd_var 5) pad_nil)) (arge_cons (arge_cons arge_nil))) (pd_callH (ok_cost_of T) (hr.mono (by decide)) tk (by rfl) T.g_cost_of (pad_cons (pd_var 2) (pad_cons (pd_var 5) pad_nil)) (arge_cons (arge_cons arge_nil)))) (sd_one (sd_ret gd (pd_tup (pad_cons (pd_var 5) (pad_cons pd_non pad_nil)) (arge_cons (arge_cons arge_nil)).le))) sd_nil))))
      (sd_cons (sd_set gd (i := 7) nd (pd_sub' (pd_var 0) (pd_sub' (pd_var 4) (pd_neg pd_int))))
      (sd_cons (sd_if gd (pt_gt (pd_sub' (pd_var 7) pd_int) (pd_sub' (pd_var 2) pd_int)) (sd_one (sd_ret gd (pd_tup (pad_cons (pd_tup (pad_cons (pd_add (pd_div (pd_sub (pd_sub' (pd_var 2) pd_int) (pd_sub' (pd_var 7) pd_int)) (pd_sub (pd_sub' (pd_var 7) pd_int) (pd_sub' (pd_var 2) pd_int))) pd_int) (pad_cons pd_int pad_nil)) (arge_cons (arge_cons arge_nil)).le) (pad_cons pd_non pad_nil)) (arge_cons (arge_cons arge_nil)).le))) sd_nil)
      (sd_cons (sd_set gd (i := 8) nd pd_int)
      (sd_cons (sd_while gd (fun env => Dt.fuelL 4 env) pow (pt_gt (pd_sub' (pd_sub' (pd_var 0) (pd_sub' (pd_var 4) (pd_var 8))) pd_int) (pd_sub' (pd_var 2) pd_int)) (sd_one (sd_augA gd (i := 8) nd pd_int)))
      (sd_cons (sd_set gd (i := 9) nd (pd_sub' (pd_var 4) (pd_var 8)))
      (sd_cons (sd_if gd (pt_eq hr.units (pd_var 8) pd_int) (sd_one (sd_ret gd (pd_tup (pad_cons pd_non (pad_cons (pd_tup (pad_cons (pd_var 9) (pad_cons (pd_var 9) (pad_cons pd_int (pad_cons pd_int pad_nil)))) (arge_cons (arge_cons (arge_cons (arge_cons arge_nil)))).le) pad_nil)) (arge_cons (arge_cons arge_nil)).le))) sd_nil)
      (sd_cons (sd_set gd (i := 10) nd (pd_sub' (pd_var 4) (pd_sub (pd_var 8) pd_int)))
      (sd_one (sd_ret gd (pd_tup (pad_cons pd_non (pad_cons (pd_tup (pad_cons (pd_var 10) (pad_cons (pd_var 9) (pad_cons (pd_sub (pd_sub' (pd_var 2) pd_int) (pd_sub' (pd_sub' (pd_var 0) (pd_var 9)) pd_int)) (pad_cons (pd_sub (pd_sub' (pd_sub' (pd_var 0) (pd_var 10)) pd_int) (pd_sub' (pd_var 2) pd_int)) pad_nil)))) (arge_cons (arge_cons (arge_cons (arge_cons arge_nil)))).le) pad_nil)) (arge_cons (arge_cons arge_nil)).le))))))))))))
theorem ok_against {P : Program} {w : World} {K : PySem.W.Frag} {mg : Str → Option Value} {base : Heap} (T : Top K mg) : Held P w K mg base 2 (ga K "against") ["book", "spans", "tariff"] (f_against K) := by
  obtain ⟨fd, F⟩ := T.d_against
  exact ⟨fd, okF_against T F, F.bindsN fun _ _ _ _ _ _ us hl => match us, hl with | [_, _, _], _ => rfl, F.kp⟩
/-! ranges -/
abbrev N_ranges : List Str := ["book", "begins", "places"]
theorem sc_ranges : FnScope N_ranges ["book"] (defScope s_ranges) := ⟨rfl, rfl, rfl, by decide +kernel, rfl, by decide +kernel, by decide +kernel⟩
def g_ranges (K : PySem.W.Frag) : Env → Res Fl :=
    (sSeq (sDrop (eCall (f_check_book K) (aCons (eVar 0) aNil)))
    (sSeq (sAsg (eCall (f_ranges_of K) (aCons (eVar 0) aNil)) (bTup (bsCons (bNm 1) (bsCons (bNm 2) bsNil))))
    (sRet (eMk (ga K "Ranges") i_Ranges (aCons (eVar 1) (aCons (eVar 2) aNil))))))
def f_ranges (K : PySem.W.Frag) : List D → Res D := run 3 (g_ranges K)
theorem okF_ranges {P : Program} {w : World} {K : PySem.W.Frag} {mg : Str → Option Value} {base : Heap} (T : Top K mg) {fd : FuncData} (F : L2.FunD K "ranges" "ranges" (defArgs s_ranges) (defBody s_ranges) (defScope s_ranges) [] [] (ga K "ranges") fd) : FnOk P w K mg base (L2.CX P w) 4 (ga K "ranges") fd ["book"] (spD K 1 (f_ranges K)) := by
  refine fn_dt (N := N_ranges) F sc_ranges (fun cdv A outer s H E G P' hr gd => ?_)
  have nd := sc_ranges.nd
  have tk := takes_of (X := cxOf (L2.CX P w) P w K mg base N_ranges "ranges" (defScope s_ranges) (ga K "ranges") cdv A outer s H E) rfl rfl rfl rfl
  have pow := passes_of (X := cxOf (L2.CX P w) P w K mg base N_ranges "ranges" (defScope s_ranges) (ga K "ranges") cdv A outer s H E) rfl
  exact (sd_cons (sd_drop gd (pd_callH (ok_check_book T) (hr.mono (by decide)) tk (by rfl) T.g_check_book (pad_cons (pd_var 0) pad_nil) (arge_cons arge_nil)))
      (sd_cons (sd_asg gd (pd_callH (ok_ranges_of T) (hr.mono (by decide)) tk (by rfl) T.g_ranges_of (pad_cons (pd_var 0) pad_nil) (arge_cons arge_nil)) (gd_tup rfl (gds_cons (gd_name (i := 1) nd) (gds_cons (gd_name (i := 2) nd) gds_nil)) (btn_cons (btn_cons btn_nil))))
      (sd_one (sd_ret gd (pd_make (okI_Ranges T) (hr.mono (by decide)) T.k_Ranges (by rfl) T.g_Ranges (pad_cons (pd_var 1) (pad_cons (pd_var 2) pad_nil)) (arge_cons (arge_cons arge_nil)))))))
theorem ok_ranges {P : Program} {w : World} {K : PySem.W.Frag} {mg : Str → Option Value} {base : Heap} (T : Top K mg) : Held P w K mg base 4 (ga K "ranges") ["book"] (f_ranges K) := by
  obtain ⟨fd, F⟩ := T.d_ranges
  exact ⟨fd, okF_ranges T F, F.bindsN fun _ _ _ _ _ _ us hl => match us, hl with | [_], _ => rfl, F.kp⟩
/-! under -/
abbrev N_under : List Str := ["one", "other", "rows", "spans", "tariff", "amount", "mixture"]
theorem sc_under : FnScope N_under ["one", "other"] (defScope s_under) := ⟨rfl, rfl, rfl, by decide +kernel, rfl, by decide +kernel, by decide +kernel⟩
def g_under (K : PySem.W.Frag) : Env → Res Fl :=
    (sSeq (sDrop (eCall (f_check_book K) (aCons (eVar 0) aNil)))
    (sSeq (sDrop (eCall (f_check_book K) (aCons (eVar 1) aNil)))
    (sSeq (sAsgO 2 aNil)
    (sSeq (sAsg (eCall (f_ranges_of K) (aCons (eVar 0) aNil)) (bNm 3))
    (sSeq (sFor (iL (eVar 1)) (bNm 4) (sSeq (sAsg (eCall (f_against K) (aCons (eVar 0) (aCons (eVar 3) (aCons (eVar 4) aNil)))) (bTup (bsCons (bNm 5) (bsCons (bNm 6) bsNil))))
    (sSeq (sIf (bV (eOp isnD (eVar 5) (eC .non))) (sRet (eMk (ga K "Over") i_Over (aCons (eVar 5) aNil))) sNil)
    (sApp 2 (eVar 6)))))
    (fun env => (sRet (eMk (ga K "Under") i_Under (aCons (eVar 2) aNil))) (frz 2 env)))))))
def f_under (K : PySem.W.Frag) : List D → Res D := run 7 (g_under K)
theorem okF_under {P : Program} {w : World} {K : PySem.W.Frag} {mg : Str → Option Value} {base : Heap} (T : Top K mg) {fd : FuncData} (F : L2.FunD K "under" "under" (defArgs s_under) (defBody s_under) (defScope s_under) [] [] (ga K "under") fd) : FnOk P w K mg base (L2.CX P w) 4 (ga K "under") fd ["one", "other"] (spD K 2 (f_under K)) := by
  refine fn_dt (N := N_under) F sc_under (fun cdv A outer s H E G P' hr gd => ?_)
  have nd := sc_under.nd
  have tk := takes_of (X := cxOf (L2.CX P w) P w K mg base N_under "under" (defScope s_under) (ga K "under") cdv A outer s H E) rfl rfl rfl rfl
  have pow := passes_of (X := cxOf (L2.CX P w) P w K mg base N_under "under" (defScope s_under) (ga K "under") cdv A outer s H E) rfl
  exact (sd_cons (sd_drop gd (pd_callH (ok_check_book T) (hr.mono (by decide)) tk (by rfl) T.g_check_book (pad_cons (pd_var 0) pad_nil) (arge_cons arge_nil)))
      (sd_cons (sd_drop gd (pd_callH (ok_check_book T) (hr.mono (by decide)) tk (by rfl) T.g_check_book (pad_cons (pd_var 1) pad_nil) (arge_cons arge_nil)))
      (sd_cons (sd_setO gd (i := 2) nd pad_nil arge_nil.le)
      (sd_cons (sd_set gd (i := 3) nd (pd_callH (ok_ranges_of T) (hr.mono (by decide)) tk (by rfl) T.g_ranges_of (pad_cons (pd_var 0) pad_nil) (arge_cons arge_nil)))
      (sd_cons (sd_for gd pow rfl (id_list (pd_var 1)) (gd_name (i := 4) nd) (fun G gd => (sd_cons (sd_asg gd (pd_callH (ok_against T) (hr.mono (by decide)) tk (by rfl) T.g_against (pad_cons (pd_var 0) (pad_cons (pd_var 3) (pad_cons (pd_var 4) pad_nil))) (arge_cons (arge_cons (arge_cons arge_nil)))) (gd_tup rfl (gds_cons (gd_name (i := 5) nd) (gds_cons (gd_name (i := 6) nd) gds_nil)) (btn_cons (btn_cons btn_nil))))
      (sd_cons (sd_if gd (pt_isn (pd_var 5) pd_non) (sd_one (sd_ret gd (pd_make (okI_Over T) (hr.mono (by decide)) T.k_Over (by rfl) T.g_Over (pad_cons (pd_var 5) pad_nil) (arge_cons arge_nil)))) sd_nil)
      (sd_one (sd_app gd 2 (pd_var 6)))))))
      (sd_frz gd 2 (sd_one (sd_ret gd (pd_make (okI_Under T) (hr.mono (by decide)) T.k_Under (by rfl) T.g_Under (pad_cons (pd_var 2) pad_nil) (arge_cons arge_nil))))))))))
theorem ok_under {P : Program} {w : World} {K : PySem.W.Frag} {mg : Str → Option Value} {base : Heap} (T : Top K mg) : Held P w K mg base 4 (ga K "under") ["one", "other"] (f_under K) := by
  obtain ⟨fd, F⟩ := T.d_under
  exact ⟨fd, okF_under T F, F.bindsN fun _ _ _ _ _ _ us hl => match us, hl with | [_, _], _ => rfl, F.kp⟩
/-! _law_book -/
abbrev N__law_book : List Str := ["_law_script", "_law_code", "_law_size", "_law_rests", "_law_cell", "_law_found", "_law_rest", "_law_many", "_law_k"]
theorem sc__law_book : FnScope N__law_book ["_law_script"] (defScope s__law_book) := ⟨rfl, rfl, rfl, by decide +kernel, rfl, by decide +kernel, by decide +kernel⟩
def g__law_book (K : PySem.W.Frag) : Env → Res Fl :=
    (sSeq (sAsg (eFn sumD (aCons (eVar 0) aNil)) (bNm 1))
    (sSeq (sAsg (eOp ixD (eTup (aCons (eC (.int 9)) (aCons (eC (.int 60)) (aCons (eOp powD (eC (.int 10)) (eC (.int 30))) (aCons (eC (.int 9)) aNil))))) (eOp modD (eOp divD (eVar 1) (eC (.int 7))) (eC (.int 4)))) (bNm 2))
    (sSeq (sAsg (eLC [4] (bNm 4) bYes (eOp addD (eOp divD (eVar 4) (eVar 2)) (eOp mulD (eOp divD (eVar 4) (eC (.int 7))) (eOp subD (eC (.int 1)) (eOp mulD (eOp modD (eVar 4) (eC (.int 2))) (eC (.int 2)))))) (iL (eVar 0))) (bNm 3))
    (sSeq (sAsg (eLC [4, 6] (bTup (bsCons (bNm 4) (bsCons (bNm 6) bsNil))) bYes (eTup (aCons (eOp modD (eVar 4) (eVar 2)) (aCons (eOp modD (eVar 6) (eVar 2)) aNil))) (iZ (aCons (eVar 0) (aCons (eVar 3) aNil)))) (bNm 5))
    (sSeq (sIf (bV (eOp eqD (eOp modD (eOp divD (eVar 1) (eC (.int 4))) (eC (.int 11))) (eC (.int 5)))) (sSeq (sAsg (eOp addD (eC (.int 1)) (eOp modD (eOp divD (eVar 1) (eC (.int 44))) (eC (.int 24)))) (bNm 7))
    (sAsg (eOp addD (eVar 5) (eLC [8] (bNm 8) bYes (eTup (aCons (eOp addD (eOp mulD (eOp divD (eOp mulD (eVar 8) (eOp addD (eVar 8) (eC (.int 1)))) (eC (.int 2))) (eOp addD (eC (.int 1)) (eOp modD (eVar 1) (eC (.int 5))))) (eOp modD (eOp divD (eVar 1) (eC (.int 7))) (eC (.int 9)))) (aCons (eOp subD (eVar 7) (eVar 8)) aNil))) (iR1 (aCons (eVar 7) aNil)))) (bNm 5))) sNil)
    (sRet (eIf (bV (eOp neD (eVar 5) (eLst aNil))) (eVar 5) (eLst (aCons (eTup (aCons (eOp modD (eVar 1) (eC (.int 5))) (aCons (eC (.int 3)) aNil))) aNil)))))))))
def f__law_book (K : PySem.W.Frag) : List D → Res D := run 9 (g__law_book K)
theorem okF__law_book {P : Program} {w : World} {K : PySem.W.Frag} {mg : Str → Option Value} {base : Heap} (T : Top K mg) {fd : FuncData} (F : L2.FunD K "_law_book" "_law_book" (defArgs s__law_book) (defBody s__law_book) (defScope s__law_book) [] [] (ga K "_law_book") fd) : FnOk P w K mg base (L2.CX P w) 1 (ga K "_law_book") fd ["_law_script"] (spD K 1 (f__law_book K)) := by
  refine fn_dt (N := N__law_book) F sc__law_book (fun cdv A outer s H E G P' hr gd => ?_)
  have nd := sc__law_book.nd
  have tk := takes_of (X := cxOf (L2.CX P w) P w K mg base N__law_book "_law_book" (defScope s__law_book) (ga K "_law_book") cdv A outer s H E) rfl rfl rfl rfl
  have pow := passes_of (X := cxOf (L2.CX P w) P w K mg base N__law_book "_law_book" (defScope s__law_book) (ga K "_law_book") cdv A outer s H E) rfl
  exact (sd_cons (sd_set gd (i := 1) nd (pd_sum (by rfl) (by rfl) T.b_sum (pad_cons (pd_var 0) pad_nil)))
      (sd_cons (sd_set gd (i := 2) nd (pd_sub' (pd_tup (pad_cons pd_int (pad_cons pd_int (pad_cons (pd_pow pd_int pd_int) (pad_cons pd_int pad_nil)))) (arge_cons (arge_cons (arge_cons (arge_cons arge_nil)))).le) (pd_mod (pd_div (pd_var 1) pd_int) pd_int)))
      (sd_cons (sd_setLc gd (i := 3) (own := [("_law_cell", 4)]) (by rfl) nd (id_list (pd_var 0)) (blkOk_by (own := [("_law_cell", 4)]) (N := N__law_book) (sc := defScope s__law_book) (by decide +kernel)) (by decide) (fun _ _ _ _ _ => (gd_name (i := 4) nd)) (fun _ _ _ _ _ => ptsd_nil) (fun _ _ _ _ _ => (pd_add (pd_div (pd_var 4) (pd_var 2)) (pd_mul (pd_div (pd_var 4) pd_int) (pd_sub pd_int (pd_mul (pd_mod (pd_var 4) pd_int) pd_int))))))
      (sd_cons (sd_setLc gd (i := 5) (own := [("_law_cell", 4), ("_law_rest", 6)]) (by rfl) nd (id_zip (by rfl) T.b_zip (pad_cons (pd_var 0) (pad_cons (pd_var 3) pad_nil))) (blkOk_by (own := [("_law_cell", 4), ("_law_rest", 6)]) (N := N__law_book) (sc := defScope s__law_book) (by decide +kernel)) (by decide) (fun _ _ _ _ _ => (gd_tup rfl (gds_cons (gd_name (i := 4) nd) (gds_cons (gd_name (i := 6) nd) gds_nil)) (btn_cons (btn_cons btn_nil)))) (fun _ _ _ _ _ => ptsd_nil) (fun _ _ _ _ _ => (pd_tup (pad_cons (pd_mod (pd_var 4) (pd_var 2)) (pad_cons (pd_mod (pd_var 6) (pd_var 2)) pad_nil)) (arge_cons (arge_cons arge_nil)).le)))
      (sd_cons (sd_if gd (pt_eq hr.units (pd_mod (pd_div (pd_var 1) pd_int) pd_int) pd_int) (sd_cons (sd_set gd (i := 7) nd (pd_add pd_int (pd_mod (pd_div (pd_var 1) pd_int) pd_int)))
      (sd_one (sd_set gd (i := 5) nd (pd_add (pd_var 5) (pd_lc (own := [("_law_k", 8)]) (by rfl) nd (id_range1 (by rfl) T.b_range (pad_cons (pd_var 7) pad_nil)) (blkOk_by (own := [("_law_k", 8)]) (N := N__law_book) (sc := defScope s__law_book) (by decide +kernel)) (by decide) (fun _ _ _ _ _ => (gd_name (i := 8) nd)) (fun _ _ _ _ _ => ptsd_nil) (fun _ _ _ _ _ => (pd_tup (pad_cons (pd_add (pd_mul (pd_div (pd_mul (pd_var 8) (pd_add (pd_var 8) pd_int)) pd_int) (pd_add pd_int (pd_mod (pd_var 1) pd_int))) (pd_mod (pd_div (pd_var 1) pd_int) pd_int)) (pad_cons (pd_sub (pd_var 7) (pd_var 8)) pad_nil)) (arge_cons (arge_cons arge_nil)).le))))))) sd_nil)
      (sd_one (sd_ret gd (pd_if (pt_ne hr.units (pd_var 5) (pd_lst pad_nil arge_nil.le)) (pd_var 5) (pd_lst (pad_cons (pd_tup (pad_cons (pd_mod (pd_var 1) pd_int) (pad_cons pd_int pad_nil)) (arge_cons (arge_cons arge_nil)).le) pad_nil) (arge_cons arge_nil).le)))))))))
theorem ok__law_book {P : Program} {w : World} {K : PySem.W.Frag} {mg : Str → Option Value} {base : Heap} (T : Top K mg) : Held P w K mg base 1 (ga K "_law_book") ["_law_script"] (f__law_book K) := by
  obtain ⟨fd, F⟩ := T.d__law_book
  exact ⟨fd, okF__law_book T F, F.bindsN fun _ _ _ _ _ _ us hl => match us, hl with | [_], _ => rfl, F.kp⟩
/-! _law_lowest -/
abbrev N__law_lowest : List Str := ["_law_above", "_law_below", "_law_one", "_law_other"]
theorem sc__law_lowest : FnScope N__law_lowest ["_law_above", "_law_below"] (defScope s__law_lowest) := ⟨rfl, rfl, rfl, by decide +kernel, rfl, by decide +kernel, by decide +kernel⟩
def g__law_lowest (K : PySem.W.Frag) : Env → Res Fl :=
    (sSeq (sPar 2 3 (aCons (eVar 0) (aCons (eVar 1) aNil)))
    (sSeq (sWhile (fun env => Dt.fuel 3 env) (bV (eOp gtD (eVar 3) (eC (.int 0)))) (sPar 2 3 (aCons (eVar 3) (aCons (eOp modD (eVar 2) (eVar 3)) aNil))))
    (sRet (eTup (aCons (eOp divD (eVar 0) (eVar 2)) (aCons (eOp divD (eVar 1) (eVar 2)) aNil))))))
def f__law_lowest (K : PySem.W.Frag) : List D → Res D := run 4 (g__law_lowest K)
theorem okF__law_lowest {P : Program} {w : World} {K : PySem.W.Frag} {mg : Str → Option Value} {base : Heap} (T : Top K mg) {fd : FuncData} (F : L2.FunD K "_law_lowest" "_law_lowest" (defArgs s__law_lowest) (defBody s__law_lowest) (defScope s__law_lowest) [] [] (ga K "_law_lowest") fd) : FnOk P w K mg base (L2.CX P w) 1 (ga K "_law_lowest") fd ["_law_above", "_law_below"] (spD K 2 (f__law_lowest K)) := by
  refine fn_dt (N := N__law_lowest) F sc__law_lowest (fun cdv A outer s H E G P' hr gd => ?_)
  have nd := sc__law_lowest.nd
  have tk := takes_of (X := cxOf (L2.CX P w) P w K mg base N__law_lowest "_law_lowest" (defScope s__law_lowest) (ga K "_law_lowest") cdv A outer s H E) rfl rfl rfl rfl
  have pow := passes_of (X := cxOf (L2.CX P w) P w K mg base N__law_lowest "_law_lowest" (defScope s__law_lowest) (ga K "_law_lowest") cdv A outer s H E) rfl
  exact (sd_cons (sd_par gd (i := 2) (j := 3) rfl nd (pad_cons (pd_var 0) (pad_cons (pd_var 1) pad_nil)))
      (sd_cons (sd_while gd (fun env => Dt.fuel 3 env) pow (pt_gt (pd_var 3) pd_int) (sd_one (sd_par gd (i := 2) (j := 3) rfl nd (pad_cons (pd_var 3) (pad_cons (pd_mod (pd_var 2) (pd_var 3)) pad_nil)))))
      (sd_one (sd_ret gd (pd_tup (pad_cons (pd_div (pd_var 0) (pd_var 2)) (pad_cons (pd_div (pd_var 1) (pd_var 2)) pad_nil)) (arge_cons (arge_cons arge_nil)).le)))))
theorem ok__law_lowest {P : Program} {w : World} {K : PySem.W.Frag} {mg : Str → Option Value} {base : Heap} (T : Top K mg) : Held P w K mg base 1 (ga K "_law_lowest") ["_law_above", "_law_below"] (f__law_lowest K) := by
  obtain ⟨fd, F⟩ := T.d__law_lowest
  exact ⟨fd, okF__law_lowest T F, F.bindsN fun _ _ _ _ _ _ us hl => match us, hl with | [_, _], _ => rfl, F.kp⟩
/-! _law_amount -/
abbrev N__law_amount : List Str := ["_law_cell"]
theorem sc__law_amount : FnScope N__law_amount ["_law_cell"] (defScope s__law_amount) := ⟨rfl, rfl, rfl, by decide +kernel, rfl, by decide +kernel, by decide +kernel⟩
def g__law_amount (K : PySem.W.Frag) : Env → Res Fl :=
    (sSeq (sIf (bV (eOp eqD (eOp modD (eVar 0) (eC (.int 3))) (eC (.int 0)))) (sRet (eCall (f__law_lowest K) (aCons (eOp modD (eOp divD (eVar 0) (eC (.int 3))) (eC (.int 40))) (aCons (eOp addD (eC (.int 1)) (eOp modD (eOp divD (eVar 0) (eC (.int 120))) (eC (.int 9)))) aNil)))) sNil)
    (sRet (eCall (f__law_lowest K) (aCons (eOp modD (eOp divD (eVar 0) (eC (.int 3))) (eOp powD (eC (.int 10)) (eC (.int 30)))) (aCons (eOp addD (eC (.int 1)) (eOp modD (eOp addD (eOp divD (eOp divD (eVar 0) (eC (.int 3))) (eOp powD (eC (.int 10)) (eC (.int 30)))) (eOp divD (eVar 0) (eC (.int 7)))) (eOp powD (eC (.int 10)) (eC (.int 30))))) aNil)))))
def f__law_amount (K : PySem.W.Frag) : List D → Res D := run 1 (g__law_amount K)
theorem okF__law_amount {P : Program} {w : World} {K : PySem.W.Frag} {mg : Str → Option Value} {base : Heap} (T : Top K mg) {fd : FuncData} (F : L2.FunD K "_law_amount" "_law_amount" (defArgs s__law_amount) (defBody s__law_amount) (defScope s__law_amount) [] [] (ga K "_law_amount") fd) : FnOk P w K mg base (L2.CX P w) 2 (ga K "_law_amount") fd ["_law_cell"] (spD K 1 (f__law_amount K)) := by
  refine fn_dt (N := N__law_amount) F sc__law_amount (fun cdv A outer s H E G P' hr gd => ?_)
  have nd := sc__law_amount.nd
  have tk := takes_of (X := cxOf (L2.CX P w) P w K mg base N__law_amount "_law_amount" (defScope s__law_amount) (ga K "_law_amount") cdv A outer s H E) rfl rfl rfl rfl
  have pow := passes_of (X := cxOf (L2.CX P w) P w K mg base N__law_amount "_law_amount" (defScope s__law_amount) (ga K "_law_amount") cdv A outer s H E) rfl
  exact (sd_cons (sd_if gd (pt_eq hr.units (pd_mod (pd_var 0) pd_int) pd_int) (sd_one (sd_ret gd (pd_callH (ok__law_lowest T) (hr.mono (by decide)) tk (by rfl) T.g__law_lowest (pad_cons (pd_mod (pd_div (pd_var 0) pd_int) pd_int) (pad_cons (pd_add pd_int (pd_mod (pd_div (pd_var 0) pd_int) pd_int)) pad_nil)) (arge_cons (arge_cons arge_nil))))) sd_nil)
      (sd_one (sd_ret gd (pd_callH (ok__law_lowest T) (hr.mono (by decide)) tk (by rfl) T.g__law_lowest (pad_cons (pd_mod (pd_div (pd_var 0) pd_int) (pd_pow pd_int pd_int)) (pad_cons (pd_add pd_int (pd_mod (pd_add (pd_div (pd_div (pd_var 0) pd_int) (pd_pow pd_int pd_int)) (pd_div (pd_var 0) pd_int)) (pd_pow pd_int pd_int))) pad_nil)) (arge_cons (arge_cons arge_nil))))))
theorem ok__law_amount {P : Program} {w : World} {K : PySem.W.Frag} {mg : Str → Option Value} {base : Heap} (T : Top K mg) : Held P w K mg base 2 (ga K "_law_amount") ["_law_cell"] (f__law_amount K) := by
  obtain ⟨fd, F⟩ := T.d__law_amount
  exact ⟨fd, okF__law_amount T F, F.bindsN fun _ _ _ _ _ _ us hl => match us, hl with | [_], _ => rfl, F.kp⟩
/-! _law_cost -/
abbrev N__law_cost : List Str := ["_law_tariff", "_law_amount_here"]
theorem sc__law_cost : FnScope N__law_cost ["_law_tariff", "_law_amount_here"] (defScope s__law_cost) := ⟨rfl, rfl, rfl, by decide +kernel, rfl, by decide +kernel, by decide +kernel⟩
def g__law_cost (K : PySem.W.Frag) : Env → Res Fl :=
    (sRet (eOp addD (eOp mulD (eOp ixD (eVar 0) (eC (.int 0))) (eOp ixD (eVar 1) (eC (.int 1)))) (eOp mulD (eOp ixD (eVar 0) (eC (.int 1))) (eOp ixD (eVar 1) (eC (.int 0))))))
def f__law_cost (K : PySem.W.Frag) : List D → Res D := run 2 (g__law_cost K)
theorem okF__law_cost {P : Program} {w : World} {K : PySem.W.Frag} {mg : Str → Option Value} {base : Heap} (T : Top K mg) {fd : FuncData} (F : L2.FunD K "_law_cost" "_law_cost" (defArgs s__law_cost) (defBody s__law_cost) (defScope s__law_cost) [] [] (ga K "_law_cost") fd) : FnOk P w K mg base (L2.CX P w) 1 (ga K "_law_cost") fd ["_law_tariff", "_law_amount_here"] (spD K 2 (f__law_cost K)) := by
  refine fn_dt (N := N__law_cost) F sc__law_cost (fun cdv A outer s H E G P' hr gd => ?_)
  have nd := sc__law_cost.nd
  have tk := takes_of (X := cxOf (L2.CX P w) P w K mg base N__law_cost "_law_cost" (defScope s__law_cost) (ga K "_law_cost") cdv A outer s H E) rfl rfl rfl rfl
  have pow := passes_of (X := cxOf (L2.CX P w) P w K mg base N__law_cost "_law_cost" (defScope s__law_cost) (ga K "_law_cost") cdv A outer s H E) rfl
  exact (sd_one (sd_ret gd (pd_add (pd_mul (pd_sub' (pd_var 0) pd_int) (pd_sub' (pd_var 1) pd_int)) (pd_mul (pd_sub' (pd_var 0) pd_int) (pd_sub' (pd_var 1) pd_int)))))
theorem ok__law_cost {P : Program} {w : World} {K : PySem.W.Frag} {mg : Str → Option Value} {base : Heap} (T : Top K mg) : Held P w K mg base 1 (ga K "_law_cost") ["_law_tariff", "_law_amount_here"] (f__law_cost K) := by
  obtain ⟨fd, F⟩ := T.d__law_cost
  exact ⟨fd, okF__law_cost T F, F.bindsN fun _ _ _ _ _ _ us hl => match us, hl with | [_, _], _ => rfl, F.kp⟩
/-! _law_mixture -/
abbrev N__law_mixture : List Str := ["_law_book_here", "_law_row", "_law_tariff", "_law_one", "_law_other", "_law_first", "_law_second", "_law_place", "_law_k", "_law_mixed"]
theorem sc__law_mixture : FnScope N__law_mixture ["_law_book_here", "_law_row", "_law_tariff"] (defScope s__law_mixture) := ⟨rfl, rfl, rfl, by decide +kernel, rfl, by decide +kernel, by decide +kernel⟩
def g__law_mixture (K : PySem.W.Frag) : Env → Res Fl :=
    (sSeq (sAsg (eVar 1) (bTup (bsCons (bNm 3) (bsCons (bNm 4) (bsCons (bNm 5) (bsCons (bNm 6) bsNil))))))
    (sSeq (sIf (bOr (bV (eFn anyD (aCons (eLC [7] (bNm 7) bYes (eB (bNot (bV (eChain leD ltD (eC (.int 0)) (eVar 7) (eFn lenD (aCons (eVar 0) aNil)))))) (iL (eLst (aCons (eVar 3) (aCons (eVar 4) aNil))))) aNil))) (bOr (bV (eOp ltD (eVar 5) (eC (.int 0)))) (bOr (bV (eOp ltD (eVar 6) (eC (.int 0)))) (bV (eOp eqD (eOp addD (eVar 5) (eVar 6)) (eC (.int 0))))))) (sRet (eC (.bl false))) sNil)
    (sSeq (sFor (iR1 (aCons (eC (.int 2)) aNil)) (bNm 8) (sSeq (sAsg (eOp addD (eOp mulD (eVar 5) (eOp ixD (eOp ixD (eVar 0) (eVar 3)) (eVar 8))) (eOp mulD (eVar 6) (eOp ixD (eOp ixD (eVar 0) (eVar 4)) (eVar 8)))) (bNm 9))
    (sIf (bV (eOp gtD (eVar 9) (eOp mulD (eOp addD (eVar 5) (eVar 6)) (eOp ixD (eVar 2) (eVar 8))))) (sRet (eC (.bl false))) sNil)))
    (sRet (eC (.bl true))))))
def f__law_mixture (K : PySem.W.Frag) : List D → Res D := run 10 (g__law_mixture K)
theorem okF__law_mixture {P : Program} {w : World} {K : PySem.W.Frag} {mg : Str → Option Value} {base : Heap} (T : Top K mg) {fd : FuncData} (F : L2.FunD K "_law_mixture" "_law_mixture" (defArgs s__law_mixture) (defBody s__law_mixture) (defScope s__law_mixture) [] [] (ga K "_law_mixture") fd) : FnOk P w K mg base (L2.CX P w) 1 (ga K "_law_mixture") fd ["_law_book_here", "_law_row", "_law_tariff"] (spD K 3 (f__law_mixture K)) := by
  refine fn_dt (N := N__law_mixture) F sc__law_mixture (fun cdv A outer s H E G P' hr gd => ?_)
  have nd := sc__law_mixture.nd
  have tk := takes_of (X := cxOf (L2.CX P w) P w K mg base N__law_mixture "_law_mixture" (defScope s__law_mixture) (ga K "_law_mixture") cdv A outer s H E) rfl rfl rfl rfl
  have pow := passes_of (X := cxOf (L2.CX P w) P w K mg base N__law_mixture "_law_mixture" (defScope s__law_mixture) (ga K "_law_mixture") cdv A outer s H E) rfl
  exact (sd_cons (sd_asg gd (pd_var 1) (gd_tup rfl (gds_cons (gd_name (i := 3) nd) (gds_cons (gd_name (i := 4) nd) (gds_cons (gd_name (i := 5) nd) (gds_cons (gd_name (i := 6) nd) gds_nil)))) (btn_cons (btn_cons (btn_cons (btn_cons btn_nil))))))
      (sd_cons (sd_if gd (PW.pt (pwd_or (pt_v (pd_any (by rfl) (by rfl) T.b_any (pad_cons (pd_lc (own := [("_law_place", 7)]) (by rfl) nd (id_list (pd_lst (pad_cons (pd_var 3) (pad_cons (pd_var 4) pad_nil)) (arge_cons (arge_cons arge_nil)).le)) (blkOk_by (own := [("_law_place", 7)]) (N := N__law_mixture) (sc := defScope s__law_mixture) (by decide +kernel)) (by decide) (fun _ _ _ _ _ => (gd_name (i := 7) nd)) (fun _ _ _ _ _ => ptsd_nil) (fun _ _ _ _ _ => (pd_not (pd_eB (pd_chLL pd_int (pd_var 7) (pd_len (by rfl) T.b_len (pad_cons (pd_var 0) pad_nil))))))) pad_nil))) (pwd_or (pt_lt (pd_var 5) pd_int) (pwd_or (pt_lt (pd_var 6) pd_int) (pwd_or1 (pt_eq hr.units (pd_add (pd_var 5) (pd_var 6)) pd_int)))))) (sd_one (sd_ret gd pd_bl)) sd_nil)
      (sd_cons (sd_for gd pow rfl (id_range1 (by rfl) T.b_range (pad_cons pd_int pad_nil)) (gd_name (i := 8) nd) (fun G gd => (sd_cons (sd_set gd (i := 9) nd (pd_add (pd_mul (pd_var 5) (pd_sub' (pd_sub' (pd_var 0) (pd_var 3)) (pd_var 8))) (pd_mul (pd_var 6) (pd_sub' (pd_sub' (pd_var 0) (pd_var 4)) (pd_var 8)))))
      (sd_one (sd_if gd (pt_gt (pd_var 9) (pd_mul (pd_add (pd_var 5) (pd_var 6)) (pd_sub' (pd_var 2) (pd_var 8)))) (sd_one (sd_ret gd pd_bl)) sd_nil)))))
      (sd_one (sd_ret gd pd_bl)))))
theorem ok__law_mixture {P : Program} {w : World} {K : PySem.W.Frag} {mg : Str → Option Value} {base : Heap} (T : Top K mg) : Held P w K mg base 1 (ga K "_law_mixture") ["_law_book_here", "_law_row", "_law_tariff"] (f__law_mixture K) := by
  obtain ⟨fd, F⟩ := T.d__law_mixture
  exact ⟨fd, okF__law_mixture T F, F.bindsN fun _ _ _ _ _ _ us hl => match us, hl with | [_, _, _], _ => rfl, F.kp⟩
/-! _law_alone -/
abbrev N__law_alone : List Str := ["_law_book_here", "_law_place", "_law_amount_here", "_law_others", "_law_at", "_law_tariff"]
theorem sc__law_alone : FnScope N__law_alone ["_law_book_here", "_law_place", "_law_amount_here"] (defScope s__law_alone) := ⟨rfl, rfl, rfl, by decide +kernel, rfl, by decide +kernel, by decide +kernel⟩
def g__law_alone (K : PySem.W.Frag) : Env → Res Fl :=
    (sSeq (sAsg (eLC [4, 5] (bTup (bsCons (bNm 4) (bsCons (bNm 5) bsNil))) (bV (eOp neD (eVar 4) (eVar 1))) (eVar 5) (iE (aCons (eVar 0) aNil))) (bNm 3))
    (sRet (eFn allD (aCons (eLC [5] (bNm 5) bYes (eOp gtD (eCall (f__law_cost K) (aCons (eVar 5) (aCons (eVar 2) aNil))) (eCall (f__law_cost K) (aCons (eOp ixD (eVar 0) (eVar 1)) (aCons (eVar 2) aNil)))) (iL (eVar 3))) aNil))))
def f__law_alone (K : PySem.W.Frag) : List D → Res D := run 6 (g__law_alone K)
theorem okF__law_alone {P : Program} {w : World} {K : PySem.W.Frag} {mg : Str → Option Value} {base : Heap} (T : Top K mg) {fd : FuncData} (F : L2.FunD K "_law_alone" "_law_alone" (defArgs s__law_alone) (defBody s__law_alone) (defScope s__law_alone) [] [] (ga K "_law_alone") fd) : FnOk P w K mg base (L2.CX P w) 2 (ga K "_law_alone") fd ["_law_book_here", "_law_place", "_law_amount_here"] (spD K 3 (f__law_alone K)) := by
  refine fn_dt (N := N__law_alone) F sc__law_alone (fun cdv A outer s H E G P' hr gd => ?_)
  have nd := sc__law_alone.nd
  have tk := takes_of (X := cxOf (L2.CX P w) P w K mg base N__law_alone "_law_alone" (defScope s__law_alone) (ga K "_law_alone") cdv A outer s H E) rfl rfl rfl rfl
  have pow := passes_of (X := cxOf (L2.CX P w) P w K mg base N__law_alone "_law_alone" (defScope s__law_alone) (ga K "_law_alone") cdv A outer s H E) rfl
  exact (sd_cons (sd_setLc gd (i := 3) (own := [("_law_at", 4), ("_law_tariff", 5)]) (by rfl) nd (id_enum (by rfl) T.b_enumerate (pad_cons (pd_var 0) pad_nil)) (blkOk_by (own := [("_law_at", 4), ("_law_tariff", 5)]) (N := N__law_alone) (sc := defScope s__law_alone) (by decide +kernel)) (by decide) (fun _ _ _ _ _ => (gd_tup rfl (gds_cons (gd_name (i := 4) nd) (gds_cons (gd_name (i := 5) nd) gds_nil)) (btn_cons (btn_cons btn_nil)))) (fun _ _ _ _ _ => (ptsd_one (pt_ne hr.units (pd_var 4) (pd_var 1)))) (fun _ _ _ _ _ => (pd_var 5)))
      (sd_one (sd_ret gd (pd_all (by rfl) (by rfl) T.b_all (pad_cons (pd_lc (own := [("_law_tariff", 5)]) (by rfl) nd (id_list (pd_var 3)) (blkOk_by (own := [("_law_tariff", 5)]) (N := N__law_alone) (sc := defScope s__law_alone) (by decide +kernel)) (by decide) (fun _ _ _ _ _ => (gd_name (i := 5) nd)) (fun _ _ _ _ _ => ptsd_nil) (fun _ _ _ _ _ => (pd_gt (pd_callH (ok__law_cost T) (hr.mono (by decide)) takes0 (by rfl) T.g__law_cost (pad_cons (pd_var 5) (pad_cons (pd_var 2) pad_nil)) (arge_cons (arge_cons arge_nil))) (pd_callH (ok__law_cost T) (hr.mono (by decide)) takes0 (by rfl) T.g__law_cost (pad_cons (pd_sub' (pd_var 0) (pd_var 1)) (pad_cons (pd_var 2) pad_nil)) (arge_cons (arge_cons arge_nil)))))) pad_nil)))))
theorem ok__law_alone {P : Program} {w : World} {K : PySem.W.Frag} {mg : Str → Option Value} {base : Heap} (T : Top K mg) : Held P w K mg base 2 (ga K "_law_alone") ["_law_book_here", "_law_place", "_law_amount_here"] (f__law_alone K) := by
  obtain ⟨fd, F⟩ := T.d__law_alone
  exact ⟨fd, okF__law_alone T F, F.bindsN fun _ _ _ _ _ _ us hl => match us, hl with | [_, _, _], _ => rfl, F.kp⟩
/-! _law_needless -/
abbrev N__law_needless : List Str := ["_law_book_here", "_law_place", "_law_row"]
theorem sc__law_needless : FnScope N__law_needless ["_law_book_here", "_law_place", "_law_row"] (defScope s__law_needless) := ⟨rfl, rfl, rfl, by decide +kernel, rfl, by decide +kernel, by decide +kernel⟩
def g__law_needless (K : PySem.W.Frag) : Env → Res Fl :=
    (sRet (eB (bAnd (bV (eOp neD (eVar 1) (eOp ixD (eVar 2) (eC (.int 0))))) (bAnd (bV (eOp neD (eVar 1) (eOp ixD (eVar 2) (eC (.int 1))))) (bV (eCall (f__law_mixture K) (aCons (eVar 0) (aCons (eVar 2) (aCons (eOp ixD (eVar 0) (eVar 1)) aNil)))))))))
def f__law_needless (K : PySem.W.Frag) : List D → Res D := run 3 (g__law_needless K)
theorem okF__law_needless {P : Program} {w : World} {K : PySem.W.Frag} {mg : Str → Option Value} {base : Heap} (T : Top K mg) {fd : FuncData} (F : L2.FunD K "_law_needless" "_law_needless" (defArgs s__law_needless) (defBody s__law_needless) (defScope s__law_needless) [] [] (ga K "_law_needless") fd) : FnOk P w K mg base (L2.CX P w) 2 (ga K "_law_needless") fd ["_law_book_here", "_law_place", "_law_row"] (spD K 3 (f__law_needless K)) := by
  refine fn_dt (N := N__law_needless) F sc__law_needless (fun cdv A outer s H E G P' hr gd => ?_)
  have nd := sc__law_needless.nd
  have tk := takes_of (X := cxOf (L2.CX P w) P w K mg base N__law_needless "_law_needless" (defScope s__law_needless) (ga K "_law_needless") cdv A outer s H E) rfl rfl rfl rfl
  have pow := passes_of (X := cxOf (L2.CX P w) P w K mg base N__law_needless "_law_needless" (defScope s__law_needless) (ga K "_law_needless") cdv A outer s H E) rfl
  exact (sd_one (sd_ret gd (pd_and (pd_eB (pd_ne hr.units (pd_var 1) (pd_sub' (pd_var 2) pd_int))) (pd_and (pd_eB (pd_ne hr.units (pd_var 1) (pd_sub' (pd_var 2) pd_int))) (pd_one (pd_eB (pd_callH (ok__law_mixture T) (hr.mono (by decide)) tk (by rfl) T.g__law_mixture (pad_cons (pd_var 0) (pad_cons (pd_var 2) (pad_cons (pd_sub' (pd_var 0) (pd_var 1)) pad_nil))) (arge_cons (arge_cons (arge_cons arge_nil))))))))))
theorem ok__law_needless {P : Program} {w : World} {K : PySem.W.Frag} {mg : Str → Option Value} {base : Heap} (T : Top K mg) : Held P w K mg base 2 (ga K "_law_needless") ["_law_book_here", "_law_place", "_law_row"] (f__law_needless K) := by
  obtain ⟨fd, F⟩ := T.d__law_needless
  exact ⟨fd, okF__law_needless T F, F.bindsN fun _ _ _ _ _ _ us hl => match us, hl with | [_, _, _], _ => rfl, F.kp⟩
/-! _law_ranges -/
abbrev N__law_ranges : List Str := ["_law_book_here", "_law_begins", "_law_places", "_law_place", "_law_at", "_law_ends", "_law_end", "_law_tariff"]
theorem sc__law_ranges : FnScope N__law_ranges ["_law_book_here", "_law_begins", "_law_places"] (defScope s__law_ranges) := ⟨rfl, rfl, rfl, by decide +kernel, rfl, by decide +kernel, by decide +kernel⟩
def g__law_ranges (K : PySem.W.Frag) : Env → Res Fl :=
    (sSeq (sIf (bOr (bV (eOp eqD (eVar 2) (eLst aNil))) (bOr (bV (eOp neD (eFn lenD (aCons (eVar 1) aNil)) (eFn lenD (aCons (eVar 2) aNil)))) (bV (eOp neD (eOp ixD (eVar 1) (eC (.int 0))) (eTup (aCons (eC (.int 0)) (aCons (eC (.int 1)) aNil))))))) (sRet (eC (.bl false))) sNil)
    (sSeq (sIf (bV (eFn anyD (aCons (eLC [3] (bNm 3) bYes (eB (bNot (bV (eChain leD ltD (eC (.int 0)) (eVar 3) (eFn lenD (aCons (eVar 0) aNil)))))) (iL (eVar 2))) aNil))) (sRet (eC (.bl false))) sNil)
    (sSeq (sFor (iE (aCons (eVar 2) aNil)) (bTup (bsCons (bNm 4) (bsCons (bNm 3) bsNil))) (sSeq (sAsg (eSl (eVar 1) (oSome (eVar 4)) (oSome (eOp addD (eVar 4) (eC (.int 2))))) (bNm 5))
    (sSeq (sIf (bAnd (bV (eOp eqD (eFn lenD (aCons (eVar 5) aNil)) (eC (.int 2)))) (bV (eOp eqD (eVar 3) (eOp ixD (eVar 2) (eOp addD (eVar 4) (eC (.int 1))))))) (sRet (eC (.bl false))) sNil)
    (sSeq (sIf (bAnd (bV (eOp eqD (eFn lenD (aCons (eVar 5) aNil)) (eC (.int 2)))) (bV (eOp geD (eOp mulD (eOp ixD (eOp ixD (eVar 5) (eC (.int 0))) (eC (.int 0))) (eOp ixD (eOp ixD (eVar 5) (eC (.int 1))) (eC (.int 1)))) (eOp mulD (eOp ixD (eOp ixD (eVar 5) (eC (.int 1))) (eC (.int 0))) (eOp ixD (eOp ixD (eVar 5) (eC (.int 0))) (eC (.int 1))))))) (sRet (eC (.bl false))) sNil)
    (sFor (iL (eVar 5)) (bNm 6) (sIf (bV (eFn anyD (aCons (eLC [7] (bNm 7) bYes (eOp ltD (eCall (f__law_cost K) (aCons (eVar 7) (aCons (eVar 6) aNil))) (eCall (f__law_cost K) (aCons (eOp ixD (eVar 0) (eVar 3)) (aCons (eVar 6) aNil)))) (iL (eVar 0))) aNil))) (sRet (eC (.bl false))) sNil))))))
    (sRet (eFn allD (aCons (eLC [7] (bNm 7) bYes (eOp geD (eOp ixD (eVar 7) (eC (.int 1))) (eOp ixD (eOp ixD (eVar 0) (eOp ixD (eVar 2) (eUn negD (eC (.int 1))))) (eC (.int 1)))) (iL (eVar 0))) aNil))))))
def f__law_ranges (K : PySem.W.Frag) : List D → Res D := run 8 (g__law_ranges K)
theorem okF__law_ranges {P : Program} {w : World} {K : PySem.W.Frag} {mg : Str → Option Value} {base : Heap} (T : Top K mg) {fd : FuncData} (F : L2.FunD K "_law_ranges" "_law_ranges" (defArgs s__law_ranges) (defBody s__law_ranges) (defScope s__law_ranges) [] [] (ga K "_law_ranges") fd) : FnOk P w K mg base (L2.CX P w) 2 (ga K "_law_ranges") fd ["_law_book_here", "_law_begins", "_law_places"] (spD K 3 (f__law_ranges K)) := by
  refine fn_dt (N := N__law_ranges) F sc__law_ranges (fun cdv A outer s H E G P' hr gd => ?_)
  have nd := sc__law_ranges.nd
  have tk := takes_of (X := cxOf (L2.CX P w) P w K mg base N__law_ranges "_law_ranges" (defScope s__law_ranges) (ga K "_law_ranges") cdv A outer s H E) rfl rfl rfl rfl
  have pow := passes_of (X := cxOf (L2.CX P w) P w K mg base N__law_ranges "_law_ranges" (defScope s__law_ranges) (ga K "_law_ranges") cdv A outer s H E) rfl
  exact (sd_cons (sd_if gd (PW.pt (pwd_or (pt_eq hr.units (pd_var 2) (pd_lst pad_nil arge_nil.le)) (pwd_or (pt_ne hr.units (pd_len (by rfl) T.b_len (pad_cons (pd_var 1) pad_nil)) (pd_len (by rfl) T.b_len (pad_cons (pd_var 2) pad_nil))) (pwd_or1 (pt_ne hr.units (pd_sub' (pd_var 1) pd_int) (pd_tup (pad_cons pd_int (pad_cons pd_int pad_nil)) (arge_cons (arge_cons arge_nil)).le)))))) (sd_one (sd_ret gd pd_bl)) sd_nil)
      (sd_cons (sd_if gd (pt_v (pd_any (by rfl) (by rfl) T.b_any (pad_cons (pd_lc (own := [("_law_place", 3)]) (by rfl) nd (id_list (pd_var 2)) (blkOk_by (own := [("_law_place", 3)]) (N := N__law_ranges) (sc := defScope s__law_ranges) (by decide +kernel)) (by decide) (fun _ _ _ _ _ => (gd_name (i := 3) nd)) (fun _ _ _ _ _ => ptsd_nil) (fun _ _ _ _ _ => (pd_not (pd_eB (pd_chLL pd_int (pd_var 3) (pd_len (by rfl) T.b_len (pad_cons (pd_var 0) pad_nil))))))) pad_nil))) (sd_one (sd_ret gd pd_bl)) sd_nil)
      (sd_cons (sd_for gd pow rfl (id_enum (by rfl) T.b_enumerate (pad_cons (pd_var 2) pad_nil)) (gd_tup rfl (gds_cons (gd_name (i := 4) nd) (gds_cons (gd_name (i := 3) nd) gds_nil)) (btn_cons (btn_cons btn_nil))) (fun G gd => (sd_cons (sd_set gd (i := 5) nd (pd_sl (pd_var 1) (po_s (pd_var 4)) (po_s (pd_add (pd_var 4) pd_int))))
      (sd_cons (sd_if gd (PW.pt (pwd_and (pt_eq hr.units (pd_len (by rfl) T.b_len (pad_cons (pd_var 5) pad_nil)) pd_int) (pwd_and1 (pt_eq hr.units (pd_var 3) (pd_sub' (pd_var 2) (pd_add (pd_var 4) pd_int)))))) (sd_one (sd_ret gd pd_bl)) sd_nil)
      (sd_cons (sd_if gd (PW.pt (pwd_and (pt_eq hr.units (pd_len (by rfl) T.b_len (pad_cons (pd_var 5) pad_nil)) pd_int) (pwd_and1 (pt_ge (pd_mul (pd_sub' (pd_sub' (pd_var 5) pd_int) pd_int) (pd_sub' (pd_sub' (pd_var 5) pd_int) pd_int)) (pd_mul (pd_sub' (pd_sub' (pd_var 5) pd_int) pd_int) (pd_sub' (pd_sub' (pd_var 5) pd_int) pd_int)))))) (sd_one (sd_ret gd pd_bl)) sd_nil)
      (sd_one (sd_for gd pow rfl (id_list (pd_var 5)) (gd_name (i := 6) nd) (fun G gd => (sd_one (sd_if gd (pt_v (pd_any (by rfl) (by rfl) T.b_any (pad_cons (pd_lc (own := [("_law_tariff", 7)]) (by rfl) nd (id_list (pd_var 0)) (blkOk_by (own := [("_law_tariff", 7)]) (N := N__law_ranges) (sc := defScope s__law_ranges) (by decide +kernel)) (by decide) (fun _ _ _ _ _ => (gd_name (i := 7) nd)) (fun _ _ _ _ _ => ptsd_nil) (fun _ _ _ _ _ => (pd_lt (pd_callH (ok__law_cost T) (hr.mono (by decide)) takes0 (by rfl) T.g__law_cost (pad_cons (pd_var 7) (pad_cons (pd_var 6) pad_nil)) (arge_cons (arge_cons arge_nil))) (pd_callH (ok__law_cost T) (hr.mono (by decide)) takes0 (by rfl) T.g__law_cost (pad_cons (pd_sub' (pd_var 0) (pd_var 3)) (pad_cons (pd_var 6) pad_nil)) (arge_cons (arge_cons arge_nil)))))) pad_nil))) (sd_one (sd_ret gd pd_bl)) sd_nil))))))))))
      (sd_one (sd_ret gd (pd_all (by rfl) (by rfl) T.b_all (pad_cons (pd_lc (own := [("_law_tariff", 7)]) (by rfl) nd (id_list (pd_var 0)) (blkOk_by (own := [("_law_tariff", 7)]) (N := N__law_ranges) (sc := defScope s__law_ranges) (by decide +kernel)) (by decide) (fun _ _ _ _ _ => (gd_name (i := 7) nd)) (fun _ _ _ _ _ => ptsd_nil) (fun _ _ _ _ _ => (pd_ge (pd_sub' (pd_var 7) pd_int) (pd_sub' (pd_sub' (pd_var 0) (pd_sub' (pd_var 2) (pd_neg pd_int))) pd_int)))) pad_nil)))))))
theorem ok__law_ranges {P : Program} {w : World} {K : PySem.W.Frag} {mg : Str → Option Value} {base : Heap} (T : Top K mg) : Held P w K mg base 2 (ga K "_law_ranges") ["_law_book_here", "_law_begins", "_law_places"] (f__law_ranges K) := by
  obtain ⟨fd, F⟩ := T.d__law_ranges
  exact ⟨fd, okF__law_ranges T F, F.bindsN fun _ _ _ _ _ _ us hl => match us, hl with | [_, _, _], _ => rfl, F.kp⟩
/-! _law_under -/
abbrev N__law_under : List Str := ["_law_one", "_law_other", "_law_rows", "_law_row", "_law_tariff"]
theorem sc__law_under : FnScope N__law_under ["_law_one", "_law_other", "_law_rows"] (defScope s__law_under) := ⟨rfl, rfl, rfl, by decide +kernel, rfl, by decide +kernel, by decide +kernel⟩
def g__law_under (K : PySem.W.Frag) : Env → Res Fl :=
    (sSeq (sIf (bV (eOp neD (eFn lenD (aCons (eVar 2) aNil)) (eFn lenD (aCons (eVar 1) aNil)))) (sRet (eC (.bl false))) sNil)
    (sRet (eFn allD (aCons (eLC [3, 4] (bTup (bsCons (bNm 3) (bsCons (bNm 4) bsNil))) bYes (eCall (f__law_mixture K) (aCons (eVar 0) (aCons (eVar 3) (aCons (eVar 4) aNil)))) (iZ (aCons (eVar 2) (aCons (eVar 1) aNil)))) aNil))))
def f__law_under (K : PySem.W.Frag) : List D → Res D := run 5 (g__law_under K)
theorem okF__law_under {P : Program} {w : World} {K : PySem.W.Frag} {mg : Str → Option Value} {base : Heap} (T : Top K mg) {fd : FuncData} (F : L2.FunD K "_law_under" "_law_under" (defArgs s__law_under) (defBody s__law_under) (defScope s__law_under) [] [] (ga K "_law_under") fd) : FnOk P w K mg base (L2.CX P w) 2 (ga K "_law_under") fd ["_law_one", "_law_other", "_law_rows"] (spD K 3 (f__law_under K)) := by
  refine fn_dt (N := N__law_under) F sc__law_under (fun cdv A outer s H E G P' hr gd => ?_)
  have nd := sc__law_under.nd
  have tk := takes_of (X := cxOf (L2.CX P w) P w K mg base N__law_under "_law_under" (defScope s__law_under) (ga K "_law_under") cdv A outer s H E) rfl rfl rfl rfl
  have pow := passes_of (X := cxOf (L2.CX P w) P w K mg base N__law_under "_law_under" (defScope s__law_under) (ga K "_law_under") cdv A outer s H E) rfl
  exact (sd_cons (sd_if gd (pt_ne hr.units (pd_len (by rfl) T.b_len (pad_cons (pd_var 2) pad_nil)) (pd_len (by rfl) T.b_len (pad_cons (pd_var 1) pad_nil))) (sd_one (sd_ret gd pd_bl)) sd_nil)
      (sd_one (sd_ret gd (pd_all (by rfl) (by rfl) T.b_all (pad_cons (pd_lc (own := [("_law_row", 3), ("_law_tariff", 4)]) (by rfl) nd (id_zip (by rfl) T.b_zip (pad_cons (pd_var 2) (pad_cons (pd_var 1) pad_nil))) (blkOk_by (own := [("_law_row", 3), ("_law_tariff", 4)]) (N := N__law_under) (sc := defScope s__law_under) (by decide +kernel)) (by decide) (fun _ _ _ _ _ => (gd_tup rfl (gds_cons (gd_name (i := 3) nd) (gds_cons (gd_name (i := 4) nd) gds_nil)) (btn_cons (btn_cons btn_nil)))) (fun _ _ _ _ _ => ptsd_nil) (fun _ _ _ _ _ => (pd_callH (ok__law_mixture T) (hr.mono (by decide)) takes0 (by rfl) T.g__law_mixture (pad_cons (pd_var 0) (pad_cons (pd_var 3) (pad_cons (pd_var 4) pad_nil))) (arge_cons (arge_cons (arge_cons arge_nil)))))) pad_nil)))))
theorem ok__law_under {P : Program} {w : World} {K : PySem.W.Frag} {mg : Str → Option Value} {base : Heap} (T : Top K mg) : Held P w K mg base 2 (ga K "_law_under") ["_law_one", "_law_other", "_law_rows"] (f__law_under K) := by
  obtain ⟨fd, F⟩ := T.d__law_under
  exact ⟨fd, okF__law_under T F, F.bindsN fun _ _ _ _ _ _ us hl => match us, hl with | [_, _, _], _ => rfl, F.kp⟩
/-! _law_over -/
abbrev N__law_over : List Str := ["_law_one", "_law_other", "_law_amount_here", "_law_first", "_law_tariff"]
theorem sc__law_over : FnScope N__law_over ["_law_one", "_law_other", "_law_amount_here"] (defScope s__law_over) := ⟨rfl, rfl, rfl, by decide +kernel, rfl, by decide +kernel, by decide +kernel⟩
def g__law_over (K : PySem.W.Frag) : Env → Res Fl :=
    (sSeq (sAsg (eFn minD (aCons (eLC [4] (bNm 4) bYes (eCall (f__law_cost K) (aCons (eVar 4) (aCons (eVar 2) aNil))) (iL (eVar 0))) aNil)) (bNm 3))
    (sRet (eOp gtD (eVar 3) (eFn minD (aCons (eLC [4] (bNm 4) bYes (eCall (f__law_cost K) (aCons (eVar 4) (aCons (eVar 2) aNil))) (iL (eVar 1))) aNil)))))
def f__law_over (K : PySem.W.Frag) : List D → Res D := run 5 (g__law_over K)
theorem okF__law_over {P : Program} {w : World} {K : PySem.W.Frag} {mg : Str → Option Value} {base : Heap} (T : Top K mg) {fd : FuncData} (F : L2.FunD K "_law_over" "_law_over" (defArgs s__law_over) (defBody s__law_over) (defScope s__law_over) [] [] (ga K "_law_over") fd) : FnOk P w K mg base (L2.CX P w) 2 (ga K "_law_over") fd ["_law_one", "_law_other", "_law_amount_here"] (spD K 3 (f__law_over K)) := by
  refine fn_dt (N := N__law_over) F sc__law_over (fun cdv A outer s H E G P' hr gd => ?_)
  have nd := sc__law_over.nd
  have tk := takes_of (X := cxOf (L2.CX P w) P w K mg base N__law_over "_law_over" (defScope s__law_over) (ga K "_law_over") cdv A outer s H E) rfl rfl rfl rfl
  have pow := passes_of (X := cxOf (L2.CX P w) P w K mg base N__law_over "_law_over" (defScope s__law_over) (ga K "_law_over") cdv A outer s H E) rfl
  exact (sd_cons (sd_set gd (i := 3) nd (pd_min (by rfl) (by rfl) T.b_min (pad_cons (pd_lc (own := [("_law_tariff", 4)]) (by rfl) nd (id_list (pd_var 0)) (blkOk_by (own := [("_law_tariff", 4)]) (N := N__law_over) (sc := defScope s__law_over) (by decide +kernel)) (by decide) (fun _ _ _ _ _ => (gd_name (i := 4) nd)) (fun _ _ _ _ _ => ptsd_nil) (fun _ _ _ _ _ => (pd_callH (ok__law_cost T) (hr.mono (by decide)) takes0 (by rfl) T.g__law_cost (pad_cons (pd_var 4) (pad_cons (pd_var 2) pad_nil)) (arge_cons (arge_cons arge_nil))))) pad_nil)))
      (sd_one (sd_ret gd (pd_gt (pd_var 3) (pd_min (by rfl) (by rfl) T.b_min (pad_cons (pd_lc (own := [("_law_tariff", 4)]) (by rfl) nd (id_list (pd_var 1)) (blkOk_by (own := [("_law_tariff", 4)]) (N := N__law_over) (sc := defScope s__law_over) (by decide +kernel)) (by decide) (fun _ _ _ _ _ => (gd_name (i := 4) nd)) (fun _ _ _ _ _ => ptsd_nil) (fun _ _ _ _ _ => (pd_callH (ok__law_cost T) (hr.mono (by decide)) takes0 (by rfl) T.g__law_cost (pad_cons (pd_var 4) (pad_cons (pd_var 2) pad_nil)) (arge_cons (arge_cons arge_nil))))) pad_nil))))))
theorem ok__law_over {P : Program} {w : World} {K : PySem.W.Frag} {mg : Str → Option Value} {base : Heap} (T : Top K mg) : Held P w K mg base 2 (ga K "_law_over") ["_law_one", "_law_other", "_law_amount_here"] (f__law_over K) := by
  obtain ⟨fd, F⟩ := T.d__law_over
  exact ⟨fd, okF__law_over T F, F.bindsN fun _ _ _ _ _ _ us hl => match us, hl with | [_, _, _], _ => rfl, F.kp⟩
/-! _law_most -/
abbrev N__law_most : List Str := ["_law_book_here", "_law_money", "_law_place", "_law_amount_here", "_law_due", "_law_tariff"]
theorem sc__law_most : FnScope N__law_most ["_law_book_here", "_law_money", "_law_place", "_law_amount_here"] (defScope s__law_most) := ⟨rfl, rfl, rfl, by decide +kernel, rfl, by decide +kernel, by decide +kernel⟩
def g__law_most (K : PySem.W.Frag) : Env → Res Fl :=
    (sSeq (sAsg (eOp mulD (eVar 1) (eOp ixD (eVar 3) (eC (.int 1)))) (bNm 4))
    (sSeq (sIf (bOr (bNot (bV (eChain leD ltD (eC (.int 0)) (eVar 2) (eFn lenD (aCons (eVar 0) aNil))))) (bV (eOp neD (eCall (f__law_cost K) (aCons (eOp ixD (eVar 0) (eVar 2)) (aCons (eVar 3) aNil))) (eVar 4)))) (sRet (eC (.bl false))) sNil)
    (sSeq (sIf (bV (eFn anyD (aCons (eLC [5] (bNm 5) bYes (eOp ltD (eCall (f__law_cost K) (aCons (eVar 5) (aCons (eVar 3) aNil))) (eVar 4)) (iL (eVar 0))) aNil))) (sRet (eC (.bl false))) sNil)
    (sRet (eFn allD (aCons (eLC [5] (bNm 5) (bV (eOp eqD (eCall (f__law_cost K) (aCons (eVar 5) (aCons (eVar 3) aNil))) (eVar 4))) (eOp gtD (eOp ixD (eVar 5) (eC (.int 1))) (eC (.int 0))) (iL (eVar 0))) aNil))))))
def f__law_most (K : PySem.W.Frag) : List D → Res D := run 6 (g__law_most K)
theorem okF__law_most {P : Program} {w : World} {K : PySem.W.Frag} {mg : Str → Option Value} {base : Heap} (T : Top K mg) {fd : FuncData} (F : L2.FunD K "_law_most" "_law_most" (defArgs s__law_most) (defBody s__law_most) (defScope s__law_most) [] [] (ga K "_law_most") fd) : FnOk P w K mg base (L2.CX P w) 2 (ga K "_law_most") fd ["_law_book_here", "_law_money", "_law_place", "_law_amount_here"] (spD K 4 (f__law_most K)) := by
  refine fn_dt (N := N__law_most) F sc__law_most (fun cdv A outer s H E G P' hr gd => ?_)
  have nd := sc__law_most.nd
  have tk := takes_of (X := cxOf (L2.CX P w) P w K mg base N__law_most "_law_most" (defScope s__law_most) (ga K "_law_most") cdv A outer s H E) rfl rfl rfl rfl
  have pow := passes_of (X := cxOf (L2.CX P w) P w K mg base N__law_most "_law_most" (defScope s__law_most) (ga K "_law_most") cdv A outer s H E) rfl
  exact (sd_cons (sd_set gd (i := 4) nd (pd_mul (pd_var 1) (pd_sub' (pd_var 3) pd_int)))
      (sd_cons (sd_if gd (PW.pt (pwd_or (ptd_not (pt_chLL pd_int (pd_var 2) (pd_len (by rfl) T.b_len (pad_cons (pd_var 0) pad_nil)))) (pwd_or1 (pt_ne hr.units (pd_callH (ok__law_cost T) (hr.mono (by decide)) tk (by rfl) T.g__law_cost (pad_cons (pd_sub' (pd_var 0) (pd_var 2)) (pad_cons (pd_var 3) pad_nil)) (arge_cons (arge_cons arge_nil))) (pd_var 4))))) (sd_one (sd_ret gd pd_bl)) sd_nil)
      (sd_cons (sd_if gd (pt_v (pd_any (by rfl) (by rfl) T.b_any (pad_cons (pd_lc (own := [("_law_tariff", 5)]) (by rfl) nd (id_list (pd_var 0)) (blkOk_by (own := [("_law_tariff", 5)]) (N := N__law_most) (sc := defScope s__law_most) (by decide +kernel)) (by decide) (fun _ _ _ _ _ => (gd_name (i := 5) nd)) (fun _ _ _ _ _ => ptsd_nil) (fun _ _ _ _ _ => (pd_lt (pd_callH (ok__law_cost T) (hr.mono (by decide)) takes0 (by rfl) T.g__law_cost (pad_cons (pd_var 5) (pad_cons (pd_var 3) pad_nil)) (arge_cons (arge_cons arge_nil))) (pd_var 4)))) pad_nil))) (sd_one (sd_ret gd pd_bl)) sd_nil)
      (sd_one (sd_ret gd (pd_all (by rfl) (by rfl) T.b_all (pad_cons (pd_lc (own := [("_law_tariff", 5)]) (by rfl) nd (id_list (pd_var 0)) (blkOk_by (own := [("_law_tariff", 5)]) (N := N__law_most) (sc := defScope s__law_most) (by decide +kernel)) (by decide) (fun _ _ _ _ _ => (gd_name (i := 5) nd)) (fun _ _ _ _ _ => (ptsd_one (pt_eq hr.units (pd_callH (ok__law_cost T) (hr.mono (by decide)) takes0 (by rfl) T.g__law_cost (pad_cons (pd_var 5) (pad_cons (pd_var 3) pad_nil)) (arge_cons (arge_cons arge_nil))) (pd_var 4)))) (fun _ _ _ _ _ => (pd_gt (pd_sub' (pd_var 5) pd_int) pd_int))) pad_nil)))))))
theorem ok__law_most {P : Program} {w : World} {K : PySem.W.Frag} {mg : Str → Option Value} {base : Heap} (T : Top K mg) : Held P w K mg base 2 (ga K "_law_most") ["_law_book_here", "_law_money", "_law_place", "_law_amount_here"] (f__law_most K) := by
  obtain ⟨fd, F⟩ := T.d__law_most
  exact ⟨fd, okF__law_most T F, F.bindsN fun _ _ _ _ _ _ us hl => match us, hl with | [_, _, _, _], _ => rfl, F.kp⟩
/-! _law_endless -/
abbrev N__law_endless : List Str := ["_law_book_here", "_law_money", "_law_place"]
theorem sc__law_endless : FnScope N__law_endless ["_law_book_here", "_law_money", "_law_place"] (defScope s__law_endless) := ⟨rfl, rfl, rfl, by decide +kernel, rfl, by decide +kernel, by decide +kernel⟩
def g__law_endless (K : PySem.W.Frag) : Env → Res Fl :=
    (sRet (eB (bAnd (bV (eChain leD ltD (eC (.int 0)) (eVar 2) (eFn lenD (aCons (eVar 0) aNil)))) (bAnd (bV (eOp eqD (eOp ixD (eOp ixD (eVar 0) (eVar 2)) (eC (.int 1))) (eC (.int 0)))) (bV (eOp leD (eOp ixD (eOp ixD (eVar 0) (eVar 2)) (eC (.int 0))) (eVar 1)))))))
def f__law_endless (K : PySem.W.Frag) : List D → Res D := run 3 (g__law_endless K)
theorem okF__law_endless {P : Program} {w : World} {K : PySem.W.Frag} {mg : Str → Option Value} {base : Heap} (T : Top K mg) {fd : FuncData} (F : L2.FunD K "_law_endless" "_law_endless" (defArgs s__law_endless) (defBody s__law_endless) (defScope s__law_endless) [] [] (ga K "_law_endless") fd) : FnOk P w K mg base (L2.CX P w) 1 (ga K "_law_endless") fd ["_law_book_here", "_law_money", "_law_place"] (spD K 3 (f__law_endless K)) := by
  refine fn_dt (N := N__law_endless) F sc__law_endless (fun cdv A outer s H E G P' hr gd => ?_)
  have nd := sc__law_endless.nd
  have tk := takes_of (X := cxOf (L2.CX P w) P w K mg base N__law_endless "_law_endless" (defScope s__law_endless) (ga K "_law_endless") cdv A outer s H E) rfl rfl rfl rfl
  have pow := passes_of (X := cxOf (L2.CX P w) P w K mg base N__law_endless "_law_endless" (defScope s__law_endless) (ga K "_law_endless") cdv A outer s H E) rfl
  exact (sd_one (sd_ret gd (pd_and (pd_eB (pd_chLL pd_int (pd_var 2) (pd_len (by rfl) T.b_len (pad_cons (pd_var 0) pad_nil)))) (pd_and (pd_eB (pd_eq hr.units (pd_sub' (pd_sub' (pd_var 0) (pd_var 2)) pd_int) pd_int)) (pd_one (pd_eB (pd_le (pd_sub' (pd_sub' (pd_var 0) (pd_var 2)) pd_int) (pd_var 1))))))))
theorem ok__law_endless {P : Program} {w : World} {K : PySem.W.Frag} {mg : Str → Option Value} {base : Heap} (T : Top K mg) : Held P w K mg base 1 (ga K "_law_endless") ["_law_book_here", "_law_money", "_law_place"] (f__law_endless K) := by
  obtain ⟨fd, F⟩ := T.d__law_endless
  exact ⟨fd, okF__law_endless T F, F.bindsN fun _ _ _ _ _ _ us hl => match us, hl with | [_, _, _], _ => rfl, F.kp⟩
/-! _law_says -/
abbrev N__law_says : List Str := ["_law_said", "_law_due"]
theorem sc__law_says : FnScope N__law_says ["_law_said", "_law_due"] (defScope s__law_says) := ⟨rfl, rfl, rfl, by decide +kernel, rfl, by decide +kernel, by decide +kernel⟩
def g__law_says (K : PySem.W.Frag) : Env → Res Fl :=
    (sRet (eB (bAnd (bV (eFn (isiD K (cis K)) (aCons (eVar 0) (aCons (eC (.ty "bool")) aNil)))) (bV (eOp eqD (eVar 0) (eVar 1))))))
def f__law_says (K : PySem.W.Frag) : List D → Res D := run 2 (g__law_says K)
theorem okF__law_says {P : Program} {w : World} {K : PySem.W.Frag} {mg : Str → Option Value} {base : Heap} (T : Top K mg) {fd : FuncData} (F : L2.FunD K "_law_says" "_law_says" (defArgs s__law_says) (defBody s__law_says) (defScope s__law_says) [] [] (ga K "_law_says") fd) : FnOk P w K mg base (L2.CX P w) 1 (ga K "_law_says") fd ["_law_said", "_law_due"] (spD K 2 (f__law_says K)) := by
  refine fn_dt (N := N__law_says) F sc__law_says (fun cdv A outer s H E G P' hr gd => ?_)
  have nd := sc__law_says.nd
  have tk := takes_of (X := cxOf (L2.CX P w) P w K mg base N__law_says "_law_says" (defScope s__law_says) (ga K "_law_says") cdv A outer s H E) rfl rfl rfl rfl
  have pow := passes_of (X := cxOf (L2.CX P w) P w K mg base N__law_says "_law_says" (defScope s__law_says) (ga K "_law_says") cdv A outer s H E) rfl
  exact (sd_one (sd_ret gd (pd_and (pd_eB (pd_isi T.ci (by rfl) T.b_isinstance (pad_cons (pd_var 0) (pad_cons (pd_bty (by rfl) T.b_bool (by decide +kernel)) pad_nil)))) (pd_one (pd_eB (pd_eq hr.units (pd_var 0) (pd_var 1)))))))
theorem ok__law_says {P : Program} {w : World} {K : PySem.W.Frag} {mg : Str → Option Value} {base : Heap} (T : Top K mg) : Held P w K mg base 1 (ga K "_law_says") ["_law_said", "_law_due"] (f__law_says K) := by
  obtain ⟨fd, F⟩ := T.d__law_says
  exact ⟨fd, okF__law_says T F, F.bindsN fun _ _ _ _ _ _ us hl => match us, hl with | [_, _], _ => rfl, F.kp⟩
/-! _law_bent -/
abbrev N__law_bent : List Str := ["_law_some", "_law_script", "_law_more", "_law_found", "_law_cell", "_law_at"]
theorem sc__law_bent : FnScope N__law_bent ["_law_some", "_law_script", "_law_more"] (defScope s__law_bent) := ⟨rfl, rfl, rfl, by decide +kernel, rfl, by decide +kernel, by decide +kernel⟩
def g__law_bent (K : PySem.W.Frag) : Env → Res Fl :=
    (sSeq (sAsgL 3 (eVar 0))
    (sSeq (sFor (iL (eVar 1)) (bNm 4) (sSeq (sAsg (eView (eOp modD (eOp divD (eVar 4) (eC (.int 17))) (eFn maxD (aCons (eC (.int 1)) (aCons (eFn lenD (aCons (eVar 3) aNil)) aNil))))) (bNm 5))
    (sSeq (sIf (bV (eOp eqD (eOp modD (eVar 4) (eC (.int 17))) (eC (.int 0)))) (fun env => sAsgCat 3 (eSl (eVar 3) oNone (oSome (eVar 5))) (eSl (eVar 3) (oSome (eOp addD (eVar 5) (eC (.int 1)))) oNone) (frz 3 env)) sNil)
    (sSeq (sIf (bV (eOp eqD (eOp modD (eVar 4) (eC (.int 17))) (eC (.int 1)))) (fun env => sAsgCat 3 (eOp addD (eSl (eVar 3) oNone (oSome (eVar 5))) (eLst (aCons (eVar 2) aNil))) (eSl (eVar 3) (oSome (eVar 5)) oNone) (frz 3 env)) sNil)
    (sSeq (sIf (bV (eOp eqD (eOp modD (eVar 4) (eC (.int 17))) (eC (.int 2)))) (fun env => sAsgCat 3 (eOp addD (eSl (eVar 3) oNone (oSome (eVar 5))) (eSl (eVar 3) (oSome (eVar 5)) (oSome (eOp addD (eVar 5) (eC (.int 1)))))) (eSl (eVar 3) (oSome (eVar 5)) oNone) (frz 3 env)) sNil)
    (sIf (bView (bAnd (bV (eOp eqD (eOp modD (eVar 4) (eC (.int 17))) (eC (.int 3)))) (bV (eOp neD (eVar 3) (eLst aNil))))) (sSwap 3 5) sNil))))))
    (fun env => (sRet (eVar 3)) (frz 3 env))))
def f__law_bent (K : PySem.W.Frag) : List D → Res D := run 6 (g__law_bent K)
theorem okF__law_bent {P : Program} {w : World} {K : PySem.W.Frag} {mg : Str → Option Value} {base : Heap} (T : Top K mg) {fd : FuncData} (F : L2.FunD K "_law_bent" "_law_bent" (defArgs s__law_bent) (defBody s__law_bent) (defScope s__law_bent) [] [] (ga K "_law_bent") fd) : FnOk P w K mg base (L2.CX P w) 1 (ga K "_law_bent") fd ["_law_some", "_law_script", "_law_more"] (spD K 3 (f__law_bent K)) := by
  refine fn_dt (N := N__law_bent) F sc__law_bent (fun cdv A outer s H E G P' hr gd => ?_)
  have nd := sc__law_bent.nd
  have tk := takes_of (X := cxOf (L2.CX P w) P w K mg base N__law_bent "_law_bent" (defScope s__law_bent) (ga K "_law_bent") cdv A outer s H E) rfl rfl rfl rfl
  have pow := passes_of (X := cxOf (L2.CX P w) P w K mg base N__law_bent "_law_bent" (defScope s__law_bent) (ga K "_law_bent") cdv A outer s H E) rfl
  exact (sd_cons (sd_setL gd (i := 3) nd (by rfl) T.b_list (pd_var 0))
      (sd_cons (sd_for gd pow rfl (id_list (pd_var 1)) (gd_name (i := 4) nd) (fun G gd => (sd_cons (sd_set gd (i := 5) nd (pd_view (pd_mod (pd_div (pd_var 4) pd_int) (pd_max (by rfl) (by rfl) T.b_max (pad_cons pd_int (pad_cons (pd_len (by rfl) T.b_len (pad_cons (pd_var 3) pad_nil)) pad_nil))))))
      (sd_cons (sd_if gd (pt_eq hr.units (pd_mod (pd_var 4) pd_int) pd_int) (sd_one (sd_frz1 gd 3 (sd_setCat gd (i := 3) nd (pd_sl (pd_var 3) po_n (po_s (pd_var 5))) (pd_sl (pd_var 3) (po_s (pd_add (pd_var 5) pd_int)) po_n)))) sd_nil)
      (sd_cons (sd_if gd (pt_eq hr.units (pd_mod (pd_var 4) pd_int) pd_int) (sd_one (sd_frz1 gd 3 (sd_setCat gd (i := 3) nd (pd_add (pd_sl (pd_var 3) po_n (po_s (pd_var 5))) (pd_lst (pad_cons (pd_var 2) pad_nil) (arge_cons arge_nil).le)) (pd_sl (pd_var 3) (po_s (pd_var 5)) po_n)))) sd_nil)
      (sd_cons (sd_if gd (pt_eq hr.units (pd_mod (pd_var 4) pd_int) pd_int) (sd_one (sd_frz1 gd 3 (sd_setCat gd (i := 3) nd (pd_add (pd_sl (pd_var 3) po_n (po_s (pd_var 5))) (pd_sl (pd_var 3) (po_s (pd_var 5)) (po_s (pd_add (pd_var 5) pd_int)))) (pd_sl (pd_var 3) (po_s (pd_var 5)) po_n)))) sd_nil)
      (sd_one (sd_if gd (pt_view (PW.pt (pwd_and (pt_eq hr.units (pd_mod (pd_var 4) pd_int) pd_int) (pwd_and1 (pt_ne hr.units (pd_var 3) (pd_lst pad_nil arge_nil.le)))))) (sd_one (sd_swap gd (by rfl) 3 5)) sd_nil))))))))
      (sd_frz gd 3 (sd_one (sd_ret gd (pd_var 3))))))
theorem ok__law_bent {P : Program} {w : World} {K : PySem.W.Frag} {mg : Str → Option Value} {base : Heap} (T : Top K mg) : Held P w K mg base 1 (ga K "_law_bent") ["_law_some", "_law_script", "_law_more"] (f__law_bent K) := by
  obtain ⟨fd, F⟩ := T.d__law_bent
  exact ⟨fd, okF__law_bent T F, F.bindsN fun _ _ _ _ _ _ us hl => match us, hl with | [_, _, _], _ => rfl, F.kp⟩
/-! _law_one_right -/
abbrev N__law_one_right : List Str := ["_law_book_here", "_law_place", "_law_amount_here", "_law_row", "_law_answer"]
theorem sc__law_one_right : FnScope N__law_one_right ["_law_book_here", "_law_place", "_law_amount_here", "_law_row"] (defScope s__law_one_right) := ⟨rfl, rfl, rfl, by decide +kernel, rfl, by decide +kernel, by decide +kernel⟩
def g__law_one_right (K : PySem.W.Frag) : Env → Res Fl :=
    (sSeq (sIf (bNot (bV (eCall (f__law_says K) (aCons (eMth (ga K "Alone") "shows" (f_Alone_shows K) (eMk (ga K "Alone") i_Alone (aCons (eVar 2) aNil)) (aCons (eVar 0) (aCons (eVar 1) aNil))) (aCons (eCall (f__law_alone K) (aCons (eVar 0) (aCons (eVar 1) (aCons (eVar 2) aNil)))) aNil))))) (sRet (eC (.bl false))) sNil)
    (sSeq (sAsg (eMk (ga K "Needless") i_Needless (aCons (eOp ixD (eVar 3) (eC (.int 0))) (aCons (eOp ixD (eVar 3) (eC (.int 1))) (aCons (eOp ixD (eVar 3) (eC (.int 2))) (aCons (eOp ixD (eVar 3) (eC (.int 3))) aNil))))) (bNm 4))
    (sSeq (sIf (bV (eOp neD (eTup (aCons (eFld (at_one K) "one" (eVar 4)) (aCons (eFld (at_other K) "other" (eVar 4)) (aCons (eFld (at_first K) "first" (eVar 4)) (aCons (eFld (at_second K) "second" (eVar 4)) aNil))))) (eVar 3))) (sRet (eC (.bl false))) sNil)
    (sRet (eCall (f__law_says K) (aCons (eMth (ga K "Needless") "shows" (f_Needless_shows K) (eVar 4) (aCons (eVar 0) (aCons (eVar 1) aNil))) (aCons (eCall (f__law_needless K) (aCons (eVar 0) (aCons (eVar 1) (aCons (eVar 3) aNil)))) aNil)))))))
def f__law_one_right (K : PySem.W.Frag) : List D → Res D := run 5 (g__law_one_right K)
theorem okF__law_one_right {P : Program} {w : World} {K : PySem.W.Frag} {mg : Str → Option Value} {base : Heap} (T : Top K mg) {fd : FuncData} (F : L2.FunD K "_law_one_right" "_law_one_right" (defArgs s__law_one_right) (defBody s__law_one_right) (defScope s__law_one_right) [] [] (ga K "_law_one_right") fd) : FnOk P w K mg base (L2.CX P w) 3 (ga K "_law_one_right") fd ["_law_book_here", "_law_place", "_law_amount_here", "_law_row"] (spD K 4 (f__law_one_right K)) := by
  refine fn_dt (N := N__law_one_right) F sc__law_one_right (fun cdv A outer s H E G P' hr gd => ?_)
  have nd := sc__law_one_right.nd
  have tk := takes_of (X := cxOf (L2.CX P w) P w K mg base N__law_one_right "_law_one_right" (defScope s__law_one_right) (ga K "_law_one_right") cdv A outer s H E) rfl rfl rfl rfl
  have pow := passes_of (X := cxOf (L2.CX P w) P w K mg base N__law_one_right "_law_one_right" (defScope s__law_one_right) (ga K "_law_one_right") cdv A outer s H E) rfl
  exact (sd_cons (sd_if gd (ptd_not (pt_v (pd_callH (ok__law_says T) (hr.mono (by decide)) tk (by rfl) T.g__law_says (pad_cons (pd_meth (ok_Alone_shows T) (hr.mono (by decide)) T.c_Alone T.m_Alone_shows (pd_make (okI_Alone T) (hr.mono (by decide)) T.k_Alone (by rfl) T.g_Alone (pad_cons (pd_var 2) pad_nil) (arge_cons arge_nil)) (pad_cons (pd_var 0) (pad_cons (pd_var 1) pad_nil)) (arge_cons (arge_cons arge_nil))) (pad_cons (pd_callH (ok__law_alone T) (hr.mono (by decide)) tk (by rfl) T.g__law_alone (pad_cons (pd_var 0) (pad_cons (pd_var 1) (pad_cons (pd_var 2) pad_nil))) (arge_cons (arge_cons (arge_cons arge_nil)))) pad_nil)) (arge_cons (arge_cons arge_nil))))) (sd_one (sd_ret gd pd_bl)) sd_nil)
      (sd_cons (sd_set gd (i := 4) nd (pd_make (okI_Needless T) (hr.mono (by decide)) T.k_Needless (by rfl) T.g_Needless (pad_cons (pd_sub' (pd_var 3) pd_int) (pad_cons (pd_sub' (pd_var 3) pd_int) (pad_cons (pd_sub' (pd_var 3) pd_int) (pad_cons (pd_sub' (pd_var 3) pd_int) pad_nil)))) (arge_cons (arge_cons (arge_cons (arge_cons arge_nil))))))
      (sd_cons (sd_if gd (pt_ne hr.units (pd_tup (pad_cons (pd_fld T.at_one (pd_var 4)) (pad_cons (pd_fld T.at_other (pd_var 4)) (pad_cons (pd_fld T.at_first (pd_var 4)) (pad_cons (pd_fld T.at_second (pd_var 4)) pad_nil)))) (arge_cons (arge_cons (arge_cons (arge_cons arge_nil)))).le) (pd_var 3)) (sd_one (sd_ret gd pd_bl)) sd_nil)
      (sd_one (sd_ret gd (pd_callH (ok__law_says T) (hr.mono (by decide)) tk (by rfl) T.g__law_says (pad_cons (pd_meth (ok_Needless_shows T) (hr.mono (by decide)) T.c_Needless T.m_Needless_shows (pd_var 4) (pad_cons (pd_var 0) (pad_cons (pd_var 1) pad_nil)) (arge_cons (arge_cons arge_nil))) (pad_cons (pd_callH (ok__law_needless T) (hr.mono (by decide)) tk (by rfl) T.g__law_needless (pad_cons (pd_var 0) (pad_cons (pd_var 1) (pad_cons (pd_var 3) pad_nil))) (arge_cons (arge_cons (arge_cons arge_nil)))) pad_nil)) (arge_cons (arge_cons arge_nil))))))))
theorem ok__law_one_right {P : Program} {w : World} {K : PySem.W.Frag} {mg : Str → Option Value} {base : Heap} (T : Top K mg) : Held P w K mg base 3 (ga K "_law_one_right") ["_law_book_here", "_law_place", "_law_amount_here", "_law_row"] (f__law_one_right K) := by
  obtain ⟨fd, F⟩ := T.d__law_one_right
  exact ⟨fd, okF__law_one_right T F, F.bindsN fun _ _ _ _ _ _ us hl => match us, hl with | [_, _, _, _], _ => rfl, F.kp⟩
/-! _law_ranges_right -/
abbrev N__law_ranges_right : List Str := ["_law_book_here", "_law_script", "_law_amount_here", "_law_told", "_law_begins", "_law_places", "_law_some", "_law_starts", "_law_ones", "_law_handed", "_law_answer"]
theorem sc__law_ranges_right : FnScope N__law_ranges_right ["_law_book_here", "_law_script", "_law_amount_here"] (defScope s__law_ranges_right) := ⟨rfl, rfl, rfl, by decide +kernel, rfl, by decide +kernel, by decide +kernel⟩
def g__law_ranges_right (K : PySem.W.Frag) : Env → Res Fl :=
    (sSeq (sAsg (eCall (f_ranges K) (aCons (eVar 0) aNil)) (bNm 3))
    (sSeq (sPar 4 5 (aCons (eFld (at_begins K) "begins" (eVar 3)) (aCons (eFld (at_places K) "places" (eVar 3)) aNil)))
    (sSeq (sAsg (eLst (aCons (eTup (aCons (eVar 4) (aCons (eVar 5) aNil))) (aCons (eTup (aCons (eCall (f__law_bent K) (aCons (eVar 4) (aCons (eVar 1) (aCons (eVar 2) aNil)))) (aCons (eVar 5) aNil))) (aCons (eTup (aCons (eSl (eVar 4) (oSome (eC (.int 1))) oNone) (aCons (eSl (eVar 5) (oSome (eC (.int 1))) oNone) aNil))) (aCons (eTup (aCons (eLst aNil) (aCons (eLst aNil) aNil))) aNil))))) (bNm 6))
    (sSeq (sAsg (eOp addD (eVar 6) (eLst (aCons (eTup (aCons (eVar 4) (aCons (eCall (f__law_bent K) (aCons (eVar 5) (aCons (eVar 1) (aCons (eOp subD (eOp modD (eFn sumD (aCons (eVar 1) aNil)) (eC (.int 9))) (eC (.int 1))) aNil)))) aNil))) (aCons (eTup (aCons (eOp addD (eVar 4) (eLst (aCons (eVar 2) aNil))) (aCons (eOp addD (eVar 5) (eSl (eVar 5) oNone (oSome (eC (.int 1))))) aNil))) aNil)))) (bNm 6))
    (sSeq (sAsg (eOp addD (eVar 6) (eLst (aCons (eTup (aCons (eOp addD (eVar 4) (eSl (eVar 4) (oSome (eUn negD (eC (.int 1)))) oNone)) (aCons (eOp addD (eVar 5) (eSl (eVar 5) (oSome (eUn negD (eC (.int 1)))) oNone)) aNil))) (aCons (eTup (aCons (eSl (eVar 4) oNone (oSome (eC (.int 1)))) (aCons (eSl (eVar 5) (oSome (eUn negD (eC (.int 1)))) oNone) aNil))) (aCons (eTup (aCons (eSl (eVar 4) oNone (oSome (eUn negD (eC (.int 1))))) (aCons (eSl (eVar 5) oNone (oSome (eUn negD (eC (.int 1))))) aNil))) aNil))))) (bNm 6))
    (sSeq (sFor (iL (eVar 6)) (bTup (bsCons (bNm 7) (bsCons (bNm 8) bsNil))) (sSeq (sRgB 9 10 7 8 (ga K "Ranges") i_Ranges)
    (sSeq (sIf (bOr (bV (eOp neD (eFld (at_begins K) "begins" (eVar 10)) (eVar 7))) (bV (eOp neD (eFld (at_places K) "places" (eVar 10)) (eVar 8)))) (sRet (eC (.bl false))) sNil)
    (sIf (bNot (bV (eCall (f__law_says K) (aCons (eMth (ga K "Ranges") "shows" (f_Ranges_shows K) (eVar 10) (aCons (eVar 0) aNil)) (aCons (eCall (f__law_ranges K) (aCons (eVar 0) (aCons (eVar 7) (aCons (eVar 8) aNil)))) aNil))))) (sRet (eC (.bl false))) sNil))))
    (sRet (eC (.bl true)))))))))
def f__law_ranges_right (K : PySem.W.Frag) : List D → Res D := run 11 (g__law_ranges_right K)
theorem okF__law_ranges_right {P : Program} {w : World} {K : PySem.W.Frag} {mg : Str → Option Value} {base : Heap} (T : Top K mg) {fd : FuncData} (F : L2.FunD K "_law_ranges_right" "_law_ranges_right" (defArgs s__law_ranges_right) (defBody s__law_ranges_right) (defScope s__law_ranges_right) [] [] (ga K "_law_ranges_right") fd) : FnOk P w K mg base (L2.CX P w) 5 (ga K "_law_ranges_right") fd ["_law_book_here", "_law_script", "_law_amount_here"] (spD K 3 (f__law_ranges_right K)) := by
  refine fn_dt (N := N__law_ranges_right) F sc__law_ranges_right (fun cdv A outer s H E G P' hr gd => ?_)
  have nd := sc__law_ranges_right.nd
  have tk := takes_of (X := cxOf (L2.CX P w) P w K mg base N__law_ranges_right "_law_ranges_right" (defScope s__law_ranges_right) (ga K "_law_ranges_right") cdv A outer s H E) rfl rfl rfl rfl
  have pow := passes_of (X := cxOf (L2.CX P w) P w K mg base N__law_ranges_right "_law_ranges_right" (defScope s__law_ranges_right) (ga K "_law_ranges_right") cdv A outer s H E) rfl
  exact (sd_cons (sd_set gd (i := 3) nd (pd_callH (ok_ranges T) (hr.mono (by decide)) tk (by rfl) T.g_ranges (pad_cons (pd_var 0) pad_nil) (arge_cons arge_nil)))
      (sd_cons (sd_par gd (i := 4) (j := 5) rfl nd (pad_cons (pd_fld T.at_begins (pd_var 3)) (pad_cons (pd_fld T.at_places (pd_var 3)) pad_nil)))
      (sd_cons (sd_set gd (i := 6) nd (pd_lst (pad_cons (pd_tup (pad_cons (pd_var 4) (pad_cons (pd_var 5) pad_nil)) (arge_cons (arge_cons arge_nil)).le) (pad_cons (pd_tup (pad_cons (pd_callH (ok__law_bent T) (hr.mono (by decide)) tk (by rfl) T.g__law_bent (pad_cons (pd_var 4) (pad_cons (pd_var 1) (pad_cons (pd_var 2) pad_nil))) (arge_cons (arge_cons (arge_cons arge_nil)))) (pad_cons (pd_var 5) pad_nil)) (arge_cons (arge_cons arge_nil)).le) (pad_cons (pd_tup (pad_cons (pd_sl (pd_var 4) (po_s pd_int) po_n) (pad_cons (pd_sl (pd_var 5) (po_s pd_int) po_n) pad_nil)) (arge_cons (arge_cons arge_nil)).le) (pad_cons (pd_tup (pad_cons (pd_lst pad_nil arge_nil.le) (pad_cons (pd_lst pad_nil arge_nil.le) pad_nil)) (arge_cons (arge_cons arge_nil)).le) pad_nil)))) (arge_cons (arge_cons (arge_cons (arge_cons arge_nil)))).le))
      (sd_cons (sd_set gd (i := 6) nd (pd_add (pd_var 6) (pd_lst (pad_cons (pd_tup (pad_cons (pd_var 4) (pad_cons (pd_callH (ok__law_bent T) (hr.mono (by decide)) tk (by rfl) T.g__law_bent (pad_cons (pd_var 5) (pad_cons (pd_var 1) (pad_cons (pd_sub (pd_mod (pd_sum (by rfl) (by rfl) T.b_sum (pad_cons (pd_var 1) pad_nil)) pd_int) pd_int) pad_nil))) (arge_cons (arge_cons (arge_cons arge_nil)))) pad_nil)) (arge_cons (arge_cons arge_nil)).le) (pad_cons (pd_tup (pad_cons (pd_add (pd_var 4) (pd_lst (pad_cons (pd_var 2) pad_nil) (arge_cons arge_nil).le)) (pad_cons (pd_add (pd_var 5) (pd_sl (pd_var 5) po_n (po_s pd_int))) pad_nil)) (arge_cons (arge_cons arge_nil)).le) pad_nil)) (arge_cons (arge_cons arge_nil)).le)))
      (sd_cons (sd_set gd (i := 6) nd (pd_add (pd_var 6) (pd_lst (pad_cons (pd_tup (pad_cons (pd_add (pd_var 4) (pd_sl (pd_var 4) (po_s (pd_neg pd_int)) po_n)) (pad_cons (pd_add (pd_var 5) (pd_sl (pd_var 5) (po_s (pd_neg pd_int)) po_n)) pad_nil)) (arge_cons (arge_cons arge_nil)).le) (pad_cons (pd_tup (pad_cons (pd_sl (pd_var 4) po_n (po_s pd_int)) (pad_cons (pd_sl (pd_var 5) (po_s (pd_neg pd_int)) po_n) pad_nil)) (arge_cons (arge_cons arge_nil)).le) (pad_cons (pd_tup (pad_cons (pd_sl (pd_var 4) po_n (po_s (pd_neg pd_int))) (pad_cons (pd_sl (pd_var 5) po_n (po_s (pd_neg pd_int))) pad_nil)) (arge_cons (arge_cons arge_nil)).le) pad_nil))) (arge_cons (arge_cons (arge_cons arge_nil))).le)))
      (sd_cons (sd_for gd pow rfl (id_list (pd_var 6)) (gd_tup rfl (gds_cons (gd_name (i := 7) nd) (gds_cons (gd_name (i := 8) nd) gds_nil)) (btn_cons (btn_cons btn_nil))) (fun G gd => (sd_rgB gd 9 10 7 8 (by decide) (okI_Ranges T) (hr.mono (by decide)) T.k_Ranges nd (by rfl) T.g_Ranges (by rfl) T.b_list
      (sd_cons (sd_if gd (PW.pt (pwd_or (pt_ne hr.units (pd_fld T.at_begins (pd_var 10)) (pd_var 7)) (pwd_or1 (pt_ne hr.units (pd_fld T.at_places (pd_var 10)) (pd_var 8))))) (sd_one (sd_ret gd pd_bl)) sd_nil)
      (sd_one (sd_if gd (ptd_not (pt_v (pd_callH (ok__law_says T) (hr.mono (by decide)) tk (by rfl) T.g__law_says (pad_cons (pd_meth (ok_Ranges_shows T) (hr.mono (by decide)) T.c_Ranges T.m_Ranges_shows (pd_var 10) (pad_cons (pd_var 0) pad_nil) (arge_cons arge_nil)) (pad_cons (pd_callH (ok__law_ranges T) (hr.mono (by decide)) tk (by rfl) T.g__law_ranges (pad_cons (pd_var 0) (pad_cons (pd_var 7) (pad_cons (pd_var 8) pad_nil))) (arge_cons (arge_cons (arge_cons arge_nil)))) pad_nil)) (arge_cons (arge_cons arge_nil))))) (sd_one (sd_ret gd pd_bl)) sd_nil))))))
      (sd_one (sd_ret gd pd_bl))))))))
theorem ok__law_ranges_right {P : Program} {w : World} {K : PySem.W.Frag} {mg : Str → Option Value} {base : Heap} (T : Top K mg) : Held P w K mg base 5 (ga K "_law_ranges_right") ["_law_book_here", "_law_script", "_law_amount_here"] (f__law_ranges_right K) := by
  obtain ⟨fd, F⟩ := T.d__law_ranges_right
  exact ⟨fd, okF__law_ranges_right T F, F.bindsN fun _ _ _ _ _ _ us hl => match us, hl with | [_, _, _], _ => rfl, F.kp⟩
/-! _law_books_right -/
abbrev N__law_books_right : List Str := ["_law_one", "_law_other", "_law_script", "_law_amount_here", "_law_told", "_law_rows", "_law_tariff", "_law_row", "_law_some", "_law_first", "_law_handed", "_law_answer", "_law_due"]
theorem sc__law_books_right : FnScope N__law_books_right ["_law_one", "_law_other", "_law_script", "_law_amount_here"] (defScope s__law_books_right) := ⟨rfl, rfl, rfl, by decide +kernel, rfl, by decide +kernel, by decide +kernel⟩
def g__law_books_right (K : PySem.W.Frag) : Env → Res Fl :=
    (sSeq (sAsg (eCall (f_under K) (aCons (eVar 0) (aCons (eVar 1) aNil))) (bNm 4))
    (sSeq (sAsg (eIf (bV (eFn (isiD K (cis K)) (aCons (eVar 4) (aCons (eC (.cls (ga K "Under"))) aNil)))) (eFld (at_rows K) "rows" (eVar 4)) (eLC [6] (bNm 6) bYes (eTup (aCons (eC (.int 0)) (aCons (eOp subD (eFn lenD (aCons (eVar 0) aNil)) (eC (.int 1))) (aCons (eC (.int 1)) (aCons (eC (.int 1)) aNil))))) (iL (eVar 1)))) (bNm 5))
    (sSeq (sAsg (eTup (aCons (eOp modD (eFn sumD (aCons (eVar 2) aNil)) (eOp addD (eFn lenD (aCons (eVar 0) aNil)) (eC (.int 1)))) (aCons (eOp subD (eOp modD (eOp divD (eFn sumD (aCons (eVar 2) aNil)) (eC (.int 3))) (eC (.int 5))) (eC (.int 1))) (aCons (eOp subD (eOp modD (eOp divD (eFn sumD (aCons (eVar 2) aNil)) (eC (.int 7))) (eC (.int 4))) (eC (.int 1))) (aCons (eOp modD (eOp divD (eFn sumD (aCons (eVar 2) aNil)) (eC (.int 5))) (eC (.int 3))) aNil))))) (bNm 7))
    (sSeq (sFor (iL (eLst (aCons (eVar 5) (aCons (eCall (f__law_bent K) (aCons (eVar 5) (aCons (eVar 2) (aCons (eVar 7) aNil)))) (aCons (eSl (eVar 5) (oSome (eC (.int 1))) oNone) (aCons (eLC [9] (bNm 9) bYes (eTup (aCons (eVar 9) (aCons (eVar 9) (aCons (eC (.int 2)) (aCons (eC (.int 0)) aNil))))) (iR1 (aCons (eFn lenD (aCons (eVar 1) aNil)) aNil))) aNil)))))) (bNm 8) (sSeq (sAsgL 10 (eVar 8))
    (sSeq (sMkO 10 11 (ga K "Under") i_Under)
    (sSeq (sApp 10 (eVar 7))
    (sIf (bOr (bV (eOp neD (eFld (at_rows K) "rows" (eVar 11)) (eVar 8))) (bNot (bV (eCall (f__law_says K) (aCons (eMth (ga K "Under") "shows" (f_Under_shows K) (eVar 11) (aCons (eVar 0) (aCons (eVar 1) aNil))) (aCons (eCall (f__law_under K) (aCons (eVar 0) (aCons (eVar 1) (aCons (eVar 8) aNil)))) aNil)))))) (sRet (eC (.bl false))) sNil)))))
    (sSeq (sFor (iL (eLst (aCons (eVar 3) (aCons (eTup (aCons (eC (.int 0)) (aCons (eC (.int 1)) aNil))) (aCons (eTup (aCons (eOp addD (eOp ixD (eVar 3) (eC (.int 0))) (eOp ixD (eVar 3) (eC (.int 1)))) (aCons (eOp ixD (eVar 3) (eC (.int 1))) aNil))) aNil))))) (bNm 8) (sSeq (sAsg (eCall (f__law_over K) (aCons (eVar 0) (aCons (eVar 1) (aCons (eVar 8) aNil)))) (bNm 12))
    (sIf (bOr (bV (eOp neD (eFld (at_amount K) "amount" (eMk (ga K "Over") i_Over (aCons (eVar 8) aNil))) (eVar 8))) (bNot (bV (eCall (f__law_says K) (aCons (eMth (ga K "Over") "shows" (f_Over_shows K) (eMk (ga K "Over") i_Over (aCons (eVar 8) aNil)) (aCons (eVar 0) (aCons (eVar 1) aNil))) (aCons (eVar 12) aNil)))))) (sRet (eC (.bl false))) sNil)))
    (sRet (eC (.bl true))))))))
def f__law_books_right (K : PySem.W.Frag) : List D → Res D := run 13 (g__law_books_right K)
theorem okF__law_books_right {P : Program} {w : World} {K : PySem.W.Frag} {mg : Str → Option Value} {base : Heap} (T : Top K mg) {fd : FuncData} (F : L2.FunD K "_law_books_right" "_law_books_right" (defArgs s__law_books_right) (defBody s__law_books_right) (defScope s__law_books_right) [] [] (ga K "_law_books_right") fd) : FnOk P w K mg base (L2.CX P w) 5 (ga K "_law_books_right") fd ["_law_one", "_law_other", "_law_script", "_law_amount_here"] (spD K 4 (f__law_books_right K)) := by
  refine fn_dt (N := N__law_books_right) F sc__law_books_right (fun cdv A outer s H E G P' hr gd => ?_)
  have nd := sc__law_books_right.nd
  have tk := takes_of (X := cxOf (L2.CX P w) P w K mg base N__law_books_right "_law_books_right" (defScope s__law_books_right) (ga K "_law_books_right") cdv A outer s H E) rfl rfl rfl rfl
  have pow := passes_of (X := cxOf (L2.CX P w) P w K mg base N__law_books_right "_law_books_right" (defScope s__law_books_right) (ga K "_law_books_right") cdv A outer s H E) rfl
  exact (sd_cons (sd_set gd (i := 4) nd (pd_callH (ok_under T) (hr.mono (by decide)) tk (by rfl) T.g_under (pad_cons (pd_var 0) (pad_cons (pd_var 1) pad_nil)) (arge_cons (arge_cons arge_nil))))
      (sd_cons (sd_set gd (i := 5) nd (pd_if (pt_v (pd_isi T.ci (by rfl) T.b_isinstance (pad_cons (pd_var 4) (pad_cons (pd_cls (by rfl) T.g_Under) pad_nil)))) (pd_fld T.at_rows (pd_var 4)) (pd_lc (own := [("_law_tariff", 6)]) (by rfl) nd (id_list (pd_var 1)) (blkOk_by (own := [("_law_tariff", 6)]) (N := N__law_books_right) (sc := defScope s__law_books_right) (by decide +kernel)) (by decide) (fun _ _ _ _ _ => (gd_name (i := 6) nd)) (fun _ _ _ _ _ => ptsd_nil) (fun _ _ _ _ _ => (pd_tup (pad_cons pd_int (pad_cons (pd_sub (pd_len (by rfl) T.b_len (pad_cons (pd_var 0) pad_nil)) pd_int) (pad_cons pd_int (pad_cons pd_int pad_nil)))) (arge_cons (arge_cons (arge_cons (arge_cons arge_nil)))).le)))))
      (sd_cons (sd_set gd (i := 7) nd (pd_tup (pad_cons (pd_mod (pd_sum (by rfl) (by rfl) T.b_sum (pad_cons (pd_var 2) pad_nil)) (pd_add (pd_len (by rfl) T.b_len (pad_cons (pd_var 0) pad_nil)) pd_int)) (pad_cons (pd_sub (pd_mod (pd_div (pd_sum (by rfl) (by rfl) T.b_sum (pad_cons (pd_var 2) pad_nil)) pd_int) pd_int) pd_int) (pad_cons (pd_sub (pd_mod (pd_div (pd_sum (by rfl) (by rfl) T.b_sum (pad_cons (pd_var 2) pad_nil)) pd_int) pd_int) pd_int) (pad_cons (pd_mod (pd_div (pd_sum (by rfl) (by rfl) T.b_sum (pad_cons (pd_var 2) pad_nil)) pd_int) pd_int) pad_nil)))) (arge_cons (arge_cons (arge_cons (arge_cons arge_nil)))).le))
      (sd_cons (sd_for gd pow rfl (id_list (pd_lst (pad_cons (pd_var 5) (pad_cons (pd_callH (ok__law_bent T) (hr.mono (by decide)) tk (by rfl) T.g__law_bent (pad_cons (pd_var 5) (pad_cons (pd_var 2) (pad_cons (pd_var 7) pad_nil))) (arge_cons (arge_cons (arge_cons arge_nil)))) (pad_cons (pd_sl (pd_var 5) (po_s pd_int) po_n) (pad_cons (pd_lc (own := [("_law_first", 9)]) (by rfl) nd (id_range1 (by rfl) T.b_range (pad_cons (pd_len (by rfl) T.b_len (pad_cons (pd_var 1) pad_nil)) pad_nil)) (blkOk_by (own := [("_law_first", 9)]) (N := N__law_books_right) (sc := defScope s__law_books_right) (by decide +kernel)) (by decide) (fun _ _ _ _ _ => (gd_name (i := 9) nd)) (fun _ _ _ _ _ => ptsd_nil) (fun _ _ _ _ _ => (pd_tup (pad_cons (pd_var 9) (pad_cons (pd_var 9) (pad_cons pd_int (pad_cons pd_int pad_nil)))) (arge_cons (arge_cons (arge_cons (arge_cons arge_nil)))).le))) pad_nil)))) (arge_cons (arge_cons (arge_cons (arge_cons arge_nil)))).le)) (gd_name (i := 8) nd) (fun G gd => (sd_cons (sd_setL gd (i := 10) nd (by rfl) T.b_list (pd_var 8))
      (sd_cons (sd_mkO gd 10 11 (okI_Under T) (hr.mono (by decide)) T.k_Under nd (by rfl) T.g_Under)
      (sd_cons (sd_app gd 10 (pd_var 7))
      (sd_one (sd_if gd (PW.pt (pwd_or (pt_ne hr.units (pd_fld T.at_rows (pd_var 11)) (pd_var 8)) (pwd_or1 (ptd_not (pt_v (pd_callH (ok__law_says T) (hr.mono (by decide)) tk (by rfl) T.g__law_says (pad_cons (pd_meth (ok_Under_shows T) (hr.mono (by decide)) T.c_Under T.m_Under_shows (pd_var 11) (pad_cons (pd_var 0) (pad_cons (pd_var 1) pad_nil)) (arge_cons (arge_cons arge_nil))) (pad_cons (pd_callH (ok__law_under T) (hr.mono (by decide)) tk (by rfl) T.g__law_under (pad_cons (pd_var 0) (pad_cons (pd_var 1) (pad_cons (pd_var 8) pad_nil))) (arge_cons (arge_cons (arge_cons arge_nil)))) pad_nil)) (arge_cons (arge_cons arge_nil)))))))) (sd_one (sd_ret gd pd_bl)) sd_nil)))))))
      (sd_cons (sd_for gd pow rfl (id_list (pd_lst (pad_cons (pd_var 3) (pad_cons (pd_tup (pad_cons pd_int (pad_cons pd_int pad_nil)) (arge_cons (arge_cons arge_nil)).le) (pad_cons (pd_tup (pad_cons (pd_add (pd_sub' (pd_var 3) pd_int) (pd_sub' (pd_var 3) pd_int)) (pad_cons (pd_sub' (pd_var 3) pd_int) pad_nil)) (arge_cons (arge_cons arge_nil)).le) pad_nil))) (arge_cons (arge_cons (arge_cons arge_nil))).le)) (gd_name (i := 8) nd) (fun G gd => (sd_cons (sd_set gd (i := 12) nd (pd_callH (ok__law_over T) (hr.mono (by decide)) tk (by rfl) T.g__law_over (pad_cons (pd_var 0) (pad_cons (pd_var 1) (pad_cons (pd_var 8) pad_nil))) (arge_cons (arge_cons (arge_cons arge_nil)))))
      (sd_one (sd_if gd (PW.pt (pwd_or (pt_ne hr.units (pd_fld T.at_amount (pd_make (okI_Over T) (hr.mono (by decide)) T.k_Over (by rfl) T.g_Over (pad_cons (pd_var 8) pad_nil) (arge_cons arge_nil))) (pd_var 8)) (pwd_or1 (ptd_not (pt_v (pd_callH (ok__law_says T) (hr.mono (by decide)) tk (by rfl) T.g__law_says (pad_cons (pd_meth (ok_Over_shows T) (hr.mono (by decide)) T.c_Over T.m_Over_shows (pd_make (okI_Over T) (hr.mono (by decide)) T.k_Over (by rfl) T.g_Over (pad_cons (pd_var 8) pad_nil) (arge_cons arge_nil)) (pad_cons (pd_var 0) (pad_cons (pd_var 1) pad_nil)) (arge_cons (arge_cons arge_nil))) (pad_cons (pd_var 12) pad_nil)) (arge_cons (arge_cons arge_nil)))))))) (sd_one (sd_ret gd pd_bl)) sd_nil)))))
      (sd_one (sd_ret gd pd_bl)))))))
theorem ok__law_books_right {P : Program} {w : World} {K : PySem.W.Frag} {mg : Str → Option Value} {base : Heap} (T : Top K mg) : Held P w K mg base 5 (ga K "_law_books_right") ["_law_one", "_law_other", "_law_script", "_law_amount_here"] (f__law_books_right K) := by
  obtain ⟨fd, F⟩ := T.d__law_books_right
  exact ⟨fd, okF__law_books_right T F, F.bindsN fun _ _ _ _ _ _ us hl => match us, hl with | [_, _, _, _], _ => rfl, F.kp⟩
/-! _law_money_right -/
abbrev N__law_money_right : List Str := ["_law_book_here", "_law_money", "_law_place", "_law_amount_here", "_law_tariff"]
theorem sc__law_money_right : FnScope N__law_money_right ["_law_book_here", "_law_money", "_law_place", "_law_amount_here"] (defScope s__law_money_right) := ⟨rfl, rfl, rfl, by decide +kernel, rfl, by decide +kernel, by decide +kernel⟩
def g__law_money_right (K : PySem.W.Frag) : Env → Res Fl :=
    (sSeq (sIf (bNot (bV (eCall (f__law_says K) (aCons (eMth (ga K "Most") "shows" (f_Most_shows K) (eMk (ga K "Most") i_Most (aCons (eVar 2) (aCons (eVar 3) aNil))) (aCons (eVar 0) (aCons (eVar 1) aNil))) (aCons (eCall (f__law_most K) (aCons (eVar 0) (aCons (eVar 1) (aCons (eVar 2) (aCons (eVar 3) aNil))))) aNil))))) (sRet (eC (.bl false))) sNil)
    (sSeq (sIf (bNot (bV (eCall (f__law_says K) (aCons (eMth (ga K "Endless") "shows" (f_Endless_shows K) (eMk (ga K "Endless") i_Endless (aCons (eVar 2) aNil)) (aCons (eVar 0) (aCons (eVar 1) aNil))) (aCons (eCall (f__law_endless K) (aCons (eVar 0) (aCons (eVar 1) (aCons (eVar 2) aNil)))) aNil))))) (sRet (eC (.bl false))) sNil)
    (sRet (eCall (f__law_says K) (aCons (eMth (ga K "Dear") "shows" (f_Dear_shows K) (eMk0 (ga K "Dear")) (aCons (eVar 0) (aCons (eVar 1) aNil))) (aCons (eFn allD (aCons (eLC [4] (bNm 4) bYes (eOp gtD (eOp ixD (eVar 4) (eC (.int 0))) (eVar 1)) (iL (eVar 0))) aNil)) aNil))))))
def f__law_money_right (K : PySem.W.Frag) : List D → Res D := run 5 (g__law_money_right K)
theorem okF__law_money_right {P : Program} {w : World} {K : PySem.W.Frag} {mg : Str → Option Value} {base : Heap} (T : Top K mg) {fd : FuncData} (F : L2.FunD K "_law_money_right" "_law_money_right" (defArgs s__law_money_right) (defBody s__law_money_right) (defScope s__law_money_right) [] [] (ga K "_law_money_right") fd) : FnOk P w K mg base (L2.CX P w) 3 (ga K "_law_money_right") fd ["_law_book_here", "_law_money", "_law_place", "_law_amount_here"] (spD K 4 (f__law_money_right K)) := by
  refine fn_dt (N := N__law_money_right) F sc__law_money_right (fun cdv A outer s H E G P' hr gd => ?_)
  have nd := sc__law_money_right.nd
  have tk := takes_of (X := cxOf (L2.CX P w) P w K mg base N__law_money_right "_law_money_right" (defScope s__law_money_right) (ga K "_law_money_right") cdv A outer s H E) rfl rfl rfl rfl
  have pow := passes_of (X := cxOf (L2.CX P w) P w K mg base N__law_money_right "_law_money_right" (defScope s__law_money_right) (ga K "_law_money_right") cdv A outer s H E) rfl
  exact (sd_cons (sd_if gd (ptd_not (pt_v (pd_callH (ok__law_says T) (hr.mono (by decide)) tk (by rfl) T.g__law_says (pad_cons (pd_meth (ok_Most_shows T) (hr.mono (by decide)) T.c_Most T.m_Most_shows (pd_make (okI_Most T) (hr.mono (by decide)) T.k_Most (by rfl) T.g_Most (pad_cons (pd_var 2) (pad_cons (pd_var 3) pad_nil)) (arge_cons (arge_cons arge_nil))) (pad_cons (pd_var 0) (pad_cons (pd_var 1) pad_nil)) (arge_cons (arge_cons arge_nil))) (pad_cons (pd_callH (ok__law_most T) (hr.mono (by decide)) tk (by rfl) T.g__law_most (pad_cons (pd_var 0) (pad_cons (pd_var 1) (pad_cons (pd_var 2) (pad_cons (pd_var 3) pad_nil)))) (arge_cons (arge_cons (arge_cons (arge_cons arge_nil))))) pad_nil)) (arge_cons (arge_cons arge_nil))))) (sd_one (sd_ret gd pd_bl)) sd_nil)
      (sd_cons (sd_if gd (ptd_not (pt_v (pd_callH (ok__law_says T) (hr.mono (by decide)) tk (by rfl) T.g__law_says (pad_cons (pd_meth (ok_Endless_shows T) (hr.mono (by decide)) T.c_Endless T.m_Endless_shows (pd_make (okI_Endless T) (hr.mono (by decide)) T.k_Endless (by rfl) T.g_Endless (pad_cons (pd_var 2) pad_nil) (arge_cons arge_nil)) (pad_cons (pd_var 0) (pad_cons (pd_var 1) pad_nil)) (arge_cons (arge_cons arge_nil))) (pad_cons (pd_callH (ok__law_endless T) (hr.mono (by decide)) tk (by rfl) T.g__law_endless (pad_cons (pd_var 0) (pad_cons (pd_var 1) (pad_cons (pd_var 2) pad_nil))) (arge_cons (arge_cons (arge_cons arge_nil)))) pad_nil)) (arge_cons (arge_cons arge_nil))))) (sd_one (sd_ret gd pd_bl)) sd_nil)
      (sd_one (sd_ret gd (pd_callH (ok__law_says T) (hr.mono (by decide)) tk (by rfl) T.g__law_says (pad_cons (pd_meth (ok_Dear_shows T) (hr.mono (by decide)) T.c_Dear T.m_Dear_shows (pd_make0b T.k_Dear (by rfl) T.g_Dear) (pad_cons (pd_var 0) (pad_cons (pd_var 1) pad_nil)) (arge_cons (arge_cons arge_nil))) (pad_cons (pd_all (by rfl) (by rfl) T.b_all (pad_cons (pd_lc (own := [("_law_tariff", 4)]) (by rfl) nd (id_list (pd_var 0)) (blkOk_by (own := [("_law_tariff", 4)]) (N := N__law_money_right) (sc := defScope s__law_money_right) (by decide +kernel)) (by decide) (fun _ _ _ _ _ => (gd_name (i := 4) nd)) (fun _ _ _ _ _ => ptsd_nil) (fun _ _ _ _ _ => (pd_gt (pd_sub' (pd_var 4) pd_int) (pd_var 1)))) pad_nil)) pad_nil)) (arge_cons (arge_cons arge_nil)))))))
theorem ok__law_money_right {P : Program} {w : World} {K : PySem.W.Frag} {mg : Str → Option Value} {base : Heap} (T : Top K mg) : Held P w K mg base 3 (ga K "_law_money_right") ["_law_book_here", "_law_money", "_law_place", "_law_amount_here"] (f__law_money_right K) := by
  obtain ⟨fd, F⟩ := T.d__law_money_right
  exact ⟨fd, okF__law_money_right T F, F.bindsN fun _ _ _ _ _ _ us hl => match us, hl with | [_, _, _, _], _ => rfl, F.kp⟩
/-! _law_outright -/
abbrev N__law_outright : List Str := ["_law_book_here", "_law_bad", "_law_good", "_law_said"]
theorem sc__law_outright : FnScope N__law_outright [] (defScope s__law_outright) := ⟨rfl, rfl, rfl, by decide +kernel, rfl, by decide +kernel, by decide +kernel⟩
def g__law_outright (K : PySem.W.Frag) : Env → Res Fl :=
    (sSeq (sAsg (eLst (aCons (eTup (aCons (eC (.int 0)) (aCons (eC (.int 4)) aNil))) (aCons (eTup (aCons (eC (.int 6)) (aCons (eC (.int 1)) aNil))) (aCons (eTup (aCons (eC (.int 2)) (aCons (eC (.int 3)) aNil))) (aCons (eTup (aCons (eC (.int 9)) (aCons (eC (.int 0)) aNil))) aNil))))) (bNm 0))
    (sSeq (sAsg (eLst (aCons (eMth (ga K "Needless") "shows" (f_Needless_shows K) (eMk (ga K "Needless") i_Needless (aCons (eC (.int 0)) (aCons (eC (.int 1)) (aCons (eC (.int 0)) (aCons (eC (.int 0)) aNil))))) (aCons (eVar 0) (aCons (eC (.int 2)) aNil))) (aCons (eMth (ga K "Needless") "shows" (f_Needless_shows K) (eMk (ga K "Needless") i_Needless (aCons (eC (.int 2)) (aCons (eC (.int 2)) (aCons (eC (.int 1)) (aCons (eC (.int 1)) aNil))))) (aCons (eVar 0) (aCons (eC (.int 2)) aNil))) aNil))) (bNm 1))
    (sSeq (sAsg (eOp addD (eVar 1) (eLst (aCons (eMth (ga K "Needless") "shows" (f_Needless_shows K) (eMk (ga K "Needless") i_Needless (aCons (eC (.int 0)) (aCons (eC (.int 1)) (aCons (eC (.int 3)) (aCons (eUn negD (eC (.int 1))) aNil))))) (aCons (eVar 0) (aCons (eC (.int 2)) aNil))) (aCons (eMth (ga K "Needless") "shows" (f_Needless_shows K) (eMk (ga K "Needless") i_Needless (aCons (eC (.int 0)) (aCons (eC (.int 1)) (aCons (eC (.int 1)) (aCons (eC (.int 2)) aNil))))) (aCons (eVar 0) (aCons (eC (.int 2)) aNil))) aNil)))) (bNm 1))
    (sSeq (sAsg (eOp addD (eVar 1) (eLst (aCons (eMth (ga K "Needless") "shows" (f_Needless_shows K) (eMk (ga K "Needless") i_Needless (aCons (eC (.int 0)) (aCons (eC (.int 1)) (aCons (eC (.int 2)) (aCons (eUn negD (eC (.int 1))) aNil))))) (aCons (eLst (aCons (eTup (aCons (eC (.int 1)) (aCons (eC (.int 1)) aNil))) (aCons (eTup (aCons (eC (.int 5)) (aCons (eC (.int 5)) aNil))) (aCons (eTup (aCons (eC (.int 2)) (aCons (eC (.int 2)) aNil))) aNil)))) (aCons (eC (.int 2)) aNil))) (aCons (eMth (ga K "Needless") "shows" (f_Needless_shows K) (eMk (ga K "Needless") i_Needless (aCons (eC (.int 0)) (aCons (eC (.int 0)) (aCons (eC (.int 1)) (aCons (eC (.int 0)) aNil))))) (aCons (eVar 0) (aCons (eC (.int 2)) aNil))) aNil)))) (bNm 1))
    (sSeq (sAsg (eOp addD (eVar 1) (eLst (aCons (eMth (ga K "Needless") "shows" (f_Needless_shows K) (eMk (ga K "Needless") i_Needless (aCons (eC (.int 0)) (aCons (eUn negD (eC (.int 3))) (aCons (eC (.int 2)) (aCons (eC (.int 1)) aNil))))) (aCons (eVar 0) (aCons (eC (.int 2)) aNil))) (aCons (eMth (ga K "Alone") "shows" (f_Alone_shows K) (eMk (ga K "Alone") i_Alone (aCons (eTup (aCons (eC (.int 2)) (aCons (eC (.int 1)) aNil))) aNil)) (aCons (eVar 0) (aCons (eC (.int 2)) aNil))) aNil)))) (bNm 1))
    (sSeq (sAsg (eOp addD (eVar 1) (eLst (aCons (eMth (ga K "Ranges") "shows" (f_Ranges_shows K) (eMk (ga K "Ranges") i_Ranges (aCons (eLst (aCons (eTup (aCons (eC (.int 0)) (aCons (eC (.int 1)) aNil))) (aCons (eTup (aCons (eC (.int 2)) (aCons (eC (.int 1)) aNil))) aNil))) (aCons (eLst (aCons (eC (.int 0)) (aCons (eC (.int 1)) aNil))) aNil))) (aCons (eVar 0) aNil)) (aCons (eMth (ga K "Ranges") "shows" (f_Ranges_shows K) (eMk (ga K "Ranges") i_Ranges (aCons (eLst (aCons (eTup (aCons (eC (.int 0)) (aCons (eC (.int 1)) aNil))) (aCons (eTup (aCons (eC (.int 2)) (aCons (eC (.int 1)) aNil))) (aCons (eTup (aCons (eC (.int 4)) (aCons (eC (.int 1)) aNil))) aNil)))) (aCons (eLst (aCons (eC (.int 0)) (aCons (eC (.int 1)) (aCons (eC (.int 3)) aNil)))) aNil))) (aCons (eVar 0) aNil)) aNil)))) (bNm 1))
    (sSeq (sAsg (eOp addD (eVar 1) (eLst (aCons (eMth (ga K "Ranges") "shows" (f_Ranges_shows K) (eMk (ga K "Ranges") i_Ranges (aCons (eLst (aCons (eTup (aCons (eC (.int 1)) (aCons (eC (.int 1)) aNil))) aNil)) (aCons (eLst (aCons (eC (.int 0)) aNil)) aNil))) (aCons (eLst (aCons (eTup (aCons (eC (.int 0)) (aCons (eC (.int 0)) aNil))) aNil)) aNil)) (aCons (eMth (ga K "Ranges") "shows" (f_Ranges_shows K) (eMk (ga K "Ranges") i_Ranges (aCons (eLst (aCons (eTup (aCons (eC (.int 0)) (aCons (eC (.int 1)) aNil))) (aCons (eTup (aCons (eC (.int 1)) (aCons (eC (.int 1)) aNil))) aNil))) (aCons (eLst (aCons (eC (.int 0)) (aCons (eC (.int 0)) aNil))) aNil))) (aCons (eLst (aCons (eTup (aCons (eC (.int 0)) (aCons (eC (.int 0)) aNil))) aNil)) aNil)) aNil)))) (bNm 1))
    (sSeq (sAsg (eOp addD (eVar 1) (eLst (aCons (eMth (ga K "Over") "shows" (f_Over_shows K) (eMk (ga K "Over") i_Over (aCons (eTup (aCons (eC (.int 2)) (aCons (eC (.int 1)) aNil))) aNil)) (aCons (eVar 0) (aCons (eVar 0) aNil))) (aCons (eMth (ga K "Under") "shows" (f_Under_shows K) (eMk (ga K "Under") i_Under (aCons (eLst aNil) aNil)) (aCons (eVar 0) (aCons (eVar 0) aNil))) (aCons (eMth (ga K "Most") "shows" (f_Most_shows K) (eMk (ga K "Most") i_Most (aCons (eC (.int 0)) (aCons (eTup (aCons (eC (.int 2)) (aCons (eC (.int 1)) aNil))) aNil))) (aCons (eVar 0) (aCons (eC (.int 9)) aNil))) aNil))))) (bNm 1))
    (sSeq (sAsg (eOp addD (eVar 1) (eLst (aCons (eMth (ga K "Most") "shows" (f_Most_shows K) (eMk (ga K "Most") i_Most (aCons (eC (.int 3)) (aCons (eTup (aCons (eC (.int 0)) (aCons (eC (.int 1)) aNil))) aNil))) (aCons (eLst (aCons (eTup (aCons (eC (.int 9)) (aCons (eC (.int 1)) aNil))) (aCons (eTup (aCons (eC (.int 8)) (aCons (eC (.int 1)) aNil))) (aCons (eTup (aCons (eC (.int 7)) (aCons (eC (.int 1)) aNil))) (aCons (eTup (aCons (eC (.int 9)) (aCons (eC (.int 1)) aNil))) aNil))))) (aCons (eC (.int 9)) aNil))) (aCons (eMth (ga K "Most") "shows" (f_Most_shows K) (eMk (ga K "Most") i_Most (aCons (eC (.int 0)) (aCons (eTup (aCons (eC (.int 5)) (aCons (eC (.int 1)) aNil))) aNil))) (aCons (eLst (aCons (eTup (aCons (eC (.int 4)) (aCons (eC (.int 0)) aNil))) aNil)) (aCons (eC (.int 4)) aNil))) aNil)))) (bNm 1))
    (sSeq (sAsg (eOp addD (eVar 1) (eLst (aCons (eMth (ga K "Endless") "shows" (f_Endless_shows K) (eMk (ga K "Endless") i_Endless (aCons (eUn negD (eC (.int 1))) aNil)) (aCons (eVar 0) (aCons (eC (.int 9)) aNil))) (aCons (eMth (ga K "Endless") "shows" (f_Endless_shows K) (eMk (ga K "Endless") i_Endless (aCons (eC (.int 3)) aNil)) (aCons (eVar 0) (aCons (eC (.int 8)) aNil))) aNil)))) (bNm 1))
    (sSeq (sAsg (eOp addD (eVar 1) (eLst (aCons (eMth (ga K "Endless") "shows" (f_Endless_shows K) (eMk (ga K "Endless") i_Endless (aCons (eC (.int 1)) aNil)) (aCons (eVar 0) (aCons (eC (.int 9)) aNil))) (aCons (eMth (ga K "Dear") "shows" (f_Dear_shows K) (eMk0 (ga K "Dear")) (aCons (eVar 0) (aCons (eC (.int 0)) aNil))) aNil)))) (bNm 1))
    (sSeq (sAsgO 2 (aCons (eMth (ga K "Needless") "shows" (f_Needless_shows K) (eMk (ga K "Needless") i_Needless (aCons (eC (.int 0)) (aCons (eC (.int 1)) (aCons (eC (.int 2)) (aCons (eC (.int 1)) aNil))))) (aCons (eVar 0) (aCons (eC (.int 2)) aNil))) (aCons (eMth (ga K "Alone") "shows" (f_Alone_shows K) (eMk (ga K "Alone") i_Alone (aCons (eTup (aCons (eC (.int 1)) (aCons (eC (.int 1)) aNil))) aNil)) (aCons (eVar 0) (aCons (eC (.int 0)) aNil))) (aCons (eMth (ga K "Endless") "shows" (f_Endless_shows K) (eMk (ga K "Endless") i_Endless (aCons (eC (.int 3)) aNil)) (aCons (eVar 0) (aCons (eC (.int 9)) aNil))) aNil))))
    (fun env => (sSeq (sAsgCat 2 (eVar 2) (eLst (aCons (eMth (ga K "Ranges") "shows" (f_Ranges_shows K) (eMk (ga K "Ranges") i_Ranges (aCons (eLst (aCons (eTup (aCons (eC (.int 0)) (aCons (eC (.int 1)) aNil))) (aCons (eTup (aCons (eC (.int 2)) (aCons (eC (.int 1)) aNil))) (aCons (eTup (aCons (eC (.int 3)) (aCons (eC (.int 1)) aNil))) aNil)))) (aCons (eLst (aCons (eC (.int 0)) (aCons (eC (.int 1)) (aCons (eC (.int 3)) aNil)))) aNil))) (aCons (eVar 0) aNil)) (aCons (eMth (ga K "Most") "shows" (f_Most_shows K) (eMk (ga K "Most") i_Most (aCons (eC (.int 1)) (aCons (eTup (aCons (eC (.int 2)) (aCons (eC (.int 1)) aNil))) aNil))) (aCons (eVar 0) (aCons (eC (.int 8)) aNil))) aNil))))
    (fun env => (sSeq (sAsgCat 2 (eVar 2) (eLst (aCons (eMth (ga K "Dear") "shows" (f_Dear_shows K) (eMk0 (ga K "Dear")) (aCons (eLst (aCons (eTup (aCons (eC (.int 3)) (aCons (eC (.int 0)) aNil))) (aCons (eTup (aCons (eC (.int 2)) (aCons (eC (.int 0)) aNil))) aNil))) (aCons (eC (.int 1)) aNil))) (aCons (eMth (ga K "Over") "shows" (f_Over_shows K) (eMk (ga K "Over") i_Over (aCons (eTup (aCons (eC (.int 0)) (aCons (eC (.int 1)) aNil))) aNil)) (aCons (eLst (aCons (eTup (aCons (eC (.int 1)) (aCons (eC (.int 0)) aNil))) aNil)) (aCons (eVar 0) aNil))) aNil))))
    (sSeq (sApp 2 (eMth (ga K "Under") "shows" (f_Under_shows K) (eMk (ga K "Under") i_Under (aCons (eLst (aCons (eTup (aCons (eC (.int 0)) (aCons (eC (.int 3)) (aCons (eC (.int 1)) (aCons (eC (.int 0)) aNil))))) aNil)) aNil)) (aCons (eVar 0) (aCons (eLst (aCons (eTup (aCons (eC (.int 0)) (aCons (eC (.int 5)) aNil))) aNil)) aNil))))
    (fun env => (sRet (eB (bAnd (bV (eFn allD (aCons (eLC [3] (bNm 3) bYes (eCall (f__law_says K) (aCons (eVar 3) (aCons (eC (.bl false)) aNil))) (iL (eVar 1))) aNil))) (bV (eFn allD (aCons (eLC [3] (bNm 3) bYes (eCall (f__law_says K) (aCons (eVar 3) (aCons (eC (.bl true)) aNil))) (iL (eVar 2))) aNil)))))) (frz 2 env)))) (frz 2 env))) (frz 2 env))))))))))))))
def f__law_outright (K : PySem.W.Frag) : List D → Res D := run 4 (g__law_outright K)
theorem okF__law_outright {P : Program} {w : World} {K : PySem.W.Frag} {mg : Str → Option Value} {base : Heap} (T : Top K mg) {fd : FuncData} (F : L2.FunD K "_law_outright" "_law_outright" (defArgs s__law_outright) (defBody s__law_outright) (defScope s__law_outright) [] [] (ga K "_law_outright") fd) : FnOk P w K mg base (L2.CX P w) 4 (ga K "_law_outright") fd [] (spD K 0 (f__law_outright K)) := by
  refine fn_dt (N := N__law_outright) F sc__law_outright (fun cdv A outer s H E G P' hr gd => ?_)
  have nd := sc__law_outright.nd
  have tk := takes_of (X := cxOf (L2.CX P w) P w K mg base N__law_outright "_law_outright" (defScope s__law_outright) (ga K "_law_outright") cdv A outer s H E) rfl rfl rfl rfl
  have pow := passes_of (X := cxOf (L2.CX P w) P w K mg base N__law_outright "_law_outright" (defScope s__law_outright) (ga K "_law_outright") cdv A outer s H E) rfl
  exact (sd_cons (sd_set gd (i := 0) nd (pd_lst (pad_cons (pd_tup (pad_cons pd_int (pad_cons pd_int pad_nil)) (arge_cons (arge_cons arge_nil)).le) (pad_cons (pd_tup (pad_cons pd_int (pad_cons pd_int pad_nil)) (arge_cons (arge_cons arge_nil)).le) (pad_cons (pd_tup (pad_cons pd_int (pad_cons pd_int pad_nil)) (arge_cons (arge_cons arge_nil)).le) (pad_cons (pd_tup (pad_cons pd_int (pad_cons pd_int pad_nil)) (arge_cons (arge_cons arge_nil)).le) pad_nil)))) (arge_cons (arge_cons (arge_cons (arge_cons arge_nil)))).le))
      (sd_cons (sd_set gd (i := 1) nd (pd_lst (pad_cons (pd_meth (ok_Needless_shows T) (hr.mono (by decide)) T.c_Needless T.m_Needless_shows (pd_make (okI_Needless T) (hr.mono (by decide)) T.k_Needless (by rfl) T.g_Needless (pad_cons pd_int (pad_cons pd_int (pad_cons pd_int (pad_cons pd_int pad_nil)))) (arge_cons (arge_cons (arge_cons (arge_cons arge_nil))))) (pad_cons (pd_var 0) (pad_cons pd_int pad_nil)) (arge_cons (arge_cons arge_nil))) (pad_cons (pd_meth (ok_Needless_shows T) (hr.mono (by decide)) T.c_Needless T.m_Needless_shows (pd_make (okI_Needless T) (hr.mono (by decide)) T.k_Needless (by rfl) T.g_Needless (pad_cons pd_int (pad_cons pd_int (pad_cons pd_int (pad_cons pd_int pad_nil)))) (arge_cons (arge_cons (arge_cons (arge_cons arge_nil))))) (pad_cons (pd_var 0) (pad_cons pd_int pad_nil)) (arge_cons (arge_cons arge_nil))) pad_nil)) (arge_cons (arge_cons arge_nil)).le))
      (sd_cons (sd_set gd (i := 1) nd (pd_add (pd_var 1) (pd_lst (pad_cons (pd_meth (ok_Needless_shows T) (hr.mono (by decide)) T.c_Needless T.m_Needless_shows (pd_make (okI_Needless T) (hr.mono (by decide)) T.k_Needless (by rfl) T.g_Needless (pad_cons pd_int (pad_cons pd_int (pad_cons pd_int (pad_cons (pd_neg pd_int) pad_nil)))) (arge_cons (arge_cons (arge_cons (arge_cons arge_nil))))) (pad_cons (pd_var 0) (pad_cons pd_int pad_nil)) (arge_cons (arge_cons arge_nil))) (pad_cons (pd_meth (ok_Needless_shows T) (hr.mono (by decide)) T.c_Needless T.m_Needless_shows (pd_make (okI_Needless T) (hr.mono (by decide)) T.k_Needless (by rfl) T.g_Needless (pad_cons pd_int (pad_cons pd_int (pad_cons pd_int (pad_cons pd_int pad_nil)))) (arge_cons (arge_cons (arge_cons (arge_cons arge_nil))))) (pad_cons (pd_var 0) (pad_cons pd_int pad_nil)) (arge_cons (arge_cons arge_nil))) pad_nil)) (arge_cons (arge_cons arge_nil)).le)))
      (sd_cons (sd_set gd (i := 1) nd (pd_add (pd_var 1) (pd_lst (pad_cons (pd_meth (ok_Needless_shows T) (hr.mono (by decide)) T.c_Needless T.m_Needless_shows (pd_make (okI_Needless T) (hr.mono (by decide)) T.k_Needless (by rfl) T.g_Needless (pad_cons pd_int (pad_cons pd_int (pad_cons pd_int (pad_cons (pd_neg pd_int) pad_nil)))) (arge_cons (arge_cons (arge_cons (arge_cons arge_nil))))) (pad_cons (pd_lst (pad_cons (pd_tup (pad_cons pd_int (pad_cons pd_int pad_nil)) (arge_cons (arge_cons arge_nil)).le) (pad_cons (pd_tup (pad_cons pd_int (pad_cons pd_int pad_nil)) (arge_cons (arge_cons arge_nil)).le) (pad_cons (pd_tup (pad_cons pd_int (pad_cons pd_int pad_nil)) (arge_cons (arge_cons arge_nil)).le) pad_nil))) (arge_cons (arge_cons (arge_cons arge_nil))).le) (pad_cons pd_int pad_nil)) (arge_cons (arge_cons arge_nil))) (pad_cons (pd_meth (ok_Needless_shows T) (hr.mono (by decide)) T.c_Needless T.m_Needless_shows (pd_make (okI_Needless T) (hr.mono (by decide)) T.k_Needless (by rfl) T.g_Needless (pad_cons pd_int (pad_cons pd_int (pad_cons pd_int (pad_cons pd_int pad_nil)))) (arge_cons (arge_cons (arge_cons (arge_cons arge_nil))))) (pad_cons (pd_var 0) (pad_cons pd_int pad_nil)) (arge_cons (arge_cons arge_nil))) pad_nil)) (arge_cons (arge_cons arge_nil)).le)))
      (sd_cons (sd_set gd (i := 1) nd (pd_add (pd_var 1) (pd_lst (pad_cons (pd_meth (ok_Needless_shows T) (hr.mono (by decide)) T.c_Needless T.m_Needless_shows (pd_make (okI_Needless T) (hr.mono (by decide)) T.k_Needless (by rfl) T.g_Needless (pad_cons pd_int (pad_cons (pd_neg pd_int) (pad_cons pd_int (pad_cons pd_int pad_nil)))) (arge_cons (arge_cons (arge_cons (arge_cons arge_nil))))) (pad_cons (pd_var 0) (pad_cons pd_int pad_nil)) (arge_cons (arge_cons arge_nil))) (pad_cons (pd_meth (ok_Alone_shows T) (hr.mono (by decide)) T.c_Alone T.m_Alone_shows (pd_make (okI_Alone T) (hr.mono (by decide)) T.k_Alone (by rfl) T.g_Alone (pad_cons (pd_tup (pad_cons pd_int (pad_cons pd_int pad_nil)) (arge_cons (arge_cons arge_nil)).le) pad_nil) (arge_cons arge_nil)) (pad_cons (pd_var 0) (pad_cons pd_int pad_nil)) (arge_cons (arge_cons arge_nil))) pad_nil)) (arge_cons (arge_cons arge_nil)).le)))
      (sd_cons (sd_set gd (i := 1) nd (pd_add (pd_var 1) (pd_lst (pad_cons (pd_meth (ok_Ranges_shows T) (hr.mono (by decide)) T.c_Ranges T.m_Ranges_shows (pd_make (okI_Ranges T) (hr.mono (by decide)) T.k_Ranges (by rfl) T.g_Ranges (pad_cons (pd_lst (pad_cons (pd_tup (pad_cons pd_int (pad_cons pd_int pad_nil)) (arge_cons (arge_cons arge_nil)).le) (pad_cons (pd_tup (pad_cons pd_int (pad_cons pd_int pad_nil)) (arge_cons (arge_cons arge_nil)).le) pad_nil)) (arge_cons (arge_cons arge_nil)).le) (pad_cons (pd_lst (pad_cons pd_int (pad_cons pd_int pad_nil)) (arge_cons (arge_cons arge_nil)).le) pad_nil)) (arge_cons (arge_cons arge_nil))) (pad_cons (pd_var 0) pad_nil) (arge_cons arge_nil)) (pad_cons (pd_meth (ok_Ranges_shows T) (hr.mono (by decide)) T.c_Ranges T.m_Ranges_shows (pd_make (okI_Ranges T) (hr.mono (by decide)) T.k_Ranges (by rfl) T.g_Ranges (pad_cons (pd_lst (pad_cons (pd_tup (pad_cons pd_int (pad_cons pd_int pad_nil)) (arge_cons (arge_cons arge_nil)).le) (pad_cons (pd_tup (pad_cons pd_int (pad_cons pd_int pad_nil)) (arge_cons (arge_cons arge_nil)).le) (pad_cons (pd_tup (pad_cons pd_int (pad_cons pd_int pad_nil)) (arge_cons (arge_cons arge_nil)).le) pad_nil))) (arge_cons (arge_cons (arge_cons arge_nil))).le) (pad_cons (pd_lst (pad_cons pd_int (pad_cons pd_int (pad_cons pd_int pad_nil))) (arge_cons (arge_cons (arge_cons arge_nil))).le) pad_nil)) (arge_cons (arge_cons arge_nil))) (pad_cons (pd_var 0) pad_nil) (arge_cons arge_nil)) pad_nil)) (arge_cons (arge_cons arge_nil)).le)))
      (sd_cons (sd_set gd (i := 1) nd (pd_add (pd_var 1) (pd_lst (pad_cons (pd_meth (ok_Ranges_shows T) (hr.mono (by decide)) T.c_Ranges T.m_Ranges_shows (pd_make (okI_Ranges T) (hr.mono (by decide)) T.k_Ranges (by rfl) T.g_Ranges (pad_cons (pd_lst (pad_cons (pd_tup (pad_cons pd_int (pad_cons pd_int pad_nil)) (arge_cons (arge_cons arge_nil)).le) pad_nil) (arge_cons arge_nil).le) (pad_cons (pd_lst (pad_cons pd_int pad_nil) (arge_cons arge_nil).le) pad_nil)) (arge_cons (arge_cons arge_nil))) (pad_cons (pd_lst (pad_cons (pd_tup (pad_cons pd_int (pad_cons pd_int pad_nil)) (arge_cons (arge_cons arge_nil)).le) pad_nil) (arge_cons arge_nil).le) pad_nil) (arge_cons arge_nil)) (pad_cons (pd_meth (ok_Ranges_shows T) (hr.mono (by decide)) T.c_Ranges T.m_Ranges_shows (pd_make (okI_Ranges T) (hr.mono (by decide)) T.k_Ranges (by rfl) T.g_Ranges (pad_cons (pd_lst (pad_cons (pd_tup (pad_cons pd_int (pad_cons pd_int pad_nil)) (arge_cons (arge_cons arge_nil)).le) (pad_cons (pd_tup (pad_cons pd_int (pad_cons pd_int pad_nil)) (arge_cons (arge_cons arge_nil)).le) pad_nil)) (arge_cons (arge_cons arge_nil)).le) (pad_cons (pd_lst (pad_cons pd_int (pad_cons pd_int pad_nil)) (arge_cons (arge_cons arge_nil)).le) pad_nil)) (arge_cons (arge_cons arge_nil))) (pad_cons (pd_lst (pad_cons (pd_tup (pad_cons pd_int (pad_cons pd_int pad_nil)) (arge_cons (arge_cons arge_nil)).le) pad_nil) (arge_cons arge_nil).le) pad_nil) (arge_cons arge_nil)) pad_nil)) (arge_cons (arge_cons arge_nil)).le)))
      (sd_cons (sd_set gd (i := 1) nd (pd_add (pd_var 1) (pd_lst (pad_cons (pd_meth (ok_Over_shows T) (hr.mono (by decide)) T.c_Over T.m_Over_shows (pd_make (okI_Over T) (hr.mono (by decide)) T.k_Over (by rfl) T.g_Over (pad_cons (pd_tup (pad_cons pd_int (pad_cons pd_int pad_nil)) (arge_cons (arge_cons arge_nil)).le) pad_nil) (arge_cons arge_nil)) (pad_cons (pd_var 0) (pad_cons (pd_var 0) pad_nil)) (arge_cons (arge_cons arge_nil))) (pad_cons (pd_meth (ok_Under_shows T) (hr.mono (by decide)) T.c_Under T.m_Under_shows (pd_make (okI_Under T) (hr.mono (by decide)) T.k_Under (by rfl) T.g_Under (pad_cons (pd_lst pad_nil arge_nil.le) pad_nil) (arge_cons arge_nil)) (pad_cons (pd_var 0) (pad_cons (pd_var 0) pad_nil)) (arge_cons (arge_cons arge_nil))) (pad_cons (pd_meth (ok_Most_shows T) (hr.mono (by decide)) T.c_Most T.m_Most_shows (pd_make (okI_Most T) (hr.mono (by decide)) T.k_Most (by rfl) T.g_Most (pad_cons pd_int (pad_cons (pd_tup (pad_cons pd_int (pad_cons pd_int pad_nil)) (arge_cons (arge_cons arge_nil)).le) pad_nil)) (arge_cons (arge_cons arge_nil))) (pad_cons (pd_var 0) (pad_cons pd_int pad_nil)) (arge_cons (arge_cons arge_nil))) pad_nil))) (arge_cons (arge_cons (arge_cons arge_nil))).le)))
      (sd_cons (sd_set gd (i := 1) nd (pd_add (pd_var 1) (pd_lst (pad_cons (pd_meth (ok_Most_shows T) (hr.mono (by decide)) T.c_Most T.m_Most_shows (pd_make (okI_Most T) (hr.mono (by decide)) T.k_Most (by rfl) T.g_Most (pad_cons pd_int (pad_cons (pd_tup (pad_cons pd_int (pad_cons pd_int pad_nil)) (arge_cons (arge_cons arge_nil)).le) pad_nil)) (arge_cons (arge_cons arge_nil))) (pad_cons (pd_lst (pad_cons (pd_tup (pad_cons pd_int (pad_cons pd_int pad_nil)) (arge_cons (arge_cons arge_nil)).le) (pad_cons (pd_tup (pad_cons pd_int (pad_cons pd_int pad_nil)) (arge_cons (arge_cons arge_nil)).le) (pad_cons (pd_tup (pad_cons pd_int (pad_cons pd_int pad_nil)) (arge_cons (arge_cons arge_nil)).le) (pad_cons (pd_tup (pad_cons pd_int (pad_cons pd_int pad_nil)) (arge_cons (arge_cons arge_nil)).le) pad_nil)))) (arge_cons (arge_cons (arge_cons (arge_cons arge_nil)))).le) (pad_cons pd_int pad_nil)) (arge_cons (arge_cons arge_nil))) (pad_cons (pd_meth (ok_Most_shows T) (hr.mono (by decide)) T.c_Most T.m_Most_shows (pd_make (okI_Most T) (hr.mono (by decide)) T.k_Most (by rfl) T.g_Most (pad_cons pd_int (pad_cons (pd_tup (pad_cons pd_int (pad_cons pd_int pad_nil)) (arge_cons (arge_cons arge_nil)).le) pad_nil)) (arge_cons (arge_cons arge_nil))) (pad_cons (pd_lst (pad_cons (pd_tup (pad_cons pd_int (pad_cons pd_int pad_nil)) (arge_cons (arge_cons arge_nil)).le) pad_nil) (arge_cons arge_nil).le) (pad_cons pd_int pad_nil)) (arge_cons (arge_cons arge_nil))) pad_nil)) (arge_cons (arge_cons arge_nil)).le)))
      (sd_cons (sd_set gd (i := 1) nd (pd_add (pd_var 1) (pd_lst (pad_cons (pd_meth (ok_Endless_shows T) (hr.mono (by decide)) T.c_Endless T.m_Endless_shows (pd_make (okI_Endless T) (hr.mono (by decide)) T.k_Endless (by rfl) T.g_Endless (pad_cons (pd_neg pd_int) pad_nil) (arge_cons arge_nil)) (pad_cons (pd_var 0) (pad_cons pd_int pad_nil)) (arge_cons (arge_cons arge_nil))) (pad_cons (pd_meth (ok_Endless_shows T) (hr.mono (by decide)) T.c_Endless T.m_Endless_shows (pd_make (okI_Endless T) (hr.mono (by decide)) T.k_Endless (by rfl) T.g_Endless (pad_cons pd_int pad_nil) (arge_cons arge_nil)) (pad_cons (pd_var 0) (pad_cons pd_int pad_nil)) (arge_cons (arge_cons arge_nil))) pad_nil)) (arge_cons (arge_cons arge_nil)).le)))
      (sd_cons (sd_set gd (i := 1) nd (pd_add (pd_var 1) (pd_lst (pad_cons (pd_meth (ok_Endless_shows T) (hr.mono (by decide)) T.c_Endless T.m_Endless_shows (pd_make (okI_Endless T) (hr.mono (by decide)) T.k_Endless (by rfl) T.g_Endless (pad_cons pd_int pad_nil) (arge_cons arge_nil)) (pad_cons (pd_var 0) (pad_cons pd_int pad_nil)) (arge_cons (arge_cons arge_nil))) (pad_cons (pd_meth (ok_Dear_shows T) (hr.mono (by decide)) T.c_Dear T.m_Dear_shows (pd_make0b T.k_Dear (by rfl) T.g_Dear) (pad_cons (pd_var 0) (pad_cons pd_int pad_nil)) (arge_cons (arge_cons arge_nil))) pad_nil)) (arge_cons (arge_cons arge_nil)).le)))
      (sd_cons (sd_setO gd (i := 2) nd (pad_cons (pd_meth (ok_Needless_shows T) (hr.mono (by decide)) T.c_Needless T.m_Needless_shows (pd_make (okI_Needless T) (hr.mono (by decide)) T.k_Needless (by rfl) T.g_Needless (pad_cons pd_int (pad_cons pd_int (pad_cons pd_int (pad_cons pd_int pad_nil)))) (arge_cons (arge_cons (arge_cons (arge_cons arge_nil))))) (pad_cons (pd_var 0) (pad_cons pd_int pad_nil)) (arge_cons (arge_cons arge_nil))) (pad_cons (pd_meth (ok_Alone_shows T) (hr.mono (by decide)) T.c_Alone T.m_Alone_shows (pd_make (okI_Alone T) (hr.mono (by decide)) T.k_Alone (by rfl) T.g_Alone (pad_cons (pd_tup (pad_cons pd_int (pad_cons pd_int pad_nil)) (arge_cons (arge_cons arge_nil)).le) pad_nil) (arge_cons arge_nil)) (pad_cons (pd_var 0) (pad_cons pd_int pad_nil)) (arge_cons (arge_cons arge_nil))) (pad_cons (pd_meth (ok_Endless_shows T) (hr.mono (by decide)) T.c_Endless T.m_Endless_shows (pd_make (okI_Endless T) (hr.mono (by decide)) T.k_Endless (by rfl) T.g_Endless (pad_cons pd_int pad_nil) (arge_cons arge_nil)) (pad_cons (pd_var 0) (pad_cons pd_int pad_nil)) (arge_cons (arge_cons arge_nil))) pad_nil))) (arge_cons (arge_cons (arge_cons arge_nil))).le)
      (sd_frz gd 2 (sd_cons (sd_setCat gd (i := 2) nd (pd_var 2) (pd_lst (pad_cons (pd_meth (ok_Ranges_shows T) (hr.mono (by decide)) T.c_Ranges T.m_Ranges_shows (pd_make (okI_Ranges T) (hr.mono (by decide)) T.k_Ranges (by rfl) T.g_Ranges (pad_cons (pd_lst (pad_cons (pd_tup (pad_cons pd_int (pad_cons pd_int pad_nil)) (arge_cons (arge_cons arge_nil)).le) (pad_cons (pd_tup (pad_cons pd_int (pad_cons pd_int pad_nil)) (arge_cons (arge_cons arge_nil)).le) (pad_cons (pd_tup (pad_cons pd_int (pad_cons pd_int pad_nil)) (arge_cons (arge_cons arge_nil)).le) pad_nil))) (arge_cons (arge_cons (arge_cons arge_nil))).le) (pad_cons (pd_lst (pad_cons pd_int (pad_cons pd_int (pad_cons pd_int pad_nil))) (arge_cons (arge_cons (arge_cons arge_nil))).le) pad_nil)) (arge_cons (arge_cons arge_nil))) (pad_cons (pd_var 0) pad_nil) (arge_cons arge_nil)) (pad_cons (pd_meth (ok_Most_shows T) (hr.mono (by decide)) T.c_Most T.m_Most_shows (pd_make (okI_Most T) (hr.mono (by decide)) T.k_Most (by rfl) T.g_Most (pad_cons pd_int (pad_cons (pd_tup (pad_cons pd_int (pad_cons pd_int pad_nil)) (arge_cons (arge_cons arge_nil)).le) pad_nil)) (arge_cons (arge_cons arge_nil))) (pad_cons (pd_var 0) (pad_cons pd_int pad_nil)) (arge_cons (arge_cons arge_nil))) pad_nil)) (arge_cons (arge_cons arge_nil)).le))
      (sd_frz gd 2 (sd_cons (sd_setCat gd (i := 2) nd (pd_var 2) (pd_lst (pad_cons (pd_meth (ok_Dear_shows T) (hr.mono (by decide)) T.c_Dear T.m_Dear_shows (pd_make0b T.k_Dear (by rfl) T.g_Dear) (pad_cons (pd_lst (pad_cons (pd_tup (pad_cons pd_int (pad_cons pd_int pad_nil)) (arge_cons (arge_cons arge_nil)).le) (pad_cons (pd_tup (pad_cons pd_int (pad_cons pd_int pad_nil)) (arge_cons (arge_cons arge_nil)).le) pad_nil)) (arge_cons (arge_cons arge_nil)).le) (pad_cons pd_int pad_nil)) (arge_cons (arge_cons arge_nil))) (pad_cons (pd_meth (ok_Over_shows T) (hr.mono (by decide)) T.c_Over T.m_Over_shows (pd_make (okI_Over T) (hr.mono (by decide)) T.k_Over (by rfl) T.g_Over (pad_cons (pd_tup (pad_cons pd_int (pad_cons pd_int pad_nil)) (arge_cons (arge_cons arge_nil)).le) pad_nil) (arge_cons arge_nil)) (pad_cons (pd_lst (pad_cons (pd_tup (pad_cons pd_int (pad_cons pd_int pad_nil)) (arge_cons (arge_cons arge_nil)).le) pad_nil) (arge_cons arge_nil).le) (pad_cons (pd_var 0) pad_nil)) (arge_cons (arge_cons arge_nil))) pad_nil)) (arge_cons (arge_cons arge_nil)).le))
      (sd_cons (sd_app gd 2 (pd_meth (ok_Under_shows T) (hr.mono (by decide)) T.c_Under T.m_Under_shows (pd_make (okI_Under T) (hr.mono (by decide)) T.k_Under (by rfl) T.g_Under (pad_cons (pd_lst (pad_cons (pd_tup (pad_cons pd_int (pad_cons pd_int (pad_cons pd_int (pad_cons pd_int pad_nil)))) (arge_cons (arge_cons (arge_cons (arge_cons arge_nil)))).le) pad_nil) (arge_cons arge_nil).le) pad_nil) (arge_cons arge_nil)) (pad_cons (pd_var 0) (pad_cons (pd_lst (pad_cons (pd_tup (pad_cons pd_int (pad_cons pd_int pad_nil)) (arge_cons (arge_cons arge_nil)).le) pad_nil) (arge_cons arge_nil).le) pad_nil)) (arge_cons (arge_cons arge_nil))))
      (sd_frz gd 2 (sd_one (sd_ret gd (pd_and (pd_eB (pd_all (by rfl) (by rfl) T.b_all (pad_cons (pd_lc (own := [("_law_said", 3)]) (by rfl) nd (id_list (pd_var 1)) (blkOk_by (own := [("_law_said", 3)]) (N := N__law_outright) (sc := defScope s__law_outright) (by decide +kernel)) (by decide) (fun _ _ _ _ _ => (gd_name (i := 3) nd)) (fun _ _ _ _ _ => ptsd_nil) (fun _ _ _ _ _ => (pd_callH (ok__law_says T) (hr.mono (by decide)) takes0 (by rfl) T.g__law_says (pad_cons (pd_var 3) (pad_cons pd_bl pad_nil)) (arge_cons (arge_cons arge_nil))))) pad_nil))) (pd_one (pd_eB (pd_all (by rfl) (by rfl) T.b_all (pad_cons (pd_lc (own := [("_law_said", 3)]) (by rfl) nd (id_list (pd_var 2)) (blkOk_by (own := [("_law_said", 3)]) (N := N__law_outright) (sc := defScope s__law_outright) (by decide +kernel)) (by decide) (fun _ _ _ _ _ => (gd_name (i := 3) nd)) (fun _ _ _ _ _ => ptsd_nil) (fun _ _ _ _ _ => (pd_callH (ok__law_says T) (hr.mono (by decide)) takes0 (by rfl) T.g__law_says (pad_cons (pd_var 3) (pad_cons pd_bl pad_nil)) (arge_cons (arge_cons arge_nil))))) pad_nil)))))))))))))))))))))))))
theorem ok__law_outright {P : Program} {w : World} {K : PySem.W.Frag} {mg : Str → Option Value} {base : Heap} (T : Top K mg) : Held P w K mg base 4 (ga K "_law_outright") [] (f__law_outright K) := by
  obtain ⟨fd, F⟩ := T.d__law_outright
  exact ⟨fd, okF__law_outright T F, F.bindsN fun _ _ _ _ _ _ us hl => match us, hl with | [], _ => rfl, F.kp⟩
/-! law -/
abbrev N_law : List Str := ["_law_script", "_law_book_here", "_law_code", "_law_many", "_law_amounts", "_law_cell", "_law_at", "_law_place", "_law_money", "_law_row"]
theorem sc_law : FnScope N_law ["_law_script"] (defScope s_law) := ⟨rfl, rfl, rfl, by decide +kernel, rfl, by decide +kernel, by decide +kernel⟩
def g_law (K : PySem.W.Frag) : Env → Res Fl :=
    (sSeq (sIf (bNot (bV (eCall (f__law_outright K) aNil))) (sRet (eC (.bl false))) sNil)
    (sSeq (sPar 1 2 (aCons (eCall (f__law_book K) (aCons (eVar 0) aNil)) (aCons (eFn sumD (aCons (eVar 0) aNil)) aNil)))
    (sSeq (sAsg (eFn lenD (aCons (eVar 1) aNil)) (bNm 3))
    (sSeq (sAsg (eLC [5] (bNm 5) bYes (eCall (f__law_amount K) (aCons (eVar 5) aNil)) (iL (eOp addD (eVar 0) (eLst (aCons (eVar 2) aNil))))) (bNm 4))
    (sSeq (sFor (iL (eSlSt (eFn listED (aCons (eOp addD (eVar 0) (eLst (aCons (eVar 2) aNil))) aNil)) oNone oNone (oSome (eC (.int 4))))) (bTup (bsCons (bNm 6) (bsCons (bNm 5) bsNil))) (sSeq (sPar 7 8 (aCons (eOp modD (eOp divD (eVar 5) (eC (.int 3))) (eVar 3)) (aCons (eOp modD (eOp divD (eVar 5) (eC (.int 5))) (eC (.int 90))) aNil)))
    (sSeq (sAsg (eTup (aCons (eOp subD (eOp modD (eVar 5) (eOp addD (eVar 3) (eC (.int 2)))) (eC (.int 1))) (aCons (eOp modD (eOp divD (eVar 5) (eC (.int 7))) (eVar 3)) (aCons (eOp subD (eOp modD (eOp divD (eVar 5) (eC (.int 11))) (eC (.int 6))) (eC (.int 1))) (aCons (eOp modD (eOp divD (eVar 5) (eC (.int 13))) (eC (.int 6))) aNil))))) (bNm 9))
    (sSeq (sIf (bNot (bV (eCall (f__law_one_right K) (aCons (eVar 1) (aCons (eVar 7) (aCons (eOp ixD (eVar 4) (eVar 6)) (aCons (eVar 9) aNil))))))) (sRet (eC (.bl false))) sNil)
    (sSeq (sIf (bNot (bV (eCall (f__law_money_right K) (aCons (eVar 1) (aCons (eCall (f__law_cost K) (aCons (eOp ixD (eVar 1) (eVar 7)) (aCons (eTup (aCons (eVar 6) (aCons (eC (.int 1)) aNil))) aNil))) (aCons (eVar 7) (aCons (eTup (aCons (eVar 6) (aCons (eC (.int 1)) aNil))) aNil))))))) (sRet (eC (.bl false))) sNil)
    (sIf (bNot (bV (eCall (f__law_money_right K) (aCons (eVar 1) (aCons (eVar 8) (aCons (eOp subD (eOp modD (eVar 5) (eOp addD (eVar 3) (eC (.int 2)))) (eC (.int 1))) (aCons (eOp ixD (eVar 4) (eVar 6)) aNil))))))) (sRet (eC (.bl false))) sNil))))))
    (sSeq (sIf (bNot (bV (eCall (f__law_ranges_right K) (aCons (eVar 1) (aCons (eVar 0) (aCons (eOp ixD (eVar 4) (eC (.int 0))) aNil)))))) (sRet (eC (.bl false))) sNil)
    (sSeq (sIf (bNot (bV (eCall (f__law_books_right K) (aCons (eVar 1) (aCons (eSlSt (eVar 1) oNone oNone (oSome (eC (.int 2)))) (aCons (eVar 0) (aCons (eOp ixD (eVar 4) (eUn negD (eC (.int 1)))) aNil))))))) (sRet (eC (.bl false))) sNil)
    (sRet (eCall (f__law_books_right K) (aCons (eOp addD (eSlSt (eVar 1) (oSome (eC (.int 1))) oNone (oSome (eC (.int 2)))) (eSl (eVar 1) oNone (oSome (eC (.int 1))))) (aCons (eVar 1) (aCons (eVar 0) (aCons (eTup (aCons (eC (.int 3)) (aCons (eC (.int 2)) aNil))) aNil)))))))))))))
def f_law (K : PySem.W.Frag) : List D → Res D := run0 10 (g_law K)
theorem okF_law {P : Program} {w : World} {K : PySem.W.Frag} {mg : Str → Option Value} {base : Heap} (T : Top K mg) {fd : FuncData} (F : L2.FunD K "law" "law" (defArgs s_law) (defBody s_law) (defScope s_law) [] [] (ga K "law") fd) : FnOk P w K mg base CX0 6 (ga K "law") fd ["_law_script"] (spD K 1 (f_law K)) := by
  refine fn_dt0 (N := N_law) F sc_law (fun cdv A outer s H E G P' hr gd => ?_)
  have nd := sc_law.nd
  have tk := takes0 (X := (cxOf CX0 P w K mg base N_law "law" (defScope s_law) (ga K "law") cdv A outer s H E).nox)
  have pow := PassesOwn.never (M := model P w) (A := (cxOf CX0 P w K mg base N_law "law" (defScope s_law) (ga K "law") cdv A outer s H E).A) (env := (cxOf CX0 P w K mg base N_law "law" (defScope s_law) (ga K "law") cdv A outer s H E).env)
  exact (sd_cons (sd_if gd (ptd_not (pt_v (pd_callH0 (ok__law_outright T) (hr.mono (by decide)) tk (by rfl) T.g__law_outright))) (sd_one (sd_ret gd pd_bl)) sd_nil)
      (sd_cons (sd_par gd (i := 1) (j := 2) rfl nd (pad_cons (pd_callH (ok__law_book T) (hr.mono (by decide)) tk (by rfl) T.g__law_book (pad_cons (pd_var 0) pad_nil) (arge_cons arge_nil)) (pad_cons (pd_sum (by rfl) (by rfl) T.b_sum (pad_cons (pd_var 0) pad_nil)) pad_nil)))
      (sd_cons (sd_set gd (i := 3) nd (pd_len (by rfl) T.b_len (pad_cons (pd_var 1) pad_nil)))
      (sd_cons (sd_setLc gd (i := 4) (own := [("_law_cell", 5)]) (by rfl) nd (id_list (pd_add (pd_var 0) (pd_lst (pad_cons (pd_var 2) pad_nil) (arge_cons arge_nil).le))) (blkOk_by (own := [("_law_cell", 5)]) (N := N_law) (sc := defScope s_law) (by decide +kernel)) (by decide) (fun _ _ _ _ _ => (gd_name (i := 5) nd)) (fun _ _ _ _ _ => ptsd_nil) (fun _ _ _ _ _ => (pd_callH (ok__law_amount T) (hr.mono (by decide)) takes0 (by rfl) T.g__law_amount (pad_cons (pd_var 5) pad_nil) (arge_cons arge_nil))))
      (sd_cons (sd_for gd pow rfl (id_list (pd_slSt (pd_listE (by rfl) (by rfl) T.b_list (by rfl) T.b_enumerate (pad_cons (pd_add (pd_var 0) (pd_lst (pad_cons (pd_var 2) pad_nil) (arge_cons arge_nil).le)) pad_nil)) po_n po_n (po_s pd_int))) (gd_tup rfl (gds_cons (gd_name (i := 6) nd) (gds_cons (gd_name (i := 5) nd) gds_nil)) (btn_cons (btn_cons btn_nil))) (fun G gd => (sd_cons (sd_par gd (i := 7) (j := 8) rfl nd (pad_cons (pd_mod (pd_div (pd_var 5) pd_int) (pd_var 3)) (pad_cons (pd_mod (pd_div (pd_var 5) pd_int) pd_int) pad_nil)))
      (sd_cons (sd_set gd (i := 9) nd (pd_tup (pad_cons (pd_sub (pd_mod (pd_var 5) (pd_add (pd_var 3) pd_int)) pd_int) (pad_cons (pd_mod (pd_div (pd_var 5) pd_int) (pd_var 3)) (pad_cons (pd_sub (pd_mod (pd_div (pd_var 5) pd_int) pd_int) pd_int) (pad_cons (pd_mod (pd_div (pd_var 5) pd_int) pd_int) pad_nil)))) (arge_cons (arge_cons (arge_cons (arge_cons arge_nil)))).le))
      (sd_cons (sd_if gd (ptd_not (pt_v (pd_callH (ok__law_one_right T) (hr.mono (by decide)) tk (by rfl) T.g__law_one_right (pad_cons (pd_var 1) (pad_cons (pd_var 7) (pad_cons (pd_sub' (pd_var 4) (pd_var 6)) (pad_cons (pd_var 9) pad_nil)))) (arge_cons (arge_cons (arge_cons (arge_cons arge_nil))))))) (sd_one (sd_ret gd pd_bl)) sd_nil)
      (sd_cons (sd_if gd (ptd_not (pt_v (pd_callH (ok__law_money_right T) (hr.mono (by decide)) tk (by rfl) T.g__law_money_right (pad_cons (pd_var 1) (pad_cons (pd_callH (ok__law_cost T) (hr.mono (by decide)) tk (by rfl) T.g__law_cost (pad_cons (pd_sub' (pd_var 1) (pd_var 7)) (pad_cons (pd_tup (pad_cons (pd_var 6) (pad_cons pd_int pad_nil)) (arge_cons (arge_cons arge_nil)).le) pad_nil)) (arge_cons (arge_cons arge_nil))) (pad_cons (pd_var 7) (pad_cons (pd_tup (pad_cons (pd_var 6) (pad_cons pd_int pad_nil)) (arge_cons (arge_cons arge_nil)).le) pad_nil)))) (arge_cons (arge_cons (arge_cons (arge_cons arge_nil))))))) (sd_one (sd_ret gd pd_bl)) sd_nil)
      (sd_one (sd_if gd (ptd_not (pt_v (pd_callH (ok__law_money_right T) (hr.mono (by decide)) tk (by rfl) T.g__law_money_right (pad_cons (pd_var 1) (pad_cons (pd_var 8) (pad_cons (pd_sub (pd_mod (pd_var 5) (pd_add (pd_var 3) pd_int)) pd_int) (pad_cons (pd_sub' (pd_var 4) (pd_var 6)) pad_nil)))) (arge_cons (arge_cons (arge_cons (arge_cons arge_nil))))))) (sd_one (sd_ret gd pd_bl)) sd_nil))))))))
      (sd_cons (sd_if gd (ptd_not (pt_v (pd_callH (ok__law_ranges_right T) (hr.mono (by decide)) tk (by rfl) T.g__law_ranges_right (pad_cons (pd_var 1) (pad_cons (pd_var 0) (pad_cons (pd_sub' (pd_var 4) pd_int) pad_nil))) (arge_cons (arge_cons (arge_cons arge_nil)))))) (sd_one (sd_ret gd pd_bl)) sd_nil)
      (sd_cons (sd_if gd (ptd_not (pt_v (pd_callH (ok__law_books_right T) (hr.mono (by decide)) tk (by rfl) T.g__law_books_right (pad_cons (pd_var 1) (pad_cons (pd_slSt (pd_var 1) po_n po_n (po_s pd_int)) (pad_cons (pd_var 0) (pad_cons (pd_sub' (pd_var 4) (pd_neg pd_int)) pad_nil)))) (arge_cons (arge_cons (arge_cons (arge_cons arge_nil))))))) (sd_one (sd_ret gd pd_bl)) sd_nil)
      (sd_one (sd_ret gd (pd_callH (ok__law_books_right T) (hr.mono (by decide)) tk (by rfl) T.g__law_books_right (pad_cons (pd_add (pd_slSt (pd_var 1) (po_s pd_int) po_n (po_s pd_int)) (pd_sl (pd_var 1) po_n (po_s pd_int))) (pad_cons (pd_var 1) (pad_cons (pd_var 0) (pad_cons (pd_tup (pad_cons pd_int (pad_cons pd_int pad_nil)) (arge_cons (arge_cons arge_nil)).le) pad_nil)))) (arge_cons (arge_cons (arge_cons (arge_cons arge_nil))))))))))))))
theorem i_Alone_eq (j0 : Tr) : i_Alone [(tr j0)] = (some [("amount", (tr j0))] : Option Fs) := rfl
theorem fld_Alone_amount {K : PySem.W.Frag} (d0 : D) : fldD (at_amount K) "amount" (.ins (ga K "Alone") [("amount", d0)]) = some d0 := fld_of (by simp) rfl
theorem i_Needless_eq (j0 : Int) (j1 : Int) (j2 : Int) (j3 : Int) : i_Needless [(.int j0), (.int j1), (.int j2), (.int j3)] = (some [("one", (.int j0)), ("other", (.int j1)), ("first", (.int j2)), ("second", (.int j3))] : Option Fs) := rfl
theorem fld_Needless_one {K : PySem.W.Frag} (d0 d1 d2 d3 : D) : fldD (at_one K) "one" (.ins (ga K "Needless") [("one", d0), ("other", d1), ("first", d2), ("second", d3)]) = some d0 := fld_of (by simp) rfl
theorem fld_Needless_other {K : PySem.W.Frag} (d0 d1 d2 d3 : D) : fldD (at_other K) "other" (.ins (ga K "Needless") [("one", d0), ("other", d1), ("first", d2), ("second", d3)]) = some d1 := fld_of (by simp) rfl
theorem fld_Needless_first {K : PySem.W.Frag} (d0 d1 d2 d3 : D) : fldD (at_first K) "first" (.ins (ga K "Needless") [("one", d0), ("other", d1), ("first", d2), ("second", d3)]) = some d2 := fld_of (by simp) rfl
theorem fld_Needless_second {K : PySem.W.Frag} (d0 d1 d2 d3 : D) : fldD (at_second K) "second" (.ins (ga K "Needless") [("one", d0), ("other", d1), ("first", d2), ("second", d3)]) = some d3 := fld_of (by simp) rfl
theorem i_Ranges_eq (d0 : List D) (d1 : List D) : i_Ranges [(.lst d0), (.lst d1)] = (some [("begins", (.lst d0)), ("places", (.lst d1))] : Option Fs) := rfl
theorem fld_Ranges_begins {K : PySem.W.Frag} (d0 d1 : List D) : fldD (at_begins K) "begins" (.ins (ga K "Ranges") [("begins", (.lst d0)), ("places", (.lst d1))]) = some (.lst d0) := fld_of (by simp) rfl
theorem fld_Ranges_places {K : PySem.W.Frag} (d0 d1 : List D) : fldD (at_places K) "places" (.ins (ga K "Ranges") [("begins", (.lst d0)), ("places", (.lst d1))]) = some (.lst d1) := fld_of (by simp) rfl
theorem i_Under_eq (d0 : List D) : i_Under [(.lst d0)] = (some [("rows", (.lst d0))] : Option Fs) := rfl
theorem fld_Under_rows {K : PySem.W.Frag} (d0 : List D) : fldD (at_rows K) "rows" (.ins (ga K "Under") [("rows", (.lst d0))]) = some (.lst d0) := fld_of (by simp) rfl
theorem i_Over_eq (j0 : Tr) : i_Over [(tr j0)] = (some [("amount", (tr j0))] : Option Fs) := rfl
theorem fld_Over_amount {K : PySem.W.Frag} (d0 : D) : fldD (at_amount K) "amount" (.ins (ga K "Over") [("amount", d0)]) = some d0 := fld_of (by simp) rfl
theorem i_Most_eq (j0 : Int) (j1 : Tr) : i_Most [(.int j0), (tr j1)] = (some [("place", (.int j0)), ("amount", (tr j1))] : Option Fs) := rfl
theorem fld_Most_place {K : PySem.W.Frag} (d0 d1 : D) : fldD (at_place K) "place" (.ins (ga K "Most") [("place", d0), ("amount", d1)]) = some d0 := fld_of (by simp) rfl
theorem fld_Most_amount {K : PySem.W.Frag} (d0 d1 : D) : fldD (at_amount K) "amount" (.ins (ga K "Most") [("place", d0), ("amount", d1)]) = some d1 := fld_of (by simp) rfl
theorem i_Endless_eq (j0 : Int) : i_Endless [(.int j0)] = (some [("place", (.int j0))] : Option Fs) := rfl
theorem fld_Endless_place {K : PySem.W.Frag} (d0 : D) : fldD (at_place K) "place" (.ins (ga K "Endless") [("place", d0)]) = some d0 := fld_of (by simp) rfl
def dd_is_number : DefD := ⟨("is_number", none), "is_number", "is_number", defArgs s_is_number, defBody s_is_number, defScope s_is_number, [], []⟩
def dd_is_pair : DefD := ⟨("is_pair", none), "is_pair", "is_pair", defArgs s_is_pair, defBody s_is_pair, defScope s_is_pair, [], []⟩
def dd_common : DefD := ⟨("common", none), "common", "common", defArgs s_common, defBody s_common, defScope s_common, [], []⟩
def dd_lowest : DefD := ⟨("lowest", none), "lowest", "lowest", defArgs s_lowest, defBody s_lowest, defScope s_lowest, [], []⟩
def dd_check_book : DefD := ⟨("check_book", none), "check_book", "check_book", defArgs s_check_book, defBody s_check_book, defScope s_check_book, [], []⟩
def dd_cost_of : DefD := ⟨("cost_of", none), "cost_of", "cost_of", defArgs s_cost_of, defBody s_cost_of, defScope s_cost_of, [], []⟩
def dd_is_mixture : DefD := ⟨("is_mixture", none), "is_mixture", "is_mixture", defArgs s_is_mixture, defBody s_is_mixture, defScope s_is_mixture, [], []⟩
def dd_Alone___init__ : DefD := ⟨("Alone", some "__init__"), "__init__", "Alone.__init__", defArgs s_Alone___init__, defBody s_Alone___init__, defScope s_Alone___init__, [], []⟩
def dd_Alone_shows : DefD := ⟨("Alone", some "shows"), "shows", "Alone.shows", defArgs s_Alone_shows, defBody s_Alone_shows, defScope s_Alone_shows, [], []⟩
def dd_Needless___init__ : DefD := ⟨("Needless", some "__init__"), "__init__", "Needless.__init__", defArgs s_Needless___init__, defBody s_Needless___init__, defScope s_Needless___init__, [], []⟩
def dd_Needless_shows : DefD := ⟨("Needless", some "shows"), "shows", "Needless.shows", defArgs s_Needless_shows, defBody s_Needless_shows, defScope s_Needless_shows, [], []⟩
def dd_Ranges___init__ : DefD := ⟨("Ranges", some "__init__"), "__init__", "Ranges.__init__", defArgs s_Ranges___init__, defBody s_Ranges___init__, defScope s_Ranges___init__, [], []⟩
def dd_Ranges_shows : DefD := ⟨("Ranges", some "shows"), "shows", "Ranges.shows", defArgs s_Ranges_shows, defBody s_Ranges_shows, defScope s_Ranges_shows, [], []⟩
def dd_Ranges_is_least : DefD := ⟨("Ranges", some "is_least"), "is_least", "Ranges.is_least", defArgs s_Ranges_is_least, defBody s_Ranges_is_least, defScope s_Ranges_is_least, [], []⟩
def dd_Under___init__ : DefD := ⟨("Under", some "__init__"), "__init__", "Under.__init__", defArgs s_Under___init__, defBody s_Under___init__, defScope s_Under___init__, [], []⟩
def dd_Under_shows : DefD := ⟨("Under", some "shows"), "shows", "Under.shows", defArgs s_Under_shows, defBody s_Under_shows, defScope s_Under_shows, [], []⟩
def dd_Over___init__ : DefD := ⟨("Over", some "__init__"), "__init__", "Over.__init__", defArgs s_Over___init__, defBody s_Over___init__, defScope s_Over___init__, [], []⟩
def dd_Over_shows : DefD := ⟨("Over", some "shows"), "shows", "Over.shows", defArgs s_Over_shows, defBody s_Over_shows, defScope s_Over_shows, [], []⟩
def dd_Most___init__ : DefD := ⟨("Most", some "__init__"), "__init__", "Most.__init__", defArgs s_Most___init__, defBody s_Most___init__, defScope s_Most___init__, [], []⟩
def dd_Most_shows : DefD := ⟨("Most", some "shows"), "shows", "Most.shows", defArgs s_Most_shows, defBody s_Most_shows, defScope s_Most_shows, [], []⟩
def dd_Endless___init__ : DefD := ⟨("Endless", some "__init__"), "__init__", "Endless.__init__", defArgs s_Endless___init__, defBody s_Endless___init__, defScope s_Endless___init__, [], []⟩
def dd_Endless_shows : DefD := ⟨("Endless", some "shows"), "shows", "Endless.shows", defArgs s_Endless_shows, defBody s_Endless_shows, defScope s_Endless_shows, [], []⟩
def dd_Dear_shows : DefD := ⟨("Dear", some "shows"), "shows", "Dear.shows", defArgs s_Dear_shows, defBody s_Dear_shows, defScope s_Dear_shows, [], []⟩
def dd_next_of : DefD := ⟨("next_of", none), "next_of", "next_of", defArgs s_next_of, defBody s_next_of, defScope s_next_of, [], []⟩
def dd_ranges_of : DefD := ⟨("ranges_of", none), "ranges_of", "ranges_of", defArgs s_ranges_of, defBody s_ranges_of, defScope s_ranges_of, [], []⟩
def dd_against : DefD := ⟨("against", none), "against", "against", defArgs s_against, defBody s_against, defScope s_against, [], []⟩
def dd_ranges : DefD := ⟨("ranges", none), "ranges", "ranges", defArgs s_ranges, defBody s_ranges, defScope s_ranges, [], []⟩
def dd_under : DefD := ⟨("under", none), "under", "under", defArgs s_under, defBody s_under, defScope s_under, [], []⟩
def dd__law_book : DefD := ⟨("_law_book", none), "_law_book", "_law_book", defArgs s__law_book, defBody s__law_book, defScope s__law_book, [], []⟩
def dd__law_lowest : DefD := ⟨("_law_lowest", none), "_law_lowest", "_law_lowest", defArgs s__law_lowest, defBody s__law_lowest, defScope s__law_lowest, [], []⟩
def dd__law_amount : DefD := ⟨("_law_amount", none), "_law_amount", "_law_amount", defArgs s__law_amount, defBody s__law_amount, defScope s__law_amount, [], []⟩
def dd__law_cost : DefD := ⟨("_law_cost", none), "_law_cost", "_law_cost", defArgs s__law_cost, defBody s__law_cost, defScope s__law_cost, [], []⟩
def dd__law_mixture : DefD := ⟨("_law_mixture", none), "_law_mixture", "_law_mixture", defArgs s__law_mixture, defBody s__law_mixture, defScope s__law_mixture, [], []⟩
def dd__law_alone : DefD := ⟨("_law_alone", none), "_law_alone", "_law_alone", defArgs s__law_alone, defBody s__law_alone, defScope s__law_alone, [], []⟩
def dd__law_needless : DefD := ⟨("_law_needless", none), "_law_needless", "_law_needless", defArgs s__law_needless, defBody s__law_needless, defScope s__law_needless, [], []⟩
def dd__law_ranges : DefD := ⟨("_law_ranges", none), "_law_ranges", "_law_ranges", defArgs s__law_ranges, defBody s__law_ranges, defScope s__law_ranges, [], []⟩
def dd__law_under : DefD := ⟨("_law_under", none), "_law_under", "_law_under", defArgs s__law_under, defBody s__law_under, defScope s__law_under, [], []⟩
def dd__law_over : DefD := ⟨("_law_over", none), "_law_over", "_law_over", defArgs s__law_over, defBody s__law_over, defScope s__law_over, [], []⟩
def dd__law_most : DefD := ⟨("_law_most", none), "_law_most", "_law_most", defArgs s__law_most, defBody s__law_most, defScope s__law_most, [], []⟩
def dd__law_endless : DefD := ⟨("_law_endless", none), "_law_endless", "_law_endless", defArgs s__law_endless, defBody s__law_endless, defScope s__law_endless, [], []⟩
def dd__law_says : DefD := ⟨("_law_says", none), "_law_says", "_law_says", defArgs s__law_says, defBody s__law_says, defScope s__law_says, [], []⟩
def dd__law_bent : DefD := ⟨("_law_bent", none), "_law_bent", "_law_bent", defArgs s__law_bent, defBody s__law_bent, defScope s__law_bent, [], []⟩
def dd__law_one_right : DefD := ⟨("_law_one_right", none), "_law_one_right", "_law_one_right", defArgs s__law_one_right, defBody s__law_one_right, defScope s__law_one_right, [], []⟩
def dd__law_ranges_right : DefD := ⟨("_law_ranges_right", none), "_law_ranges_right", "_law_ranges_right", defArgs s__law_ranges_right, defBody s__law_ranges_right, defScope s__law_ranges_right, [], []⟩
def dd__law_books_right : DefD := ⟨("_law_books_right", none), "_law_books_right", "_law_books_right", defArgs s__law_books_right, defBody s__law_books_right, defScope s__law_books_right, [], []⟩
def dd__law_money_right : DefD := ⟨("_law_money_right", none), "_law_money_right", "_law_money_right", defArgs s__law_money_right, defBody s__law_money_right, defScope s__law_money_right, [], []⟩
def dd__law_outright : DefD := ⟨("_law_outright", none), "_law_outright", "_law_outright", defArgs s__law_outright, defBody s__law_outright, defScope s__law_outright, [], []⟩
def dd_law : DefD := ⟨("law", none), "law", "law", defArgs s_law, defBody s_law, defScope s_law, [], []⟩
def facts : List (PySem.W.Frag → Bool) := ([fun K => (Fa.glo "is_number").ok K, fun K => (Fa.glo "is_pair").ok K, fun K => (Fa.glo "common").ok K, fun K => (Fa.glo "lowest").ok K, fun K => (Fa.glo "check_book").ok K, fun K => (Fa.glo "cost_of").ok K, fun K => (Fa.glo "is_mixture").ok K, fun K => (Fa.glo "next_of").ok K, fun K => (Fa.glo "ranges_of").ok K, fun K => (Fa.glo "against").ok K, fun K => (Fa.glo "ranges").ok K, fun K => (Fa.glo "under").ok K, fun K => (Fa.glo "_law_book").ok K, fun K => (Fa.glo "_law_lowest").ok K, fun K => (Fa.glo "_law_amount").ok K, fun K => (Fa.glo "_law_cost").ok K, fun K => (Fa.glo "_law_mixture").ok K, fun K => (Fa.glo "_law_alone").ok K, fun K => (Fa.glo "_law_needless").ok K, fun K => (Fa.glo "_law_ranges").ok K, fun K => (Fa.glo "_law_under").ok K, fun K => (Fa.glo "_law_over").ok K, fun K => (Fa.glo "_law_most").ok K, fun K => (Fa.glo "_law_endless").ok K, fun K => (Fa.glo "_law_says").ok K, fun K => (Fa.glo "_law_bent").ok K, fun K => (Fa.glo "_law_one_right").ok K, fun K => (Fa.glo "_law_ranges_right").ok K, fun K => (Fa.glo "_law_books_right").ok K, fun K => (Fa.glo "_law_money_right").ok K] : List (PySem.W.Frag → Bool)) ++ ([fun K => (Fa.glo "_law_outright").ok K, fun K => (Fa.glo "law").ok K, fun K => (Fa.glo "TariffError").ok K, fun K => (Fa.glo "BadBook").ok K, fun K => (Fa.glo "Answer").ok K, fun K => (Fa.glo "Alone").ok K, fun K => (Fa.glo "Needless").ok K, fun K => (Fa.glo "Ranges").ok K, fun K => (Fa.glo "Under").ok K, fun K => (Fa.glo "Over").ok K, fun K => (Fa.glo "Most").ok K, fun K => (Fa.glo "Endless").ok K, fun K => (Fa.glo "Dear").ok K, fun K => (Fa.glo "NONE").ok K, fun K => tupB K "NONE" [.int 0, .int 1], fun K => (Fa.free "all").ok K, fun K => (Fa.free "any").ok K, fun K => (Fa.free "bool").ok K, fun K => (Fa.free "enumerate").ok K, fun K => (Fa.free "int").ok K, fun K => (Fa.free "isinstance").ok K, fun K => (Fa.free "len").ok K, fun K => (Fa.free "list").ok K, fun K => (Fa.free "max").ok K, fun K => (Fa.free "min").ok K, fun K => (Fa.free "range").ok K, fun K => (Fa.free "sum").ok K, fun K => (Fa.free "tuple").ok K, fun K => (Fa.free "zip").ok K, cisB ["Answer", "Alone", "Needless", "Ranges", "Under", "Over", "Most", "Endless", "Dear"]] : List (PySem.W.Frag → Bool)) ++ ([atB ["Alone", "Over", "Most"] "amount", atB ["Ranges"] "begins", atB ["Needless"] "first", atB ["Needless"] "one", atB ["Needless"] "other", atB ["Most", "Endless"] "place", atB ["Ranges"] "places", atB ["Under"] "rows", atB ["Needless"] "second", fun K => (Fa.cls "Alone").ok K, fun K => (Fa.cls "Dear").ok K, fun K => (Fa.cls "Endless").ok K, fun K => (Fa.cls "Most").ok K, fun K => (Fa.cls "Needless").ok K, fun K => (Fa.cls "Over").ok K, fun K => (Fa.cls "Ranges").ok K, fun K => (Fa.cls "Under").ok K, fun K => (Fa.mkr "Alone").ok K, fun K => (Fa.mkr "Endless").ok K, fun K => (Fa.mkr "Most").ok K, fun K => (Fa.mkr "Needless").ok K, fun K => (Fa.mkr "Over").ok K, fun K => (Fa.mkr "Ranges").ok K, fun K => (Fa.mkr "Under").ok K, mk0B "Dear", fun K => (Fa.meth "Alone" "shows").ok K, fun K => (Fa.meth "Dear" "shows").ok K, fun K => (Fa.meth "Endless" "shows").ok K, fun K => (Fa.meth "Most" "shows").ok K, fun K => (Fa.meth "Needless" "shows").ok K] : List (PySem.W.Frag → Bool)) ++ ([fun K => (Fa.meth "Over" "shows").ok K, fun K => (Fa.meth "Ranges" "is_least").ok K, fun K => (Fa.meth "Ranges" "shows").ok K, fun K => (Fa.meth "Under" "shows").ok K, kitB "Under" "Under" true, kitB "Over" "Under" false] : List (PySem.W.Frag → Bool))
def fnl : List (DefD) := ([dd_is_number, dd_is_pair, dd_common, dd_lowest, dd_check_book, dd_cost_of, dd_is_mixture, dd_Alone___init__, dd_Alone_shows, dd_Needless___init__, dd_Needless_shows, dd_Ranges___init__, dd_Ranges_shows, dd_Ranges_is_least, dd_Under___init__, dd_Under_shows, dd_Over___init__, dd_Over_shows, dd_Most___init__, dd_Most_shows, dd_Endless___init__, dd_Endless_shows, dd_Dear_shows, dd_next_of, dd_ranges_of, dd_against, dd_ranges, dd_under, dd__law_book, dd__law_lowest] : List (DefD)) ++ ([dd__law_amount, dd__law_cost, dd__law_mixture, dd__law_alone, dd__law_needless, dd__law_ranges, dd__law_under, dd__law_over, dd__law_most, dd__law_endless, dd__law_says, dd__law_bent, dd__law_one_right, dd__law_ranges_right, dd__law_books_right, dd__law_money_right, dd__law_outright, dd_law] : List (DefD))
theorem top_of {K : PySem.W.Frag} {h : Heap} {mg : Str → Option Value} (X : K.In h) (G : h.Ns mainGlobals mg) (c : SaysX facts fnl K) : Top K mg where
  g_is_number := glo_ok X G (c.fact 0)
  g_is_pair := glo_ok X G (c.fact 1)
  g_common := glo_ok X G (c.fact 2)
  g_lowest := glo_ok X G (c.fact 3)
  g_check_book := glo_ok X G (c.fact 4)
  g_cost_of := glo_ok X G (c.fact 5)
  g_is_mixture := glo_ok X G (c.fact 6)
  g_next_of := glo_ok X G (c.fact 7)
  g_ranges_of := glo_ok X G (c.fact 8)
  g_against := glo_ok X G (c.fact 9)
  g_ranges := glo_ok X G (c.fact 10)
  g_under := glo_ok X G (c.fact 11)
  g__law_book := glo_ok X G (c.fact 12)
  g__law_lowest := glo_ok X G (c.fact 13)
  g__law_amount := glo_ok X G (c.fact 14)
  g__law_cost := glo_ok X G (c.fact 15)
  g__law_mixture := glo_ok X G (c.fact 16)
  g__law_alone := glo_ok X G (c.fact 17)
  g__law_needless := glo_ok X G (c.fact 18)
  g__law_ranges := glo_ok X G (c.fact 19)
  g__law_under := glo_ok X G (c.fact 20)
  g__law_over := glo_ok X G (c.fact 21)
  g__law_most := glo_ok X G (c.fact 22)
  g__law_endless := glo_ok X G (c.fact 23)
  g__law_says := glo_ok X G (c.fact 24)
  g__law_bent := glo_ok X G (c.fact 25)
  g__law_one_right := glo_ok X G (c.fact 26)
  g__law_ranges_right := glo_ok X G (c.fact 27)
  g__law_books_right := glo_ok X G (c.fact 28)
  g__law_money_right := glo_ok X G (c.fact 29)
  g__law_outright := glo_ok X G (c.fact 30)
  g_law := glo_ok X G (c.fact 31)
  g_TariffError := glo_ok X G (c.fact 32)
  g_BadBook := glo_ok X G (c.fact 33)
  g_Answer := glo_ok X G (c.fact 34)
  g_Alone := glo_ok X G (c.fact 35)
  g_Needless := glo_ok X G (c.fact 36)
  g_Ranges := glo_ok X G (c.fact 37)
  g_Under := glo_ok X G (c.fact 38)
  g_Over := glo_ok X G (c.fact 39)
  g_Most := glo_ok X G (c.fact 40)
  g_Endless := glo_ok X G (c.fact 41)
  g_Dear := glo_ok X G (c.fact 42)
  g_NONE := glo_ok X G (c.fact 43)
  k_NONE := fun H => .tup (tupB_ok (c.fact 44) H) (.cons (.int 0) (.cons (.int 1) .nil))
  b_all := free_ok X G (c.fact 45)
  b_any := free_ok X G (c.fact 46)
  b_bool := free_ok X G (c.fact 47)
  b_enumerate := free_ok X G (c.fact 48)
  b_int := free_ok X G (c.fact 49)
  b_isinstance := free_ok X G (c.fact 50)
  b_len := free_ok X G (c.fact 51)
  b_list := free_ok X G (c.fact 52)
  b_max := free_ok X G (c.fact 53)
  b_min := free_ok X G (c.fact 54)
  b_range := free_ok X G (c.fact 55)
  b_sum := free_ok X G (c.fact 56)
  b_tuple := free_ok X G (c.fact 57)
  b_zip := free_ok X G (c.fact 58)
  ci := cisB_ok (xs := ["Answer", "Alone", "Needless", "Ranges", "Under", "Over", "Most", "Endless", "Dear"]) (c.fact 59)
  at_amount := atB_ok (xs := ["Alone", "Over", "Most"]) (c.fact 60)
  at_begins := atB_ok (xs := ["Ranges"]) (c.fact 61)
  at_first := atB_ok (xs := ["Needless"]) (c.fact 62)
  at_one := atB_ok (xs := ["Needless"]) (c.fact 63)
  at_other := atB_ok (xs := ["Needless"]) (c.fact 64)
  at_place := atB_ok (xs := ["Most", "Endless"]) (c.fact 65)
  at_places := atB_ok (xs := ["Ranges"]) (c.fact 66)
  at_rows := atB_ok (xs := ["Under"]) (c.fact 67)
  at_second := atB_ok (xs := ["Needless"]) (c.fact 68)
  c_Alone := cls_ok (c.fact 69)
  c_Dear := cls_ok (c.fact 70)
  c_Endless := cls_ok (c.fact 71)
  c_Most := cls_ok (c.fact 72)
  c_Needless := cls_ok (c.fact 73)
  c_Over := cls_ok (c.fact 74)
  c_Ranges := cls_ok (c.fact 75)
  c_Under := cls_ok (c.fact 76)
  k_Alone := mkr_ok (c.fact 77)
  k_Endless := mkr_ok (c.fact 78)
  k_Most := mkr_ok (c.fact 79)
  k_Needless := mkr_ok (c.fact 80)
  k_Over := mkr_ok (c.fact 81)
  k_Ranges := mkr_ok (c.fact 82)
  k_Under := mkr_ok (c.fact 83)
  k_Dear := mk0B_ok (c.fact 84)
  m_Alone_shows := meth_ok (c.fact 85)
  m_Dear_shows := meth_ok (c.fact 86)
  m_Endless_shows := meth_ok (c.fact 87)
  m_Most_shows := meth_ok (c.fact 88)
  m_Needless_shows := meth_ok (c.fact 89)
  m_Over_shows := meth_ok (c.fact 90)
  m_Ranges_is_least := meth_ok (c.fact 91)
  m_Ranges_shows := meth_ok (c.fact 92)
  m_Under_shows := meth_ok (c.fact 93)
  i_Under_Under := kitB_ok (c.fact 94)
  i_Over_Under := kitB_ok (c.fact 95)
  d_is_number := c.def_ 0
  d_is_pair := c.def_ 1
  d_common := c.def_ 2
  d_lowest := c.def_ 3
  d_check_book := c.def_ 4
  d_cost_of := c.def_ 5
  d_is_mixture := c.def_ 6
  d_Alone___init__ := c.def_ 7
  d_Alone_shows := c.def_ 8
  d_Needless___init__ := c.def_ 9
  d_Needless_shows := c.def_ 10
  d_Ranges___init__ := c.def_ 11
  d_Ranges_shows := c.def_ 12
  d_Ranges_is_least := c.def_ 13
  d_Under___init__ := c.def_ 14
  d_Under_shows := c.def_ 15
  d_Over___init__ := c.def_ 16
  d_Over_shows := c.def_ 17
  d_Most___init__ := c.def_ 18
  d_Most_shows := c.def_ 19
  d_Endless___init__ := c.def_ 20
  d_Endless_shows := c.def_ 21
  d_Dear_shows := c.def_ 22
  d_next_of := c.def_ 23
  d_ranges_of := c.def_ 24
  d_against := c.def_ 25
  d_ranges := c.def_ 26
  d_under := c.def_ 27
  d__law_book := c.def_ 28
  d__law_lowest := c.def_ 29
  d__law_amount := c.def_ 30
  d__law_cost := c.def_ 31
  d__law_mixture := c.def_ 32
  d__law_alone := c.def_ 33
  d__law_needless := c.def_ 34
  d__law_ranges := c.def_ 35
  d__law_under := c.def_ 36
  d__law_over := c.def_ 37
  d__law_most := c.def_ 38
  d__law_endless := c.def_ 39
  d__law_says := c.def_ 40
  d__law_bent := c.def_ 41
  d__law_one_right := c.def_ 42
  d__law_ranges_right := c.def_ 43
  d__law_books_right := c.def_ 44
  d__law_money_right := c.def_ 45
  d__law_outright := c.def_ 46
  d_law := c.def_ 47
abbrev RW : PySem.W.OpenRow := PySem.W.OpenLaw.row PySem.Challenge.rw_leasttariff_k06_answers_by_hand
abbrev hk : PySem.W.Hook := hookX 6 facts fnl
def ob (s : PySem.W.SharedT) : AlD := obsXG 6 facts fnl (HandSHeadRun.getT s)
theorem ob_eq (s : PySem.W.SharedT) : ob s = hk.obs s.abs := obsXG_eq (HandSHeadRun.getT_eq s)
def names : List (Str) := (["TariffError", "BadBook", "NONE", "is_number", "is_pair", "common", "lowest", "check_book", "cost_of", "Answer", "is_mixture", "Alone", "Needless", "Ranges", "Under", "Over", "Most", "Endless", "Dear", "next_of", "ranges_of", "against", "ranges", "under", "_law_book", "_law_lowest", "_law_amount", "_law_cost", "_law_mixture", "_law_alone"] : List (Str)) ++ (["_law_needless", "_law_ranges", "_law_under", "_law_over", "_law_most", "_law_endless", "_law_says", "_law_bent", "_law_one_right", "_law_ranges_right", "_law_books_right", "_law_money_right", "_law_outright"] : List (Str))
theorem hrun (w : World) : HandSHeadRun.RunEq RW (PySem.W.view RW.prog [48]) hk ob 6000 names w := by
  intro os
  kernel_rfl
end Dt.Ws
namespace Dt.Ws
open PySem L2 Dt He
variable {K : PySem.W.Frag}
local macro_rules | `(tactic| walk_at "ev") => `(tactic| simp only [run, fin, envOf, sSeq, sNil, sAsg, sPar, sRet, sRetN, sDrop, sIf, sNever, bNm, bTup, bsCons, bsNil, bOk_ok, eVar, eC, eOp, eUn, toB, bV, bAnd, bOr, bNot, eB, eIf, aNil, aCons, eFn, eCall, eTup, eLst, eFld, eMk, eMk0, eMt, eChain, iL, iT, eSl, eSlSt, oNone, oSome, toI, toL_lst, toT_tup, Res.bind_ok, Res.bind_no, ofO_some, ofO_none, List.map_cons, List.map_nil, List.length_cons, List.length_nil, List.cons_append, List.nil_append, List.replicate, List.getElem?_cons_zero, List.getElem?_cons_succ, List.set_cons_zero, List.set_cons_succ, if_true, if_false, Bool.false_eq_true, Nat.sub_self, Nat.reduceSub, Nat.reduceAdd, isi_int_int, isi_int_bool, isi_int_tuple, isi_int_list, isi_int_str, isi_bl_int, isi_bl_bool, isi_bl_tuple, isi_bl_list, isi_bl_str, isi_non_int, isi_non_bool, isi_non_tuple, isi_non_list, isi_non_str, isi_str_int, isi_str_bool, isi_str_tuple, isi_str_list, isi_str_str, isi_tup_int, isi_tup_bool, isi_tup_tuple, isi_tup_list, isi_tup_str, isi_lst_int, isi_lst_bool, isi_lst_tuple, isi_lst_list, isi_lst_str, isi_tr_int, isi_tr_bool, isi_tr_tuple, isi_tr_list, isi_tr_str, isi_bk_int, isi_bk_bool, isi_bk_tuple, isi_bk_list, isi_bk_str, isi_dic_int, isi_dic_bool, isi_dic_tuple, isi_dic_list, isi_dic_str, isL_bk, divD_2, modD_2, divD_3, modD_3, divD_4, modD_4, divD_5, modD_5, divD_6, modD_6, divD_7, modD_7, divD_8, modD_8, divD_9, modD_9, divD_10, modD_10, divD_11, modD_11, divD_13, modD_13, divD_15, modD_15, divD_17, modD_17, divD_24, modD_24, divD_40, modD_40, divD_41, modD_41, divD_44, modD_44, divD_60, modD_60, divD_90, modD_90, divD_100, modD_100, divD_120, modD_120, divD_T30, modD_T30, divD_T40, modD_T40, divD_T60, modD_T60, powD_30, powD_40, powD_60, sumD_ints, Option.map_some, ↓reduceIte, reduceCtorEq, isLst, addD_int, subD_int, ltD_int, leD_int, gtD_int, geD_int, negD_int, eqD_int, neD_int, ix0_tr, ix1_tr, ix0, ix1, len_tr, len_bk, len_tup2, toL_bk, toT_tr, list_bk, eqD_bk, neD_bk, eqD_tr, neD_tr, eqD_bk0, neD_bk0, Bool.not_true, Bool.not_false, Bool.true_and, Bool.false_and, Bool.and_true, Bool.and_false, decide_true, decide_false])
theorem is_number_eq (n m : Int) : f_is_number K [.int n, .int m] = .ok (.bl (decide (m ≤ n))) := by
  unfold f_is_number g_is_number
  walk_at "ev"
theorem is_pair_eq (t : Tr) (m : Int) : f_is_pair K [tr t, .int m] = .ok (.bl (decide (0 ≤ t.1) && decide (m ≤ t.2))) := by
  unfold f_is_pair g_is_pair
  walk_at "ev"
  simp only [is_number_eq, Res.bind_ok]
  by_cases h : 0 ≤ t.1 <;> simp [h, toB]
theorem common_eq {a b : Int} (ha : 0 ≤ a) (hb : 0 ≤ b) : f_common K [.int a, .int b] = .ok (.int (gcdI a b)) := by
  unfold f_common g_common sWhile
  walk_at "ev"
  have e : fuel 1 [Sl.sh (.int a), Sl.sh (.int b)] = b.toNat + 1 := rfl
  have z := common_loop _ a b [] ha hb (Nat.lt_succ_self b.toNat)
  rw [e, z]
  rfl
theorem lowest_eq {a b : Int} (ha : 0 ≤ a) (hb : 0 < b) (hs : b.natAbs < lim) : f_lowest K [.int a, .int b] = .ok (tr (low a b)) := by
  unfold f_lowest g_lowest
  walk_at "ev"
  rw [common_eq ha (Int.le_of_lt hb)]
  have h1 := gcdI_pos (a := a) hb
  have h2 := gcdI_le (a := a) hb
  have h3 : (gcdI a b).natAbs < lim := Nat.lt_of_le_of_lt (by omega) hs
  walk_at "ev"
  simp only [divD_int h1 h3]
  rfl
/-- books -/
structure Bk (l : List Tr) : Prop where
  ne : l ≠ []
  len : l.length ≤ 1000
  nn : ∀ t ∈ l, 0 ≤ t.1 ∧ 0 ≤ t.2
  sm : ∀ t ∈ l, Sm t.1 ∧ Sm t.2
theorem check_book_eq {l : List Tr} (h : Bk l) : f_check_book K [bk l] = .ok .non := by
  unfold f_check_book g_check_book
  walk_at "ev"
  rw [eLC_of l tr (fun t => .bl (decide (0 ≤ t.1) && decide (0 ≤ t.2))) (by walk_at "ev") (Nat.le_trans h.len (by decide)) (fun t ht => ⟨_, rfl, by
    simp only [eCall, aCons, aNil, eVar, eC, wipeE, List.set_cons_succ, List.set_cons_zero, List.getElem?_cons_succ, List.getElem?_cons_zero, Res.bind_ok, is_pair_eq]⟩)]
  walk_at "ev"
  rw [allD_map]
  have e : (l.all fun t => decide (0 ≤ t.1) && decide (0 ≤ t.2)) = true := by
    rw [List.all_eq_true]
    intro t ht
    obtain ⟨h1, h2⟩ := h.nn t ht
    simp [h1, h2]
  simp [h.ne, e, toB]
theorem cost_of_eq {t p : Tr} (h1 : mulOk t.1 p.2 = true) (h2 : mulOk t.2 p.1 = true) : f_cost_of K [tr t, tr p] = .ok (.int (cst t p)) := by
  unfold f_cost_of g_cost_of
  walk_at "ev"
  simp only [mulD_int h1, mulD_int h2]
  rfl
structure SmT (t : Tr) : Prop where
  a : Sm t.1
  b : Sm t.2
theorem SmT.of {t : Tr} (h : Sm t.1 ∧ Sm t.2) : SmT t := ⟨h.1, h.2⟩
theorem cost_of_sm {t p : Tr} (h1 : SmT t) (h2 : SmT p) : f_cost_of K [tr t, tr p] = .ok (.int (cst t p)) := cost_of_eq (mulOk_sm h1.a h2.b) (mulOk_sm h1.b h2.a)
theorem Bk.at {l : List Tr} {t : Tr} (h : Bk l) (ht : t ∈ l) : SmT t := ⟨(h.sm t ht).1, (h.sm t ht).2⟩
/-- the costs -/
def csts (l : List Tr) (p : Tr) : List Int := l.map fun t => cst t p
theorem csts_ne {l : List Tr} {p : Tr} (h : l ≠ []) : csts l p ≠ [] := fun z => h (List.map_eq_nil_iff.mp z)
theorem min_csts_nonneg {l : List Tr} {p : Tr} (h : Bk l) (hp : Am p) : 0 ≤ minL (csts l p) := by
  obtain ⟨t, ht, e⟩ := List.mem_map.mp (minL_mem (csts_ne (p := p) h.ne))
  have e : cst t p = minL (csts l p) := e
  rw [← e]
  exact cst_nonneg (h.nn t ht).1 (h.nn t ht).2 hp
theorem law_lowest_eq {a b : Int} (ha : 0 ≤ a) (hb : 0 < b) (hs : b.natAbs < lim) : f__law_lowest K [.int a, .int b] = .ok (tr (low a b)) := by
  unfold f__law_lowest g__law_lowest sWhile
  walk_at "ev"
  have e : fuel 3 [Sl.sh (.int a), Sl.sh (.int b), Sl.sh (.int a), Sl.sh (.int b)] = b.toNat + 1 := rfl
  have h1 := gcdI_pos (a := a) hb
  have h2 := gcdI_le (a := a) hb
  have h3 : (gcdI a b).natAbs < lim := Nat.lt_of_le_of_lt (by omega) hs
  rw [e, common_loop2 _ a b (.sh (.int a)) (.sh (.int b)) [] ha (Int.le_of_lt hb) (Nat.lt_succ_self _)]
  repeat (first | simp only [divD_int h1 h3] | walk_at "ev")
  rfl
theorem law_amount_eq (c : Int) : ∃ p, Am p ∧ SmT p ∧ f__law_amount K [.int c] = .ok (tr p) := by
  by_cases h : c % 3 = 0
  · have a0 : 0 ≤ c / 3 % 40 := Int.emod_nonneg _ (by decide)
    have a1 : c / 3 % 40 < 40 := Int.emod_lt_of_pos _ (by decide)
    have b0 : 0 ≤ c / 120 % 9 := Int.emod_nonneg _ (by decide)
    have b1 : c / 120 % 9 < 9 := Int.emod_lt_of_pos _ (by decide)
    have sa : Sm (c / 3 % 40) := sm_lt a0 (by omega)
    have sb : Sm (1 + c / 120 % 9) := sm_lt (by omega) (by omega)
    refine ⟨low (c / 3 % 40) (1 + c / 120 % 9), low_am a0 (by omega), .of (low_sm a0 (by omega) sa sb), ?_⟩
    unfold f__law_amount g__law_amount
    repeat (first | simp only [h] | walk_at "ev" | rw [law_lowest_eq a0 (by omega) (sm_lim sb)])
  · have a0 : 0 ≤ c / 3 % 1000000000000000000000000000000 := Int.emod_nonneg _ (by decide)
    have a1 : c / 3 % 1000000000000000000000000000000 < 1000000000000000000000000000000 := Int.emod_lt_of_pos _ (by decide)
    have b0 : 0 ≤ (c / 3 / 1000000000000000000000000000000 + c / 7) % 1000000000000000000000000000000 := Int.emod_nonneg _ (by decide)
    have b1 : (c / 3 / 1000000000000000000000000000000 + c / 7) % 1000000000000000000000000000000 < 1000000000000000000000000000000 := Int.emod_lt_of_pos _ (by decide)
    have sa : Sm (c / 3 % 1000000000000000000000000000000) := sm_lt a0 (by omega)
    have sb : Sm (1 + (c / 3 / 1000000000000000000000000000000 + c / 7) % 1000000000000000000000000000000) := sm_lt (by omega) (by omega)
    refine ⟨low (c / 3 % 1000000000000000000000000000000) (1 + (c / 3 / 1000000000000000000000000000000 + c / 7) % 1000000000000000000000000000000), low_am a0 (by omega), .of (low_sm a0 (by omega) sa sb), ?_⟩
    unfold f__law_amount g__law_amount
    repeat (first | simp only [h] | walk_at "ev" | rw [law_lowest_eq a0 (by omega) (sm_lim sb)])
theorem law_cost_eq {t p : Tr} (h1 : SmT t) (h2 : SmT p) : f__law_cost K [tr t, tr p] = .ok (.int (cst t p)) := by
  unfold f__law_cost g__law_cost
  repeat (first | simp only [mulD_int (mulOk_sm h1.a h2.b), mulD_int (mulOk_sm h1.b h2.a)] | walk_at "ev")
  rfl
theorem law_size (q : Int) : ∃ z : Int, 0 < z ∧ z ≤ 1000000000000000000000000000000 ∧ ixD (.tup [.int 9, .int 60, .int 1000000000000000000000000000000, .int 9]) (.int (q % 4)) = some (.int z) := by
  have h0 : 0 ≤ q % 4 := Int.emod_nonneg _ (by decide)
  have h1 : q % 4 < 4 := Int.emod_lt_of_pos _ (by decide)
  have h : q % 4 = 0 ∨ q % 4 = 1 ∨ q % 4 = 2 ∨ q % 4 = 3 := by omega
  rcases h with e | e | e | e <;> rw [e]
  · exact ⟨9, by decide, by decide, rfl⟩
  · exact ⟨60, by decide, by decide, rfl⟩
  · exact ⟨1000000000000000000000000000000, by decide, by decide, rfl⟩
  · exact ⟨9, by decide, by decide, rfl⟩
theorem law_book_eq (ns : List Int) (hl : ns.length ≤ 63) : ∃ l, Bk l ∧ l.length ≤ 100 ∧ (∀ t ∈ l, t.1 < 10000000000000000000000000000000000000000 ∧ t.2 < 10000000000000000000000000000000000000000) ∧ f__law_book K [.lst (ns.map D.int)] = .ok (bk l) := by
  obtain ⟨z, z0, z1, hz⟩ := law_size (ns.sum / 7)
  have zl : z.natAbs < lim := smallv z (by omega)
  have d : ∀ i : Int, divD (.int i) (.int z) = some (.int (i / z)) := fun i => divD_int z0 zl
  have m : ∀ i : Int, modD (.int i) (.int z) = some (.int (i % z)) := fun i => modD_int z0
  have small : ∀ c : Int, (1 - c % 2 * 2).natAbs < 2 ^ 60 := fun c => by
    have h0 : 0 ≤ c % 2 := Int.emod_nonneg _ (by decide)
    have h1 : c % 2 < 2 := Int.emod_lt_of_pos _ (by decide)
    omega
  have small2 : ∀ c : Int, mulOk (c % 2) 2 = true := fun c => mulOk_r (by decide)
  have small3 : ∀ c : Int, mulOk (c / 7) (1 - c % 2 * 2) = true := fun c => mulOk_r (small c)
  let R : Int → Int := fun c => c / z + c / 7 * (1 - c % 2 * 2)
  let F : List Tr := ns.map fun c => (c % z, R c % z)
  have hF : ∀ t ∈ F, ((0 ≤ t.1 ∧ 0 ≤ t.2) ∧ Sm t.1 ∧ Sm t.2) ∧ t.1 < 10000000000000000000000000000000000000000 ∧ t.2 < 10000000000000000000000000000000000000000 := fun t ht => by
    obtain ⟨c, _, rfl⟩ := List.mem_map.mp ht
    have a0 : 0 ≤ c % z := Int.emod_nonneg _ (by omega)
    have a1 : c % z < z := Int.emod_lt_of_pos _ z0
    have b0 : 0 ≤ R c % z := Int.emod_nonneg _ (by omega)
    have b1 : R c % z < z := Int.emod_lt_of_pos _ z0
    exact ⟨⟨⟨a0, b0⟩, sm_lt a0 (by omega), sm_lt b0 (by omega)⟩, by show c % z < 10000000000000000000000000000000000000000; omega, by show R c % z < 10000000000000000000000000000000000000000; omega⟩
  have fl : F.length ≤ 63 := by
    show (ns.map _).length ≤ 63
    rw [List.length_map]
    exact hl
  have c1 : ∀ r : Env, eLC [4] (bNm 4) bYes (eOp addD (eOp divD (eVar 4) (eVar 2)) (eOp mulD (eOp divD (eVar 4) (eC (.int 7))) (eOp subD (eC (.int 1)) (eOp mulD (eOp modD (eVar 4) (eC (.int 2))) (eC (.int 2)))))) (iL (eVar 0)) [.sh (.lst (ns.map D.int)), .sh (.int ns.sum), .sh (.int z), .no, .no, .no, .no, .no, .no] = .ok (.lst (ns.map fun c => .int (R c))) := fun r =>
    eLC_of ns D.int (fun c => .int (R c)) rfl (by omega) fun c _ => ⟨_, rfl, by
      simp only [wipeE]
      repeat (first | simp only [d, m, mulD_int (small2 c), mulD_int (small3 c)] | walk_at "ev")
      rfl⟩
  have c2 : eLC [4, 6] (bTup (bsCons (bNm 4) (bsCons (bNm 6) bsNil))) bYes (eTup (aCons (eOp modD (eVar 4) (eVar 2)) (aCons (eOp modD (eVar 6) (eVar 2)) aNil))) (iZ (aCons (eVar 0) (aCons (eVar 3) aNil))) [.sh (.lst (ns.map D.int)), .sh (.int ns.sum), .sh (.int z), .sh (.lst (ns.map fun c => .int (R c))), .no, .no, .no, .no, .no] = .ok (bk F) := by
    rw [eLC_of ns (fun c => .tup [.int c, .int (R c)]) (fun c => tr (c % z, R c % z)) (by
      unfold iZ
      walk_at "ev"
      rw [zip_map]) (by omega) fun c _ => ⟨_, rfl, by
      simp only [wipeE]
      repeat (first | simp only [d, m] | walk_at "ev")
      rfl⟩]
    show Res.ok (D.lst _) = Res.ok (D.lst (F.map tr))
    show _ = Res.ok (D.lst ((ns.map _).map tr))
    rw [List.map_map]
    rfl
  -- the hill
  have hM0 : 0 ≤ ns.sum / 44 % 24 := Int.emod_nonneg _ (by decide)
  have hM1 : ns.sum / 44 % 24 < 24 := Int.emod_lt_of_pos _ (by decide)
  have hc0 : 0 ≤ ns.sum % 5 := Int.emod_nonneg _ (by decide)
  have hc1 : ns.sum % 5 < 5 := Int.emod_lt_of_pos _ (by decide)
  have hd0 : 0 ≤ ns.sum / 7 % 9 := Int.emod_nonneg _ (by decide)
  have hd1 : ns.sum / 7 % 9 < 9 := Int.emod_lt_of_pos _ (by decide)
  obtain ⟨M, eM⟩ : ∃ M : Int, M = 1 + ns.sum / 44 % 24 := ⟨_, rfl⟩
  let T : Nat → Int := fun k => ((0 + (k : Int)) * (0 + (k : Int) + 1)) / 2
  let G : List Tr := (List.range M.toNat).map fun (k : Nat) => (T k * (1 + ns.sum % 5) + ns.sum / 7 % 9, M - (0 + (k : Int)))
  have hT : ∀ k : Nat, k < 24 → 0 ≤ T k ∧ T k ≤ 300 := fun k hk => by
    have h1 : (k : Int) ≤ 23 := by omega
    have h2 : (0 + (k : Int)) * (0 + (k : Int) + 1) ≤ 23 * 24 := Int.mul_le_mul (by omega) (by omega) (by omega) (by omega)
    have h3 : 0 ≤ (0 + (k : Int)) * (0 + (k : Int) + 1) := Int.mul_nonneg (by omega) (by omega)
    show 0 ≤ (0 + (k : Int)) * (0 + (k : Int) + 1) / 2 ∧ (0 + (k : Int)) * (0 + (k : Int) + 1) / 2 ≤ 300
    omega
  have gl : G.length ≤ 24 := by
    show ((List.range M.toNat).map _).length ≤ 24
    rw [List.length_map, List.length_range]
    omega
  have hG : ∀ t ∈ G, ((0 ≤ t.1 ∧ 0 ≤ t.2) ∧ Sm t.1 ∧ Sm t.2) ∧ t.1 < 10000000000000000000000000000000000000000 ∧ t.2 < 10000000000000000000000000000000000000000 := fun t ht => by
    obtain ⟨k, hk, rfl⟩ := List.mem_map.mp ht
    have hk : k < M.toNat := List.mem_range.mp hk
    obtain ⟨t0, t1⟩ := hT k (by omega)
    have p0 : 0 ≤ T k * (1 + ns.sum % 5) := Int.mul_nonneg t0 (by omega)
    have p1 : T k * (1 + ns.sum % 5) ≤ 300 * 5 := Int.mul_le_mul t1 (by omega) (by omega) (by omega)
    exact ⟨⟨⟨by show 0 ≤ _ + _; omega, by show 0 ≤ M - _; omega⟩, sm_lt (by show 0 ≤ _ + _; omega) (by show _ + _ < _; omega), sm_lt (by show 0 ≤ M - _; omega) (by show M - _ < _; omega)⟩, by show _ + _ < _; omega, by show M - _ < _; omega⟩
  have c3 : ∀ b : Sl, eLC [8] (bNm 8) bYes (eTup (aCons (eOp addD (eOp mulD (eOp divD (eOp mulD (eVar 8) (eOp addD (eVar 8) (eC (.int 1)))) (eC (.int 2))) (eOp addD (eC (.int 1)) (eOp modD (eVar 1) (eC (.int 5))))) (eOp modD (eOp divD (eVar 1) (eC (.int 7))) (eC (.int 9)))) (aCons (eOp subD (eVar 7) (eVar 8)) aNil))) (iR1 (aCons (eVar 7) aNil)) [.sh (.lst (ns.map D.int)), .sh (.int ns.sum), .sh (.int z), .sh (.lst (ns.map fun c => .int (R c))), .no, .sh (bk F), .no, .sh (.int M), b] = .ok (bk G) := fun b => by
    rw [eLC_of (List.range M.toNat) (fun (k : Nat) => .int (0 + (k : Int))) (fun (k : Nat) => tr (T k * (1 + ns.sum % 5) + ns.sum / 7 % 9, M - (0 + (k : Int)))) (by
      unfold iR1
      walk_at "ev"
      rw [if_pos (by omega)]
      unfold rangeD
      rw [Int.sub_zero]) (by rw [List.length_range]; omega) fun k hk => ⟨_, rfl, by
      have hk : k < M.toNat := List.mem_range.mp hk
      obtain ⟨t0, t1⟩ := hT k (by omega)
      have m1 : mulOk (0 + (k : Int)) (0 + (k : Int) + 1) = true := mulOk_l (by omega)
      have m2 : mulOk (T k) (1 + ns.sum % 5) = true := mulOk_l (by omega)
      simp only [wipeE]
      repeat (first | simp only [mulD_int m1] | walk_at "ev" | rw [show (0 + (k : Int)) * (0 + (k : Int) + 1) / 2 = T k from rfl, mulD_int m2])
      rfl⟩]
    show Res.ok (D.lst _) = Res.ok (D.lst (((List.range M.toNat).map _).map tr))
    rw [List.map_map]
    rfl
  have app : addD (bk F) (bk G) = some (bk (F ++ G)) := by
    show addD (.lst (F.map tr)) (.lst (G.map tr)) = some (.lst ((F ++ G).map tr))
    rw [addD_lst (by simp only [List.length_map]; omega), List.map_append]
  have last : ∀ L : List Tr, L.length ≤ 100 → (∀ t ∈ L, ((0 ≤ t.1 ∧ 0 ≤ t.2) ∧ Sm t.1 ∧ Sm t.2) ∧ t.1 < 10000000000000000000000000000000000000000 ∧ t.2 < 10000000000000000000000000000000000000000) → Bk (if L = [] then [(ns.sum % 5, 3)] else L) := fun L h1 h2 => by
    by_cases c : L = []
    · rw [if_pos c]
      refine ⟨(fun z => nomatch z), (by show 1 ≤ 1000; decide), fun t ht => ?_, fun t ht => ?_⟩
      · obtain rfl := List.mem_singleton.mp ht
        exact ⟨hc0, (by decide : (0 : Int) ≤ 3)⟩
      · obtain rfl := List.mem_singleton.mp ht
        exact ⟨sm_lt hc0 (by omega), sm_small (by decide : (3 : Int).natAbs < 2 ^ 60)⟩
    · rw [if_neg c]
      exact ⟨c, by omega, fun t ht => (h2 t ht).1.1, fun t ht => (h2 t ht).1.2⟩
  have last2 : ∀ L : List Tr, (∀ t ∈ L, ((0 ≤ t.1 ∧ 0 ≤ t.2) ∧ Sm t.1 ∧ Sm t.2) ∧ t.1 < 10000000000000000000000000000000000000000 ∧ t.2 < 10000000000000000000000000000000000000000) → ∀ t ∈ (if L = [] then [(ns.sum % 5, 3)] else L), t.1 < 10000000000000000000000000000000000000000 ∧ t.2 < 10000000000000000000000000000000000000000 := fun L h2 t ht => by
    by_cases c : L = []
    · rw [if_pos c] at ht
      obtain rfl := List.mem_singleton.mp ht
      exact ⟨by show ns.sum % 5 < _; omega, by show (3 : Int) < _; omega⟩
    · rw [if_neg c] at ht
      exact (h2 t ht).2
  have one : D.lst [tr (ns.sum % 5, 3)] = bk [(ns.sum % 5, 3)] := rfl
  by_cases h : ns.sum / 4 % 11 = 5
  · have hFG : ∀ t ∈ F ++ G, ((0 ≤ t.1 ∧ 0 ≤ t.2) ∧ Sm t.1 ∧ Sm t.2) ∧ t.1 < 10000000000000000000000000000000000000000 ∧ t.2 < 10000000000000000000000000000000000000000 := fun t ht => by
      rcases List.mem_append.mp ht with ht | ht
      · exact hF t ht
      · exact hG t ht
    refine ⟨if F ++ G = [] then [(ns.sum % 5, 3)] else F ++ G, last _ (by rw [List.length_append]; omega) hFG, ?_, last2 _ hFG, ?_⟩
    · split
      · show 1 ≤ 100
        decide
      · rw [List.length_append]; omega
    · unfold f__law_book g__law_book
      repeat (first | simp only [hz, h, pair_eq, one] | rw [c1 []] | rw [c2] | rw [← eM] | rw [c3] | simp only [app] | walk_at "ev")
      by_cases c : F ++ G = []
      · simp only [c]
        repeat (first | simp only [one] | walk_at "ev")
      · simp only [c]
        repeat (first | simp only [one] | walk_at "ev")
  · refine ⟨if F = [] then [(ns.sum % 5, 3)] else F, last F (by omega) hF, ?_, last2 F hF, ?_⟩
    · split
      · show 1 ≤ 100
        decide
      · omega
    · unfold f__law_book g__law_book
      repeat (first | simp only [hz, h, pair_eq, one] | rw [c1 []] | rw [c2] | walk_at "ev")
      by_cases c : F = []
      · simp only [c]
        repeat (first | simp only [one] | walk_at "ev")
      · simp only [c]
        repeat (first | simp only [one] | walk_at "ev")
section
variable {a b c : D}
theorem ix30 : ixD (.tup [a, b, c]) (.int 0) = some a := rfl
theorem ix31 : ixD (.tup [a, b, c]) (.int 1) = some b := rfl
theorem ix32 : ixD (.tup [a, b, c]) (.int 2) = some c := rfl
end
def encO : Option (Int × Int × Nat) → D
  | none => .non
  | some (a, c, j) => .tup [.int a, .int c, .int (j : Nat)]
theorem fn1 {g : List D → Option D} {fa : Env → Res D} {env : Env} {a d : D} (h : fa env = .ok a) (h2 : g [a] = some d) : eFn g (aCons fa aNil) env = .ok d := by
  unfold eFn aCons aNil
  rw [h]
  show ofO (g [a]) = _
  rw [h2]
  rfl
theorem fn2 {g : List D → Option D} {fa fb : Env → Res D} {env : Env} {a b d : D} (h : fa env = .ok a) (h' : fb env = .ok b) (h2 : g [a, b] = some d) : eFn g (aCons fa (aCons fb aNil)) env = .ok d := by
  unfold eFn aCons aNil
  simp only [h, h', Res.bind_ok, h2]
  rfl
theorem at_of {l : List Tr} {j : Int} (h0 : 0 ≤ j) (h1 : j < l.length) : ∃ t, l[j.toNat]? = some t ∧ t ∈ l ∧ ixD (bk l) (.int j) = some (tr t) := by
  have hl : j.toNat < l.length := by omega
  refine ⟨_, List.getElem?_eq_getElem hl, List.getElem_mem hl, ?_⟩
  have e : j = ((j.toNat : Nat) : Int) := (Int.toNat_of_nonneg h0).symm
  conv => lhs; rw [e]
  exact ix_bk (List.getElem?_eq_getElem hl)
theorem place_cases (l : List Tr) (j : Int) : (¬ 0 ≤ j) ∨ (0 ≤ j ∧ ¬ j < l.length) ∨ (0 ≤ j ∧ j < l.length) := by omega
theorem NONE_tr : c_NONE = tr (0, 1) := rfl
/-! ### mixtures -/
def rowD (i k a b : Int) : D := .tup [.int i, .int k, .int a, .int b]
theorem mulOk_lims {i j : Int} (h : i.natAbs < lim) (h' : j.natAbs < lim) : mulOk i j = true := by
  unfold mulOk
  rw [decide_eq_true h, decide_eq_true h']
  simp
theorem sm_add_lim {a b : Int} (h : Sm a) (h' : Sm b) : (a + b).natAbs < lim := by
  refine lim_of (n := 251) ?_ (by decide)
  unfold Sm at h h'
  have : (2 : Nat) ^ 251 = 2 ^ 250 + 2 ^ 250 := by decide
  omega
theorem mixB_F {l : List Tr} {i k a b : Int} {t : Tr} (h : ¬ (((0 ≤ i ∧ i < l.length) ∧ (0 ≤ k ∧ k < l.length)) ∧ 0 ≤ a ∧ 0 ≤ b ∧ 0 < a + b)) : mixB l i k a b t = false := by
  unfold mixB
  by_cases c1 : (0 ≤ i ∧ i < l.length) ∧ (0 ≤ k ∧ k < l.length)
  · by_cases c2 : 0 ≤ a ∧ 0 ≤ b ∧ 0 < a + b
    · exact absurd ⟨c1, c2⟩ h
    · have e : (decide (0 ≤ a) && (decide (0 ≤ b) && decide (0 < a + b))) = false := by
        rw [Bool.eq_false_iff]
        intro z
        simp only [Bool.and_eq_true, decide_eq_true_eq] at z
        exact c2 z
      rw [e, Bool.false_and, Bool.and_false]
  · have e : ((decide (0 ≤ i) && decide (i < l.length)) && (decide (0 ≤ k) && decide (k < l.length))) = false := by
      rw [Bool.eq_false_iff]
      intro z
      simp only [Bool.and_eq_true, decide_eq_true_eq] at z
      exact c1 z
    rw [e, Bool.false_and]
theorem mixB_T {l : List Tr} {i k a b : Int} {t u w : Tr} (h : ((0 ≤ i ∧ i < l.length) ∧ (0 ≤ k ∧ k < l.length)) ∧ 0 ≤ a ∧ 0 ≤ b ∧ 0 < a + b) (hu : l[i.toNat]? = some u) (hw : l[k.toNat]? = some w) :
    mixB l i k a b t = (decide (a * u.1 + b * w.1 ≤ (a + b) * t.1) && decide (a * u.2 + b * w.2 ≤ (a + b) * t.2)) := by
  obtain ⟨⟨⟨h1, h2⟩, h3, h4⟩, h5, h6, h7⟩ := h
  unfold mixB
  rw [decide_eq_true h1, decide_eq_true h2, decide_eq_true h3, decide_eq_true h4, decide_eq_true h5, decide_eq_true h6, decide_eq_true h7, hu, hw]
  rfl
theorem minD2 {a b : Int} : minD [.int a, .int b] = some (.int (min a b)) := rfl
theorem maxD2 {a b : Int} : maxD [.int a, .int b] = some (.int (max a b)) := rfl
theorem is_mixture_eq {l : List Tr} {i k a b : Int} {t : Tr} (h : Bk l) (st : SmT t) (sa : Sm a) (sb : Sm b) : f_is_mixture K [bk l, rowD i k a b, tr t] = .ok (.bl (mixB l i k a b t)) := by
  refine run_rt ?_
  refine seq_asg (d := rowD i k a b) rfl rfl ?_
  by_cases c : ((0 ≤ i ∧ i < l.length) ∧ (0 ≤ k ∧ k < l.length)) ∧ 0 ≤ a ∧ 0 ≤ b ∧ 0 < a + b
  · obtain ⟨⟨⟨h1, h2⟩, h3, h4⟩, h5, h6, h7⟩ := c
    obtain ⟨u, hu, um, hxu⟩ := at_of h1 h2
    obtain ⟨w, hw, wm, hxw⟩ := at_of h3 h4
    rw [mixB_T ⟨⟨⟨h1, h2⟩, h3, h4⟩, h5, h6, h7⟩ hu hw]
    have su := h.at um
    have sw := h.at wm
    have g1 : ¬ (min a b < 0) := by omega
    have g2 : ¬ (max a b < 1) := by omega
    refine seq_ifF (by
      show bOr _ _ [.sh (bk l), .sh (rowD i k a b), .sh (tr t), .sh (.int i), .sh (.int k), .sh (.int a), .sh (.int b), .no, .no] = _
      repeat (first | simp only [h1, h2, h3, h4, g1, g2, minD2, maxD2] | walk_at "ev")) ?_
    refine seq_set (d := .int (a + b)) (by
      show eOp _ _ _ [.sh (bk l), .sh (rowD i k a b), .sh (tr t), .sh (.int i), .sh (.int k), .sh (.int a), .sh (.int b), .no, .no] = _
      walk_at "ev") (ret_of ?_)
    show eFn _ _ [.sh (bk l), .sh (rowD i k a b), .sh (tr t), .sh (.int i), .sh (.int k), .sh (.int a), .sh (.int b), .sh (.int (a + b)), .no] = _
    have e := eLC_of (vs := [8]) (bt := bNm 8) (fe := eOp leD (eOp addD (eOp mulD (eVar 5) (eOp ixD (eOp ixD (eVar 0) (eVar 3)) (eVar 8))) (eOp mulD (eVar 6) (eOp ixD (eOp ixD (eVar 0) (eVar 4)) (eVar 8)))) (eOp mulD (eVar 7) (eOp ixD (eVar 2) (eVar 8)))) (fi := iT (eTup (aCons (eC (.int 0)) (aCons (eC (.int 1)) aNil)))) (env := [.sh (bk l), .sh (rowD i k a b), .sh (tr t), .sh (.int i), .sh (.int k), .sh (.int a), .sh (.int b), .sh (.int (a + b)), .no]) ([0, 1] : List Int) D.int (fun x => .bl (if x = 0 then decide (a * u.1 + b * w.1 ≤ (a + b) * t.1) else decide (a * u.2 + b * w.2 ≤ (a + b) * t.2))) rfl (by show 2 ≤ _; decide) (fun x hx => ⟨_, rfl, by
      simp only [wipeE]
      have m1 := mulD_int (mulOk_sm sa su.a)
      have m2 := mulD_int (mulOk_sm sa su.b)
      have m3 := mulD_int (mulOk_sm sb sw.a)
      have m4 := mulD_int (mulOk_sm sb sw.b)
      have m5 := mulD_int (mulOk_lims (sm_add_lim sa sb) (sm_lim st.a))
      have m6 := mulD_int (mulOk_lims (sm_add_lim sa sb) (sm_lim st.b))
      simp only [List.mem_cons, List.not_mem_nil, or_false] at hx
      rcases hx with rfl | rfl
      · repeat (first | simp only [hxu, hxw, m1, m2, m3, m4, m5, m6] | walk_at "ev")
      · have n : ¬ ((1 : Int) = 0) := by decide
        repeat (first | simp only [hxu, hxw, m1, m2, m3, m4, m5, m6, n] | walk_at "ev")⟩)
    refine (all_lc e).trans ?_
    have n : ¬ ((1 : Int) = 0) := by decide
    simp only [List.all_cons, List.all_nil, if_true, n, if_false, Bool.and_true]
  · rw [mixB_F c]
    refine seq_ifT ?_ rfl
    show bOr _ _ [.sh (bk l), .sh (rowD i k a b), .sh (tr t), .sh (.int i), .sh (.int k), .sh (.int a), .sh (.int b), .no, .no] = _
    rcases place_cases l i with c0 | ⟨c0, c1⟩ | ⟨c0, c1⟩
    · repeat (first | simp only [c0] | walk_at "ev")
    · repeat (first | simp only [c0, c1] | walk_at "ev")
    · rcases place_cases l k with d0 | ⟨d0, d1⟩ | ⟨d0, d1⟩
      · repeat (first | simp only [c0, c1, d0] | walk_at "ev")
      · repeat (first | simp only [c0, c1, d0, d1] | walk_at "ev")
      · by_cases g1 : min a b < 0
        · repeat (first | simp only [c0, c1, d0, d1, g1, minD2, maxD2] | walk_at "ev")
        · have g2 : max a b < 1 := by omega
          repeat (first | simp only [c0, c1, d0, d1, g1, g2, minD2, maxD2] | walk_at "ev")
theorem law_mixture_eq {l : List Tr} {i k a b : Int} {t : Tr} (h : Bk l) (st : SmT t) (sa : Sm a) (sb : Sm b) : f__law_mixture K [bk l, rowD i k a b, tr t] = .ok (.bl (mixB l i k a b t)) := by
  refine run_rt ?_
  refine seq_asg (d := rowD i k a b) rfl rfl ?_
  have e := eLC_of (vs := [7]) (bt := bNm 7) (fe := eB (bNot (bV (eChain leD ltD (eC (.int 0)) (eVar 7) (eFn lenD (aCons (eVar 0) aNil)))))) (fi := iL (eLst (aCons (eVar 3) (aCons (eVar 4) aNil)))) (env := [.sh (bk l), .sh (rowD i k a b), .sh (tr t), .sh (.int i), .sh (.int k), .sh (.int a), .sh (.int b), .no, .no, .no]) [i, k] D.int (fun x => .bl (!(decide (0 ≤ x) && decide (x < l.length)))) rfl (by show 2 ≤ _; decide) (fun x hx => ⟨_, rfl, by
    simp only [wipeE]
    rcases place_cases l x with c0 | ⟨c0, c1⟩ | ⟨c0, c1⟩
    · repeat (first | simp only [c0] | walk_at "ev")
    · repeat (first | simp only [c0, c1] | walk_at "ev")
    · repeat (first | simp only [c0, c1] | walk_at "ev")⟩)
  have e2 := any_lc e
  by_cases c : ((0 ≤ i ∧ i < l.length) ∧ (0 ≤ k ∧ k < l.length)) ∧ 0 ≤ a ∧ 0 ≤ b ∧ 0 < a + b
  · obtain ⟨⟨⟨h1, h2⟩, h3, h4⟩, h5, h6, h7⟩ := c
    obtain ⟨u, hu, um, hxu⟩ := at_of h1 h2
    obtain ⟨w, hw, wm, hxw⟩ := at_of h3 h4
    rw [mixB_T ⟨⟨⟨h1, h2⟩, h3, h4⟩, h5, h6, h7⟩ hu hw]
    have su := h.at um
    have sw := h.at wm
    have m1 := mulD_int (mulOk_sm sa su.a)
    have m2 := mulD_int (mulOk_sm sa su.b)
    have m3 := mulD_int (mulOk_sm sb sw.a)
    have m4 := mulD_int (mulOk_sm sb sw.b)
    have m5 := mulD_int (mulOk_lims (sm_add_lim sa sb) (sm_lim st.a))
    have m6 := mulD_int (mulOk_lims (sm_add_lim sa sb) (sm_lim st.b))
    have g1 : ¬ a < 0 := by omega
    have g2 : ¬ b < 0 := by omega
    have g3 : ¬ a + b = 0 := by omega
    simp only [List.any_cons, List.any_nil, decide_eq_true h1, decide_eq_true h2, decide_eq_true h3, decide_eq_true h4, Bool.and_true, Bool.not_true, Bool.or_false, Bool.false_or] at e2
    refine seq_ifF (bOr_F (bV_of e2) (by
      show bOr _ _ [.sh (bk l), .sh (rowD i k a b), .sh (tr t), .sh (.int i), .sh (.int k), .sh (.int a), .sh (.int b), .no, .no, .no] = _
      repeat (first | simp only [g1, g2, g3] | walk_at "ev"))) ?_
    refine (for_check ([0, 1] : List Nat) (fun n => .int (0 + (n : Int))) (fun n => if n = 0 then decide (a * u.1 + b * w.1 ≤ (a + b) * t.1) else decide (a * u.2 + b * w.2 ≤ (a + b) * t.2)) (fun env => ∃ x y, env = [Sl.sh (bk l), .sh (rowD i k a b), .sh (tr t), .sh (.int i), .sh (.int k), .sh (.int a), .sh (.int b), .no, x, y]) (d0 := .bl false) (d1 := .bl true) rfl ⟨_, _, rfl⟩ (fun n hn env he => ?_) (fun e he => ?_)).trans ?_
    · obtain ⟨x, y, rfl⟩ := he
      simp only [List.mem_cons, List.not_mem_nil, or_false] at hn
      rcases hn with rfl | rfl
      · refine ⟨_, rfl, fun ok => ⟨_, ?_, .sh (.int 0), .sh (.int (a * u.1 + b * w.1)), rfl⟩, fun ok => ?_⟩
        · have ok := of_decide_eq_true ok
          have no : ¬ (a + b) * t.1 < a * u.1 + b * w.1 := by omega
          refine seq_set (d := .int (a * u.1 + b * w.1)) (by
            show eOp _ _ _ [.sh (bk l), .sh (rowD i k a b), .sh (tr t), .sh (.int i), .sh (.int k), .sh (.int a), .sh (.int b), .no, .sh (.int 0), y] = _
            repeat (first | simp only [hxu, hxw, m1, m3] | walk_at "ev")) (ifF ?_)
          show bV _ [.sh (bk l), .sh (rowD i k a b), .sh (tr t), .sh (.int i), .sh (.int k), .sh (.int a), .sh (.int b), .no, .sh (.int 0), .sh (.int (a * u.1 + b * w.1))] = _
          repeat (first | simp only [m5, no] | walk_at "ev")
        · have ok := of_decide_eq_false ok
          have no : (a + b) * t.1 < a * u.1 + b * w.1 := by omega
          refine seq_set (d := .int (a * u.1 + b * w.1)) (by
            show eOp _ _ _ [.sh (bk l), .sh (rowD i k a b), .sh (tr t), .sh (.int i), .sh (.int k), .sh (.int a), .sh (.int b), .no, .sh (.int 0), y] = _
            repeat (first | simp only [hxu, hxw, m1, m3] | walk_at "ev")) ?_
          show sIf _ _ _ [.sh (bk l), .sh (rowD i k a b), .sh (tr t), .sh (.int i), .sh (.int k), .sh (.int a), .sh (.int b), .no, .sh (.int 0), .sh (.int (a * u.1 + b * w.1))] = _
          repeat (first | simp only [m5, no] | walk_at "ev")
      · refine ⟨_, rfl, fun ok => ⟨_, ?_, .sh (.int 1), .sh (.int (a * u.2 + b * w.2)), rfl⟩, fun ok => ?_⟩
        · have ok := of_decide_eq_true ok
          have no : ¬ (a + b) * t.2 < a * u.2 + b * w.2 := by omega
          refine seq_set (d := .int (a * u.2 + b * w.2)) (by
            show eOp _ _ _ [.sh (bk l), .sh (rowD i k a b), .sh (tr t), .sh (.int i), .sh (.int k), .sh (.int a), .sh (.int b), .no, .sh (.int 1), y] = _
            repeat (first | simp only [hxu, hxw, m2, m4] | walk_at "ev")) (ifF ?_)
          show bV _ [.sh (bk l), .sh (rowD i k a b), .sh (tr t), .sh (.int i), .sh (.int k), .sh (.int a), .sh (.int b), .no, .sh (.int 1), .sh (.int (a * u.2 + b * w.2))] = _
          repeat (first | simp only [m6, no] | walk_at "ev")
        · have ok := of_decide_eq_false ok
          have no : (a + b) * t.2 < a * u.2 + b * w.2 := by omega
          refine seq_set (d := .int (a * u.2 + b * w.2)) (by
            show eOp _ _ _ [.sh (bk l), .sh (rowD i k a b), .sh (tr t), .sh (.int i), .sh (.int k), .sh (.int a), .sh (.int b), .no, .sh (.int 1), y] = _
            repeat (first | simp only [hxu, hxw, m2, m4] | walk_at "ev")) ?_
          show sIf _ _ _ [.sh (bk l), .sh (rowD i k a b), .sh (tr t), .sh (.int i), .sh (.int k), .sh (.int a), .sh (.int b), .no, .sh (.int 1), .sh (.int (a * u.2 + b * w.2))] = _
          repeat (first | simp only [m6, no] | walk_at "ev")
    · obtain ⟨x, y, rfl⟩ := he
      rfl
    · have n : ¬ ((1 : Nat) = 0) := by decide
      simp only [List.all_cons, List.all_nil, if_true, n, if_false, Bool.and_true]
      cases (decide (a * u.1 + b * w.1 ≤ (a + b) * t.1) && decide (a * u.2 + b * w.2 ≤ (a + b) * t.2)) <;> rfl
  · rw [mixB_F c]
    refine seq_ifT ?_ rfl
    by_cases c1 : (0 ≤ i ∧ i < l.length) ∧ (0 ≤ k ∧ k < l.length)
    · obtain ⟨⟨h1, h2⟩, h3, h4⟩ := c1
      simp only [List.any_cons, List.any_nil, decide_eq_true h1, decide_eq_true h2, decide_eq_true h3, decide_eq_true h4, Bool.and_true, Bool.not_true, Bool.or_false, Bool.false_or] at e2
      refine bOr_F (bV_of e2) ?_
      show bOr _ _ [.sh (bk l), .sh (rowD i k a b), .sh (tr t), .sh (.int i), .sh (.int k), .sh (.int a), .sh (.int b), .no, .no, .no] = _
      by_cases g1 : a < 0
      · repeat (first | simp only [g1] | walk_at "ev")
      · by_cases g2 : b < 0
        · repeat (first | simp only [g1, g2] | walk_at "ev")
        · have g3 : a + b = 0 := by omega
          repeat (first | simp only [g1, g2, g3] | walk_at "ev")
    · have e3 : ([i, k].any fun x => !(decide (0 ≤ x) && decide (x < (l.length : Int)))) = true := by
        by_cases z : ([i, k].any fun x => !(decide (0 ≤ x) && decide (x < (l.length : Int)))) = true
        · exact z
        · exfalso
          simp only [List.any_cons, List.any_nil, Bool.or_false, Bool.or_eq_true, Bool.not_eq_true', not_or, Bool.not_eq_false, Bool.and_eq_true, decide_eq_true_eq] at z
          exact c1 z
      rw [e3] at e2
      exact bOr_T (bV_of e2)
/-! ### one among others -/
abbrev aloneI (K : PySem.W.Frag) (p : Tr) : D := .ins (ga K "Alone") [("amount", tr p)]
abbrev needI (K : PySem.W.Frag) (i k a b : Int) : D := .ins (ga K "Needless") [("one", .int i), ("other", .int k), ("first", .int a), ("second", .int b)]
def aloneB (l : List Tr) (j : Nat) (t p : Tr) : Bool := (enumT 0 l).all fun u => decide (u.2.2 = (j : Int)) || decide (cst t p < cst (u.1, u.2.1) p)
def needB (l : List Tr) (j : Nat) (t : Tr) (i k a b : Int) : Bool := !(decide ((j : Int) = i) || decide ((j : Int) = k)) && mixB l i k a b t
theorem enumT_in {l : List Tr} {u : T3} (h : u ∈ enumT 0 l) : (u.1, u.2.1) ∈ l := by
  obtain ⟨i, _, h2, _⟩ := enumT_mem h
  exact List.mem_of_getElem? h2
theorem Alone_shows_eq {l : List Tr} {j : Nat} {t p : Tr} (h : Bk l) (hp : SmT p) (hj : l[j]? = some t) : f_Alone_shows K [aloneI K p, bk l, .int j] = .ok (.bl (aloneB l j t p)) := by
  have tm := List.mem_of_getElem? hj
  have f1 := fld_Alone_amount (K := K) (tr p)
  refine run_rt ?_
  refine seq_set (d := .int (cst t p)) (by repeat (first | simp only [f1, ix_bk hj, cost_of_sm (h.at tm) hp] | walk_at "ev")) (ret_of ?_)
  refine all_lc (eLC_of (enumT 0 l) (fun t => .tup [.int t.2.2, tr (t.1, t.2.1)]) (fun u => .bl (decide (u.2.2 = (j : Int)) || decide (cst t p < cst (u.1, u.2.1) p))) (by rw [← enumT_enc]; rfl) (by rw [enumT_len]; exact Nat.le_trans h.len (by decide)) (fun u hu => ⟨_, rfl, ?_⟩))
  have um := enumT_in hu
  simp only [wipeE]
  show eB _ [.sh (aloneI K p), .sh (bk l), .sh (.int j), .sh (.int (cst t p)), .sh (.int u.2.2), .sh (tr (u.1, u.2.1))] = _
  by_cases c : u.2.2 = (j : Int)
  · repeat (first | simp only [f1, cost_of_sm (h.at um) hp, c] | walk_at "ev")
    simp
  · repeat (first | simp only [f1, cost_of_sm (h.at um) hp, c] | walk_at "ev")
    simp
theorem law_alone_eq {l : List Tr} {j : Nat} {t p : Tr} (h : Bk l) (hp : SmT p) (hj : l[j]? = some t) : f__law_alone K [bk l, .int j, tr p] = .ok (.bl (aloneB l j t p)) := by
  have tm := List.mem_of_getElem? hj
  refine run_rt ?_
  have e := eLC_filter (vs := [4, 5]) (bt := bTup (bsCons (bNm 4) (bsCons (bNm 5) bsNil))) (ft := bV (eOp neD (eVar 4) (eVar 1))) (fe := eVar 5) (fi := iE (aCons (eVar 0) aNil)) (env := [.sh (bk l), .sh (.int j), .sh (tr p), .no, .no, .no]) (enumT 0 l) (fun t => .tup [.int t.2.2, tr (t.1, t.2.1)]) (fun u => tr (u.1, u.2.1)) (fun u => !decide (u.2.2 = (j : Int))) (by rw [← enumT_enc]; rfl) (by rw [enumT_len]; exact Nat.le_trans h.len (by decide)) (fun u hu => ⟨_, rfl, by
    simp only [wipeE]
    walk_at "ev", fun _ => by
    simp only [wipeE]
    walk_at "ev"⟩)
  refine seq_set e (ret_of ?_)
  have e2 := all_lc (eLC_of (vs := [5]) (bt := bNm 5) (fe := eOp gtD (eCall (f__law_cost K) (aCons (eVar 5) (aCons (eVar 2) aNil))) (eCall (f__law_cost K) (aCons (eOp ixD (eVar 0) (eVar 1)) (aCons (eVar 2) aNil)))) (fi := iL (eVar 3)) (env := [.sh (bk l), .sh (.int j), .sh (tr p), .sh (.lst (((enumT 0 l).filter fun u => !decide (u.2.2 = (j : Int))).map fun u => tr (u.1, u.2.1))), .no, .no]) ((enumT 0 l).filter fun u => !decide (u.2.2 = (j : Int))) (fun u => tr (u.1, u.2.1)) (fun u => .bl (decide (cst t p < cst (u.1, u.2.1) p))) rfl (Nat.le_trans (List.length_filter_le _ _) (by rw [enumT_len]; exact Nat.le_trans h.len (by decide))) (fun u hu => ⟨_, rfl, by
    have um := enumT_in (List.mem_filter.mp hu).1
    simp only [wipeE]
    repeat (first | simp only [ix_bk hj, law_cost_eq (h.at um) hp, law_cost_eq (h.at tm) hp] | walk_at "ev")⟩))
  refine e2.trans ?_
  congr 2
  unfold aloneB
  rw [List.all_filter]
  congr 1
  funext u
  cases decide (u.2.2 = (j : Int)) <;> simp
theorem inV2 {j i k : Int} : inD (.int j) (.tup [.int i, .int k]) = some (.bl (decide (j = i) || decide (j = k))) := by
  show some (D.bl ((i == j) || ((k == j) || false))) = _
  rw [Bool.or_false]
  congr 2
  rw [Bool.eq_iff_iff]
  simp only [Bool.or_eq_true, beq_iff_eq, decide_eq_true_eq]
  constructor
  · rintro (e | e)
    · exact .inl e.symm
    · exact .inr e.symm
  · rintro (e | e)
    · exact .inl e.symm
    · exact .inr e.symm
theorem Needless_shows_eq {l : List Tr} {j : Nat} {t : Tr} {i k a b : Int} (h : Bk l) (sa : Sm a) (sb : Sm b) (hj : l[j]? = some t) : f_Needless_shows K [needI K i k a b, bk l, .int j] = .ok (.bl (needB l j t i k a b)) := by
  have tm := List.mem_of_getElem? hj
  have f1 := fld_Needless_one (K := K) (.int i) (.int k) (.int a) (.int b)
  have f2 := fld_Needless_other (K := K) (.int i) (.int k) (.int a) (.int b)
  have f3 := fld_Needless_first (K := K) (.int i) (.int k) (.int a) (.int b)
  have f4 := fld_Needless_second (K := K) (.int i) (.int k) (.int a) (.int b)
  unfold needB
  refine run_rt ?_
  have t1 : bV (eOp inD (eVar 2) (eTup (aCons (eFld (at_one K) "one" (eVar 0)) (aCons (eFld (at_other K) "other" (eVar 0)) aNil)))) [.sh (needI K i k a b), .sh (bk l), .sh (.int j)] = .ok (decide ((j : Int) = i) || decide ((j : Int) = k)) := by
    repeat (first | simp only [f1, f2, inV2] | walk_at "ev")
  cases c : (decide ((j : Int) = i) || decide ((j : Int) = k)) with
  | true => exact seq_ifT (by rw [← c]; exact t1) rfl
  | false =>
    refine seq_ifF (by rw [← c]; exact t1) (ret_of ?_)
    have e := is_mixture_eq (K := K) (i := i) (k := k) h (h.at tm) sa sb
    unfold rowD at e
    show eCall _ _ [.sh (needI K i k a b), .sh (bk l), .sh (.int j)] = _
    repeat (first | simp only [f1, f2, f3, f4, ix_bk hj, e] | walk_at "ev")
theorem law_needless_eq {l : List Tr} {j : Nat} {t : Tr} {i k a b : Int} (h : Bk l) (sa : Sm a) (sb : Sm b) (hj : l[j]? = some t) : f__law_needless K [bk l, .int j, rowD i k a b] = .ok (.bl (needB l j t i k a b)) := by
  have tm := List.mem_of_getElem? hj
  have r0 : ixD (rowD i k a b) (.int 0) = some (.int i) := rfl
  have r1 : ixD (rowD i k a b) (.int 1) = some (.int k) := rfl
  unfold needB
  refine run_rt (ret_of ?_)
  have e := law_mixture_eq (K := K) (i := i) (k := k) h (h.at tm) sa sb
  by_cases c0 : (j : Int) = i
  · repeat (first | simp only [r0, r1, c0] | walk_at "ev")
    simp
  · by_cases c1 : (j : Int) = k
    · repeat (first | simp only [r0, r1, c0, c1] | walk_at "ev")
      simp
    · repeat (first | simp only [r0, r1, c0, c1, ix_bk hj, e] | walk_at "ev")
      simp
theorem var_of {i : Nat} {d : D} {env : Env} (h : env[i]? = some (.sh d)) : eVar i env = .ok d := by
  unfold eVar
  rw [h]
theorem args2 {j k : Nat} {a b : D} {env : Env} (h1 : env[j]? = some (.sh a)) (h2 : env[k]? = some (.sh b)) : aCons (eVar j) (aCons (eVar k) aNil) env = .ok [a, b] := by
  unfold aCons aNil
  simp only [var_of h1, var_of h2, Res.bind_ok]
theorem am_lim {p : Tr} (sp : SmT p) : p.2.natAbs < lim := sm_lim sp.b
theorem Bk.rev {l : List Tr} (h : Bk l) : Bk l.reverse := ⟨fun z => h.ne (List.reverse_eq_nil_iff.mp z), by rw [List.length_reverse]; exact h.len, fun t ht => h.nn t (List.mem_reverse.mp ht), fun t ht => h.sm t (List.mem_reverse.mp ht)⟩
theorem enum_at {l : List Tr} {i : Nat} {d : D} (h : (enumFrom 0 (l.map tr))[i]? = some d) : ∃ t, l[i]? = some t ∧ d = .tup [.int (i : Nat), tr t] := by
  rw [enumFrom_get, List.getElem?_map] at h
  cases e : l[i]? with
  | none => rw [e] at h; cases h
  | some t =>
    rw [e] at h
    cases h
    exact ⟨t, rfl, by rw [Nat.zero_add]⟩
/-! ### ranges -/
/-- the books' bound -/
def Lb (l : List Tr) : Prop := ∀ t ∈ l, t.1 < 100000000000000000000000000000000000000000000000000 ∧ t.2 < 100000000000000000000000000000000000000000000000000
theorem next_of_eq {l : List Tr} {c : Nat} {tc : Tr} (h : Bk l) (hb : Lb l) (hc : l[c]? = some tc) :
    (f_next_of K [bk l, .int c] = .ok .non ∧ ∀ u ∈ l, tc.2 ≤ u.2) ∨ ∃ a b n tn, f_next_of K [bk l, .int c] = .ok (.tup [.int a, .int b, .int (n : Nat)]) ∧ Nxt l tc a b n tn := by
  have cm : tc ∈ l := List.mem_of_getElem? hc
  have cn := h.nn tc cm
  have cb := hb tc cm
  have smd : ∀ u ∈ l, Sm (u.1 - tc.1) ∧ Sm (tc.2 - u.2) := fun u hu => by
    have un := h.nn u hu
    have ub := hb u hu
    have big : (100000000000000000000000000000000000000000000000000 : Nat) < 2 ^ 250 := by decide
    exact ⟨by unfold Sm; omega, by unfold Sm; omega⟩
  let I : Nat → Env → Prop := fun n env => ∃ b w x y z, env = [.sh (bk l), .sh (.int c), .sh (encO b), w, x, y, z] ∧ NB l tc n b
  have z := for_rt (I := I) (R := fun _ => False) (ds := enumFrom 0 (l.map tr)) (fi := iE (aCons (eVar 0) aNil)) (bt := bTup (bsCons (bNm 3) (bsCons (bNm 4) bsNil))) (env := [.sh (bk l), .sh (.int c), .sh .non, .no, .no, .no, .no])
    (gb := (sIf (bV (eOp ltD (eOp ixD (eVar 4) (eC (.int 1))) (eOp ixD (eOp ixD (eVar 0) (eVar 1)) (eC (.int 1))))) (sSeq (sPar 5 6 (aCons (eOp subD (eOp ixD (eVar 4) (eC (.int 0))) (eOp ixD (eOp ixD (eVar 0) (eVar 1)) (eC (.int 0)))) (aCons (eOp subD (eOp ixD (eOp ixD (eVar 0) (eVar 1)) (eC (.int 1))) (eOp ixD (eVar 4) (eC (.int 1)))) aNil)))
    (sIf (bOr (bV (eOp isD (eVar 2) (eC .non))) (bV (eOp ltD (eOp mulD (eVar 5) (eOp ixD (eVar 2) (eC (.int 1)))) (eOp mulD (eOp ixD (eVar 2) (eC (.int 0))) (eVar 6))))) (sAsg (eTup (aCons (eVar 5) (aCons (eVar 6) (aCons (eVar 3) aNil)))) (bNm 2)) (sIf (bAnd (bV (eOp eqD (eOp mulD (eVar 5) (eOp ixD (eVar 2) (eC (.int 1)))) (eOp mulD (eOp ixD (eVar 2) (eC (.int 0))) (eVar 6)))) (bV (eOp ltD (eOp ixD (eVar 4) (eC (.int 1))) (eOp ixD (eOp ixD (eVar 0) (eOp ixD (eVar 2) (eC (.int 2)))) (eC (.int 1)))))) (sAsg (eTup (aCons (eVar 5) (aCons (eVar 6) (aCons (eVar 3) aNil)))) (bNm 2)) sNil))) sNil))
    rfl ⟨none, _, _, _, _, rfl, NB.zero⟩ (fun i d env hd hI => by
      obtain ⟨b, w, x, y, z, rfl, hb'⟩ := hI
      obtain ⟨u, hu, rfl⟩ := enum_at hd
      have um : u ∈ l := List.mem_of_getElem? hu
      obtain ⟨s1, s2⟩ := smd u um
      refine ⟨_, rfl, .inl ?_⟩
      by_cases c1 : u.2 < tc.2
      · have set : ∀ w, [Sl.sh (bk l), .sh (.int c), .sh w, .sh (.int i), .sh (tr u), .sh (.int (u.1 - tc.1)), .sh (.int (tc.2 - u.2))].set 2 (.sh (.tup [.int (u.1 - tc.1), .int (tc.2 - u.2), .int i])) = [.sh (bk l), .sh (.int c), .sh (encO (some (u.1 - tc.1, tc.2 - u.2, i))), .sh (.int i), .sh (tr u), .sh (.int (u.1 - tc.1)), .sh (.int (tc.2 - u.2))] := fun _ => rfl
        cases b with
        | none =>
          refine ⟨[.sh (bk l), .sh (.int c), .sh (encO (some (u.1 - tc.1, tc.2 - u.2, i))), .sh (.int i), .sh (tr u), .sh (.int (u.1 - tc.1)), .sh (.int (tc.2 - u.2))], ?_, _, _, _, _, _, rfl, hb'.first hu c1⟩
          simp only [encO]
          repeat (first | simp only [c1, ix_bk hc, isD, isB] | walk_at "ev")
        | some b =>
          obtain ⟨a, e, j⟩ := b
          obtain ⟨hj, tn, ht, h2, h3, h4, h5⟩ := hb'.cns a e j rfl
          have tm : tn ∈ l := List.mem_of_getElem? ht
          obtain ⟨s3, s4⟩ := smd tn tm
          have m1 := mulD_int (mulOk_sm s1 (by rw [h4]; exact s4 : Sm e))
          have m2 := mulD_int (mulOk_sm (by rw [h3]; exact s3 : Sm a) s2)
          by_cases c2 : (u.1 - tc.1) * e < a * (tc.2 - u.2)
          · refine ⟨[.sh (bk l), .sh (.int c), .sh (encO (some (u.1 - tc.1, tc.2 - u.2, i))), .sh (.int i), .sh (tr u), .sh (.int (u.1 - tc.1)), .sh (.int (tc.2 - u.2))], ?_, _, _, _, _, _, rfl, hb'.less hu c1 c2⟩
            simp only [encO]
            repeat (first | simp only [c1, c2, ix_bk hc, isD, isB, ix30, ix31, ix32, m1, m2] | walk_at "ev")
          · by_cases c3 : (u.1 - tc.1) * e = a * (tc.2 - u.2)
            · by_cases c4 : u.2 < tn.2
              · refine ⟨[.sh (bk l), .sh (.int c), .sh (encO (some (u.1 - tc.1, tc.2 - u.2, i))), .sh (.int i), .sh (tr u), .sh (.int (u.1 - tc.1)), .sh (.int (tc.2 - u.2))], ?_, _, _, _, _, _, rfl, hb'.tie hu c1 c3 ht c4⟩
                simp only [encO]
                repeat (first | simp only [c1, c3, c4, ix_bk hc, ix_bk ht, isD, isB, ix30, ix31, ix32, m1, m2, Int.lt_irrefl] | walk_at "ev")
              · refine ⟨[.sh (bk l), .sh (.int c), .sh (encO (some (a, e, j))), .sh (.int i), .sh (tr u), .sh (.int (u.1 - tc.1)), .sh (.int (tc.2 - u.2))], ?_, _, _, _, _, _, rfl, hb'.keep hu c1 ht c2 (fun z => c4 z.2)⟩
                simp only [encO]
                repeat (first | simp only [c1, c3, c4, ix_bk hc, ix_bk ht, isD, isB, ix30, ix31, ix32, m1, m2, Int.lt_irrefl] | walk_at "ev")
            · refine ⟨[.sh (bk l), .sh (.int c), .sh (encO (some (a, e, j))), .sh (.int i), .sh (tr u), .sh (.int (u.1 - tc.1)), .sh (.int (tc.2 - u.2))], ?_, _, _, _, _, _, rfl, hb'.keep hu c1 ht c2 (fun z => c3 z.1)⟩
              simp only [encO]
              repeat (first | simp only [c1, c2, c3, ix_bk hc, ix_bk ht, isD, isB, ix30, ix31, ix32, m1, m2] | walk_at "ev")
      · refine ⟨[.sh (bk l), .sh (.int c), .sh (encO b), .sh (.int i), .sh (tr u), y, z], ?_, _, _, _, _, _, rfl, hb'.skip hu c1⟩
        repeat (first | simp only [c1, ix_bk hc] | walk_at "ev"))
  have len : (enumFrom 0 (l.map tr)).length = l.length := by rw [enumFrom_len, List.length_map]
  rcases z with ⟨e, z, b, w, x, y, v, rfl, hb'⟩ | ⟨d, z, hj⟩
  · rw [len] at hb'
    have run : f_next_of K [bk l, .int c] = .ok (encO b) := run_rt (seq_set (d := .non) rfl (seq_nx z (ret_of rfl)))
    cases b with
    | none =>
      left
      refine ⟨run, fun u hu => ?_⟩
      obtain ⟨i, hi, eu⟩ := List.getElem_of_mem hu
      exact hb'.nil rfl i u hi (by rw [List.getElem?_eq_getElem hi, eu])
    | some b =>
      right
      obtain ⟨a, e, j⟩ := b
      obtain ⟨hj, tn, ht, h2, h3, h4, h5⟩ := hb'.cns a e j rfl
      refine ⟨a, e, j, tn, run, ht, h2, h3, h4, fun u hu hl => ?_⟩
      obtain ⟨i, hi, eu⟩ := List.getElem_of_mem hu
      exact h5 i u hi (by rw [List.getElem?_eq_getElem hi, eu]) hl
  · exact hj.elim
def encP (ps : List Nat) : D := .lst (ps.map fun (j : Nat) => .int j)
/-- the last one is cheapest by the piece -/
def LastMin (l : List Tr) (ps : List Nat) : Prop := ∃ c tc, ps[ps.length - 1]? = some c ∧ l[c]? = some tc ∧ ∀ u ∈ l, tc.2 ≤ u.2
theorem ranges_loop {l : List Tr} (h : Bk l) (hb : Lb l) : ∀ (fuel : Nat) (bs : List Tr) (ps : List Nat) (p : Tr) (c : Nat) (tc : Tr) (w x y : Sl) (d : D), Rg l bs ps → (∀ p ∈ bs, SmT p) → bs[bs.length - 1]? = some p → ps[ps.length - 1]? = some c → Cur l p c tc → less l tc.2 < fuel → ps.length + less l tc.2 ≤ l.length →
    f_next_of K [bk l, .int c] = .ok d →
    ∃ bs' ps', whileS (bV (eOp isnD (eVar 6) (eC .non))) (sSeq (sApp 4 (eCall (f_lowest K) (aCons (eOp ixD (eVar 6) (eC (.int 0))) (aCons (eOp ixD (eVar 6) (eC (.int 1))) aNil))))
    (sSeq (sApp 5 (eOp ixD (eVar 6) (eC (.int 2))))
    (sAsg (eCall (f_next_of K) (aCons (eVar 0) (aCons (eOp ixD (eVar 6) (eC (.int 2))) aNil))) (bNm 6)))) fuel [.sh (bk l), w, x, y, .ow (bs.map tr), .ow (ps.map fun (j : Nat) => .int j), .sh d] = .ok (.nx [.sh (bk l), w, x, y, .ow (bs'.map tr), .ow (ps'.map fun (j : Nat) => .int j), .sh .non]) ∧ Rg l bs' ps' ∧ (∀ p ∈ bs', SmT p) ∧ LastMin l ps' ∧ ps'.length ≤ l.length
  | 0, _, _, _, _, _, _, _, _, _, _, _, _, _, _, hf, _, _ => absurd hf (Nat.not_lt_zero _)
  | fuel + 1, bs, ps, p, c, tc, w, x, y, d, R, S, hp, hc, C, hf, hl, hd => by
    rcases next_of_eq (K := K) h hb C.at_ with ⟨e, last⟩ | ⟨a, b, n, tn, e, N⟩
    · rw [e] at hd
      cases hd
      refine ⟨bs, ps, ?_, R, S, ⟨c, tc, hc, C.at_, last⟩, by omega⟩
      unfold whileS
      repeat (first | simp only [isnD, isB] | walk_at "ev")
    · rw [e] at hd
      cases hd
      obtain ⟨a0, b0, _⟩ := nxt_pos C N
      have St := nxt_step C N
      have tm : tn ∈ l := List.mem_of_getElem? N.at_
      have cm : tc ∈ l := List.mem_of_getElem? C.at_
      have nn := h.nn tn tm
      have nb := hb tn tm
      have cn := h.nn tc cm
      have cb := hb tc cm
      have sa : Sm a := sm_lt a0 (by have := N.ea; omega)
      have sb : Sm b := sm_lt (Int.le_of_lt b0) (by have := N.eb; omega)
      have sl := low_sm a0 b0 sa sb
      have lt := less_lt tm N.lt
      have R2 := R.snoc hp hc C.at_ St
      have lb : bs.length = ps.length := R.len
      have hz : bs.length < 1000 := by
        have := h.len
        have := less_len cm
        omega
      obtain ⟨bs', ps', e2, rest⟩ := ranges_loop h hb fuel (bs ++ [low a b]) (ps ++ [n]) (low a b) n tn w x y (match f_next_of K [bk l, .int n] with | .ok d => d | _ => .non) R2 (fun q hq => by
        rcases List.mem_append.mp hq with hq | hq
        · exact S q hq
        · obtain rfl := List.mem_singleton.mp hq
          exact ⟨sl.1, sl.2⟩) (by rw [List.length_append, List.getElem?_append_right (by show _ ≤ bs.length + 1 - 1; omega)]; show [low a b][bs.length + 1 - 1 - bs.length]? = _; rw [show bs.length + 1 - 1 - bs.length = 0 by omega]; rfl) (by rw [List.length_append, List.getElem?_append_right (by show _ ≤ ps.length + 1 - 1; omega)]; show [n][ps.length + 1 - 1 - ps.length]? = _; rw [show ps.length + 1 - 1 - ps.length = 0 by omega]; rfl) St.cur (by omega) (by rw [List.length_append]; show ps.length + 1 + _ ≤ _; omega) (by
        rcases next_of_eq (K := K) h hb N.at_ with ⟨e, _⟩ | ⟨_, _, _, _, e, _⟩ <;> rw [e])
      refine ⟨bs', ps', ?_, rest⟩
      rw [← e2]
      have stepB : (sSeq (sApp 4 (eCall (f_lowest K) (aCons (eOp ixD (eVar 6) (eC (.int 0))) (aCons (eOp ixD (eVar 6) (eC (.int 1))) aNil))))
    (sSeq (sApp 5 (eOp ixD (eVar 6) (eC (.int 2))))
    (sAsg (eCall (f_next_of K) (aCons (eVar 0) (aCons (eOp ixD (eVar 6) (eC (.int 2))) aNil))) (bNm 6)))) [.sh (bk l), w, x, y, .ow (bs.map tr), .ow (ps.map fun (j : Nat) => .int j), .sh (.tup [.int a, .int b, .int (n : Nat)])] = .ok (.nx [.sh (bk l), w, x, y, .ow ((bs ++ [low a b]).map tr), .ow ((ps ++ [n]).map fun (j : Nat) => .int j), .sh (match f_next_of K [bk l, .int n] with | .ok d => d | _ => .non)]) := by
        refine seq_app (ds := bs.map tr) (d := tr (low a b)) rfl (by rw [List.length_map]; omega) (by repeat (first | simp only [ix30, ix31, lowest_eq a0 b0 (sm_lim sb)] | walk_at "ev")) ?_
        refine seq_app (ds := ps.map fun (j : Nat) => .int j) (d := .int n) rfl (by rw [List.length_map]; omega) (by
          show eOp _ _ _ [.sh (bk l), w, x, y, .ow (bs.map tr ++ [tr (low a b)]), .ow (ps.map fun (j : Nat) => .int j), .sh (.tup [.int a, .int b, .int (n : Nat)])] = _
          repeat (first | simp only [ix32] | walk_at "ev")) ?_
        show sAsg _ _ [.sh (bk l), w, x, y, .ow (bs.map tr ++ [tr (low a b)]), .ow ((ps.map fun (j : Nat) => D.int j) ++ [.int n]), .sh (.tup [.int a, .int b, .int (n : Nat)])] = _
        rw [List.map_append, List.map_append]
        rcases next_of_eq (K := K) h hb N.at_ with ⟨e, _⟩ | ⟨_, _, _, _, e, _⟩
        · repeat (first | simp only [ix32, e] | walk_at "ev")
        · repeat (first | simp only [ix32, e] | walk_at "ev")
      show (Res.bind _ _) = _
      have t1 : bV (eOp isnD (eVar 6) (eC .non)) [.sh (bk l), w, x, y, .ow (bs.map tr), .ow (ps.map fun (j : Nat) => .int j), .sh (.tup [.int a, .int b, .int (n : Nat)])] = .ok true := rfl
      rw [t1, Res.bind_ok, if_pos rfl, stepB]
theorem ranges_of_eq {l : List Tr} (h : Bk l) (hb : Lb l) : ∃ bs ps, f_ranges_of K [bk l] = .ok (.tup [bk bs, encP ps]) ∧ Rg l bs ps ∧ (∀ p ∈ bs, SmT p) ∧ LastMin l ps ∧ ps.length ≤ l.length := by
  cases e : enumT 0 l with
  | nil =>
    have := enumT_len 0 l
    rw [e] at this
    exact absurd (List.eq_nil_of_length_eq_zero this.symm) h.ne
  | cons t ts =>
    obtain ⟨c, tc, e1, C⟩ := first_of e
    have cm : tc ∈ l := List.mem_of_getElem? C.at_
    obtain ⟨d, hd⟩ : ∃ d, f_next_of K [bk l, .int c] = .ok d := by
      rcases next_of_eq (K := K) h hb C.at_ with ⟨e, _⟩ | ⟨_, _, _, _, e, _⟩ <;> exact ⟨_, e⟩
    have lc := eLC_of (vs := [2, 3]) (bt := bTup (bsCons (bNm 2) (bsCons (bNm 3) bsNil))) (fe := eTup (aCons (eVar 3) (aCons (eVar 2) aNil))) (fi := iE (aCons (eVar 0) aNil)) (env := [.sh (bk l), .no, .no, .no, .no, .no, .no]) (enumT 0 l) (fun t => .tup [.int t.2.2, tr (t.1, t.2.1)]) enc3 (by rw [← enumT_enc]; rfl) (by rw [enumT_len]; exact Nat.le_trans h.len (by decide)) (fun t _ => ⟨_, rfl, by
      simp only [wipeE]
      walk_at "ev"
      rfl⟩)
    obtain ⟨bs, ps, e2, R, S, L, hl⟩ := ranges_loop (K := K) h hb (l.length + 1) [(0, 1)] [c] (0, 1) c tc (.sh (.int c)) .no .no d (Rg.start C) (fun p hp => by
      obtain rfl := List.mem_singleton.mp hp
      exact ⟨sm_small (by decide), sm_small (by decide)⟩) rfl rfl C (by have := less_len cm; omega) (by have := less_len cm; show 1 + _ ≤ _; omega) hd
    refine ⟨bs, ps, run_rt ?_, R, S, L, hl⟩
    have mn : minTD [.lst ((enumT 0 l).map enc3)] = some (enc3 (min3 t ts)) := by
      show (match decs3 ((enumT 0 l).map enc3) with
        | some (t :: ts) => some (enc3 (min3 t ts))
        | _ => none) = _
      rw [decs3_map, e]
    refine seq_set (d := .int c) ?_ ?_
    · refine op_of (fn1 lc mn) rfl ?_
      rw [← e1]
      rfl
    refine seq_nx (e := [.sh (bk l), .sh (.int c), .no, .no, .ow [tr (0, 1)], .ow [.int c], .no]) rfl ?_
    refine seq_set (d := d) (by repeat (first | simp only [hd] | walk_at "ev")) ?_
    refine seq_nx (e := [.sh (bk l), .sh (.int c), .no, .no, .ow (bs.map tr), .ow (ps.map fun (j : Nat) => .int j), .sh .non]) ?_ rfl
    show whileS _ _ ((l.map tr).length + 1) _ = _
    rw [List.length_map]
    exact e2
/-! ### ranges shown -/
abbrev rngI (K : PySem.W.Frag) (bs : List Tr) (ps : List Int) : D := .ins (ga K "Ranges") [("begins", .lst (bs.map tr)), ("places", .lst (ps.map D.int))]
def leastB (l : List Tr) (j : Int) (p : Tr) : Bool := match l[j.toNat]? with
  | some t => l.all fun u => decide (cst t p ≤ cst u p)
  | none => false
def minB (l : List Tr) (j : Int) : Bool := match l[j.toNat]? with
  | some t => l.all fun u => decide (t.2 ≤ u.2)
  | none => false
def okP (l : List Tr) (j : Int) : Bool := decide (0 ≤ j) && decide (j < l.length)
def bAt (bs : List Tr) (i : Nat) : Tr := bs.getD i (0, 1)
def pAt (ps : List Int) (i : Nat) : Int := ps.getD i 0
def stepB (l : List Tr) (bs : List Tr) (ps : List Int) (i : Nat) : Bool := (decide ((bAt bs i).1 * (bAt bs (i + 1)).2 < (bAt bs (i + 1)).1 * (bAt bs i).2) && !decide (pAt ps i = pAt ps (i + 1))) && (leastB l (pAt ps i) (bAt bs i) && leastB l (pAt ps i) (bAt bs (i + 1)))
def rangesB (l : List Tr) (bs : List Tr) (ps : List Int) : Bool := (decide (ps ≠ []) && (decide (bs.length = ps.length) && decide (bAt bs 0 = (0, 1)))) && (ps.all (okP l) && ((List.range (ps.length - 1)).all (stepB l bs ps) && (leastB l (pAt ps (ps.length - 1)) (bAt bs (bs.length - 1)) && minB l (pAt ps (ps.length - 1)))))
theorem bAt_get {bs : List Tr} {i : Nat} (h : i < bs.length) : bs[i]? = some (bAt bs i) := by
  unfold bAt
  rw [List.getD_eq_getElem?_getD, List.getElem?_eq_getElem h]
  rfl
theorem pAt_get {ps : List Int} {i : Nat} (h : i < ps.length) : ps[i]? = some (pAt ps i) := by
  unfold pAt
  rw [List.getD_eq_getElem?_getD, List.getElem?_eq_getElem h]
  rfl
theorem ixL {α : Type} {f : α → D} {xs : List α} {i : Nat} {x : α} (h : xs[i]? = some x) : ixD (.lst (xs.map f)) (.int (i : Int)) = some (f x) := atI_map f h
theorem ixL1 {α : Type} {f : α → D} {xs : List α} {x : α} (h : xs[xs.length - 1]? = some x) : ixD (.lst (xs.map f)) (.int (-1)) = some (f x) := by
  show atI (xs.map f) (-1) = _
  refine atI_neg1 ?_
  rw [List.length_map, List.getElem?_map, h]
  rfl
theorem okP_iff {l : List Tr} {j : Int} : okP l j = true ↔ 0 ≤ j ∧ j < l.length := by
  unfold okP
  simp only [Bool.and_eq_true, decide_eq_true_eq]
theorem leastB_of {l : List Tr} {j : Int} {t p : Tr} (h : l[j.toNat]? = some t) : leastB l j p = l.all fun u => decide (cst t p ≤ cst u p) := by
  unfold leastB
  rw [h]
theorem minB_of {l : List Tr} {j : Int} {t : Tr} (h : l[j.toNat]? = some t) : minB l j = l.all fun u => decide (t.2 ≤ u.2) := by
  unfold minB
  rw [h]
theorem min_eq {l : List Tr} {f : Tr → Int} {t : Tr} (ht : t ∈ l) : decide (minL (l.map f) = f t) = l.all fun u => decide (f t ≤ f u) := by
  have hm : f t ∈ l.map f := List.mem_map_of_mem ht
  have ne : l.map f ≠ [] := fun z => by rw [z] at hm; cases hm
  rw [Bool.eq_iff_iff, List.all_eq_true, decide_eq_true_eq]
  constructor
  · intro e u hu
    rw [← e]
    exact decide_eq_true (minL_le (List.mem_map_of_mem hu))
  · intro z
    have h1 := minL_le hm
    obtain ⟨u, hu, e⟩ := List.mem_map.mp (minL_mem ne)
    have h2 := of_decide_eq_true (z u hu)
    omega
theorem is_least_eq {l : List Tr} {bs : List Tr} {ps : List Int} {i : Nat} {j : Int} {p : Tr} (h : Bk l) (hp : SmT p) (hi : ps[i]? = some j) (hj : okP l j = true) : f_Ranges_is_least K [rngI K bs ps, bk l, .int i, tr p] = .ok (.bl (leastB l j p)) := by
  obtain ⟨j0, j1⟩ := okP_iff.mp hj
  obtain ⟨t, ht, tm, hx⟩ := at_of j0 j1
  have f2 := fld_Ranges_places (K := K) (bs.map tr) (ps.map D.int)
  refine run_rt (ret_of ?_)
  rw [leastB_of ht, ← min_eq (f := fun u => cst u p) tm]
  refine op_of (a := .int (cst t p)) (b := .int (minL (l.map fun u => cst u p))) ?_ (min_lc (eLC_of l tr (fun u => .int (cst u p)) rfl (Nat.le_trans h.len (by decide)) fun u hu => ⟨_, rfl, ?_⟩) h.ne) ?_
  · show eCall _ _ [.sh (rngI K bs ps), .sh (bk l), .sh (.int i), .sh (tr p), .no] = _
    repeat (first | simp only [f2, ixL hi, hx, cost_of_sm (h.at tm) hp] | walk_at "ev")
  · simp only [wipeE]
    repeat (first | simp only [cost_of_sm (h.at hu) hp] | walk_at "ev")
  · rw [eqD_int]
    congr 2
    rw [Bool.eq_iff_iff, decide_eq_true_eq, decide_eq_true_eq]
    exact ⟨fun e => e.symm, fun e => e.symm⟩
theorem eqD_l0 {α : Type} {f : α → D} {xs : List α} {p : α → PyData} (hf : ∀ x, toPy (f x) = some (p x)) (hs : ∀ ys : List α, SeqAt.shaped (.list (ys.map p)) = true) : eqD (.lst (xs.map f)) (.lst []) = some (.bl (decide (xs = []))) := by
  have tp : ∀ ys : List α, toPys (ys.map f) = some (ys.map p) := fun ys => by
    induction ys with
    | nil => rfl
    | cons y ys ih =>
      show (match toPy (f y), toPys (ys.map f) with | some a, some b => some (a :: b) | _, _ => none) = _
      rw [hf, ih]
      rfl
  unfold eqD eqB
  show Option.map D.bl (match (toPys (xs.map f)).map PyData.list, some (PyData.list []) with
    | some x, some y => if (SeqAt.shaped x && SeqAt.shaped y) = true then some (PyData.eqv x y) else none
    | _, _ => none) = _
  rw [tp]
  show Option.map D.bl (if (SeqAt.shaped (.list (xs.map p)) && SeqAt.shaped (.list [])) = true then some (PyData.eqvAll (xs.map p) []) else none) = _
  rw [hs]
  cases xs with
  | nil => rfl
  | cons x xs => rfl
theorem canLay_ints : ∀ ns : List Int, PyData.canLayAll0 (ns.map PyData.int) = true
  | [] => rfl
  | n :: ns => by
    show ((PyData.int n).canLay0 && PyData.canLayAll0 (ns.map PyData.int)) = true
    rw [canLay_ints ns]
    rfl
theorem depth_ints : ∀ ns : List Int, PyData.depthAll (ns.map PyData.int) ≤ 0
  | [] => Nat.le_refl _
  | n :: ns => by
    show max (PyData.depth (.int n)) (PyData.depthAll (ns.map PyData.int)) ≤ 0
    have := depth_ints ns
    have h : PyData.depth (.int n) = 0 := rfl
    omega
theorem shaped_ints (ns : List Int) : SeqAt.shaped (.list (ns.map PyData.int)) = true := by
  show (PyData.canLayAll0 (ns.map PyData.int) && decide (PyData.depthAll (ns.map PyData.int) + 1 ≤ 64)) = true
  rw [canLay_ints, decide_eq_true (by have := depth_ints ns; omega)]
  rfl
theorem eqD_ints0 {ps : List Int} : eqD (.lst (ps.map D.int)) (.lst []) = some (.bl (decide (ps = []))) := eqD_l0 (fun _ => rfl) shaped_ints
theorem all_okP {l : List Tr} {ps : List Int} (h : ps.all (okP l) = true) {i : Nat} {j : Int} (hi : ps[i]? = some j) : okP l j = true := List.all_eq_true.mp h j (List.mem_of_getElem? hi)
theorem lenI {α : Type} {f : α → D} {xs : List α} : lenD [.lst (xs.map f)] = some (.int xs.length) := by
  show some (D.int ((xs.map f).length : Int)) = _
  rw [List.length_map]
theorem and_eq {a b : Bool} : (a && b) = (if a = true then b else false) := by cases a <;> rfl
theorem shows_start {l : List Tr} {bs : List Tr} {ps : List Int} {g : Env → Res Fl} (h : Bk l) (hl : ps.length ≤ 100000) (hg : ps ≠ [] → bs.length = ps.length → bAt bs 0 = (0, 1) → ps.all (okP l) = true → g [.sh (rngI K bs ps), .sh (bk l), .sh (.int ps.length), .no, .no, .no, .no, .no] = .ok (.rt (.bl ((List.range (ps.length - 1)).all (stepB l bs ps) && (leastB l (pAt ps (ps.length - 1)) (bAt bs (bs.length - 1)) && minB l (pAt ps (ps.length - 1))))))) :
    (sSeq (sIf (bOr (bV (eOp eqD (eVar 2) (eC (.int 0)))) (bOr (bV (eOp neD (eFn lenD (aCons (eFld (at_begins K) "begins" (eVar 0)) aNil)) (eVar 2))) (bV (eOp neD (eOp ixD (eFld (at_begins K) "begins" (eVar 0)) (eC (.int 0))) (eC c_NONE))))) (sRet (eC (.bl false))) sNil)
    (sSeq (sIf (bNot (bV (eFn allD (aCons (eLC [3] (bNm 3) bYes (eChain leD ltD (eC (.int 0)) (eVar 3) (eFn lenD (aCons (eVar 1) aNil))) (iL (eFld (at_places K) "places" (eVar 0)))) aNil)))) (sRet (eC (.bl false))) sNil) g)) [.sh (rngI K bs ps), .sh (bk l), .sh (.int ps.length), .no, .no, .no, .no, .no] = .ok (.rt (.bl (rangesB l bs ps))) := by
  have f1 := fld_Ranges_begins (K := K) (bs.map tr) (ps.map D.int)
  have f2 := fld_Ranges_places (K := K) (bs.map tr) (ps.map D.int)
  unfold rangesB
  by_cases c0 : ps = []
  · rw [decide_eq_false (by simpa using c0)]
    have e : ((ps.length : Int) = 0) := by rw [c0]; rfl
    exact seq_ifT (by repeat (first | simp only [e] | walk_at "ev")) rfl
  · have n0 : ¬ ((ps.length : Int) = 0) := by
      have := List.length_pos_iff.mpr c0
      omega
    rw [decide_eq_true c0]
    by_cases c1 : bs.length = ps.length
    · have c1' : (bs.length : Int) = ps.length := by omega
      have b0 : bs[0]? = some (bAt bs 0) := bAt_get (by rw [c1]; exact List.length_pos_iff.mpr c0)
      have x0 : ixD (.lst (bs.map tr)) (.int 0) = some (tr (bAt bs 0)) := ixL b0
      rw [decide_eq_true c1]
      by_cases c2 : bAt bs 0 = (0, 1)
      · rw [decide_eq_true c2]
        refine seq_ifF (by repeat (first | simp only [n0, f1, lenI, c1', x0, c2, NONE_tr] | walk_at "ev")) ?_
        have e := all_lc (eLC_of (vs := [3]) (bt := bNm 3) (fe := eChain leD ltD (eC (.int 0)) (eVar 3) (eFn lenD (aCons (eVar 1) aNil))) (fi := iL (eFld (at_places K) "places" (eVar 0))) (env := [.sh (rngI K bs ps), .sh (bk l), .sh (.int ps.length), .no, .no, .no, .no, .no]) ps D.int (fun j => .bl (okP l j)) (by repeat (first | simp only [f2] | walk_at "ev")) (by omega) (fun j hj => ⟨_, rfl, by
          simp only [wipeE]
          unfold okP
          rcases place_cases l j with d0 | ⟨d0, d1⟩ | ⟨d0, d1⟩
          · repeat (first | simp only [d0] | walk_at "ev")
          · repeat (first | simp only [d0, d1] | walk_at "ev")
          · repeat (first | simp only [d0, d1] | walk_at "ev")⟩))
        cases c3 : ps.all (okP l) with
        | true =>
          rw [c3] at e
          refine seq_ifF (bNot_of (b := true) (bV_of e)) ?_
          simp only [Bool.true_and]
          exact hg c0 c1 c2 c3
        | false =>
          rw [c3] at e
          exact seq_ifT (bNot_of (b := false) (bV_of e)) rfl
      · rw [decide_eq_false c2]
        exact seq_ifT (by repeat (first | simp only [n0, f1, lenI, c1', x0, c2, NONE_tr] | walk_at "ev")) rfl
    · have c1' : ¬ (bs.length : Int) = ps.length := by omega
      rw [decide_eq_false c1]
      exact seq_ifT (by repeat (first | simp only [n0, f1, lenI, c1'] | walk_at "ev")) rfl
theorem Ranges_shows_eq {l : List Tr} {bs : List Tr} {ps : List Int} (h : Bk l) (hb : ∀ p ∈ bs, SmT p) (hl : ps.length ≤ 100000) : f_Ranges_shows K [rngI K bs ps, bk l] = .ok (.bl (rangesB l bs ps)) := by
  have f1 := fld_Ranges_begins (K := K) (bs.map tr) (ps.map D.int)
  have f2 := fld_Ranges_places (K := K) (bs.map tr) (ps.map D.int)
  refine run_rt ?_
  refine seq_set (d := .int ps.length) (by repeat (first | simp only [f2, lenI] | walk_at "ev")) ?_
  refine shows_start h hl fun c0 c1 c2 c3 => ?_
  have pos := List.length_pos_iff.mpr c0
  have st : ∀ i : Nat, i < ps.length → SmT (bAt bs i) := fun i hi => hb _ (List.mem_of_getElem? (bAt_get (by omega)))
  have pk : ∀ i : Nat, i < ps.length → okP l (pAt ps i) = true := fun i hi => all_okP c3 (pAt_get hi)
  have least : ∀ (i : Nat) (p : Tr) (fa fb fc : Env → Res D) (env : Env), i < ps.length → SmT p → fa env = .ok (bk l) → fb env = .ok (.int i) → fc env = .ok (tr p) → env[0]? = some (.sh (rngI K bs ps)) → eMth (ga K "Ranges") "is_least" (f_Ranges_is_least K) (eVar 0) (aCons fa (aCons fb (aCons fc aNil))) env = .ok (.bl (leastB l (pAt ps i) p)) := fun i p fa fb fc env hi sp h1 h2 h3 h0 =>
    mth_hit (var_of h0) (by unfold aCons aNil; simp only [h1, h2, h3, Res.bind_ok]) (is_least_eq h sp (pAt_get hi) (pk i hi)) rfl
  have ib : ∀ i : Nat, i < ps.length → ixD (.lst (bs.map tr)) (.int (i : Int)) = some (tr (bAt bs i)) := fun i hi => ixL (bAt_get (by omega))
  have ip : ∀ i : Nat, i < ps.length → ixD (.lst (ps.map D.int)) (.int (i : Int)) = some (.int (pAt ps i)) := fun i hi => ixL (pAt_get hi)
  have rng : iR2 (aCons (eC (.int 1)) (aCons (eVar 2) aNil)) [.sh (rngI K bs ps), .sh (bk l), .sh (.int ps.length), .no, .no, .no, .no, .no] = .ok ((List.range (ps.length - 1)).map fun (i : Nat) => .int (1 + (i : Int))) := by
    unfold iR2
    walk_at "ev"
    rw [if_pos (by omega)]
    unfold rangeD
    rw [show ((ps.length : Int) - 1).toNat = ps.length - 1 by omega]
  refine (for_checkK (List.range (ps.length - 1)) (fun (i : Nat) => .int (1 + (i : Int))) (stepB l bs ps) (fun env => ∃ a4 a5 a6, env = [Sl.sh (rngI K bs ps), .sh (bk l), .sh (.int ps.length), .no, a4, a5, a6, .no]) (d0 := .bl false) (d1 := .bl (leastB l (pAt ps (ps.length - 1)) (bAt bs (bs.length - 1)) && minB l (pAt ps (ps.length - 1)))) rng ⟨_, _, _, rfl⟩ (fun i hi env he => ?_) (fun e he => ?_)).trans ?_
  · obtain ⟨a4, a5, a6, rfl⟩ := he
    have hi : i + 1 < ps.length := by
      have := List.mem_range.mp hi
      omega
    have e1 : (1 + (i : Int)) - 1 = (i : Int) := by omega
    have e2 : (1 + (i : Int)) = ((i + 1 : Nat) : Int) := by omega
    have s1 := st i (by omega)
    have s2 := st (i + 1) hi
    have m1 := mulD_int (mulOk_sm s1.a s2.b)
    have m2 := mulD_int (mulOk_sm s2.a s1.b)
    have first : ∀ r, (sSeq (sIf (bOr (bV (eOp geD (eOp mulD (eOp ixD (eVar 5) (eC (.int 0))) (eOp ixD (eVar 6) (eC (.int 1)))) (eOp mulD (eOp ixD (eVar 6) (eC (.int 0))) (eOp ixD (eVar 5) (eC (.int 1)))))) (bV (eOp eqD (eOp ixD (eFld (at_places K) "places" (eVar 0)) (eOp subD (eVar 4) (eC (.int 1)))) (eOp ixD (eFld (at_places K) "places" (eVar 0)) (eVar 4))))) (sRet (eC (.bl false))) sNil)
    (sIf (bOr (bNot (bV (eMth (ga K "Ranges") "is_least" (f_Ranges_is_least K) (eVar 0) (aCons (eVar 1) (aCons (eOp subD (eVar 4) (eC (.int 1))) (aCons (eVar 5) aNil)))))) (bNot (bV (eMth (ga K "Ranges") "is_least" (f_Ranges_is_least K) (eVar 0) (aCons (eVar 1) (aCons (eOp subD (eVar 4) (eC (.int 1))) (aCons (eVar 6) aNil))))))) (sRet (eC (.bl false))) sNil)) [.sh (rngI K bs ps), .sh (bk l), .sh (.int ps.length), .no, .sh (.int ((i + 1 : Nat) : Int)), .sh (tr (bAt bs i)), .sh (tr (bAt bs (i + 1))), .no] = r → (sSeq (sPar 5 6 (aCons (eOp ixD (eFld (at_begins K) "begins" (eVar 0)) (eOp subD (eVar 4) (eC (.int 1)))) (aCons (eOp ixD (eFld (at_begins K) "begins" (eVar 0)) (eVar 4)) aNil)))
    (sSeq (sIf (bOr (bV (eOp geD (eOp mulD (eOp ixD (eVar 5) (eC (.int 0))) (eOp ixD (eVar 6) (eC (.int 1)))) (eOp mulD (eOp ixD (eVar 6) (eC (.int 0))) (eOp ixD (eVar 5) (eC (.int 1)))))) (bV (eOp eqD (eOp ixD (eFld (at_places K) "places" (eVar 0)) (eOp subD (eVar 4) (eC (.int 1)))) (eOp ixD (eFld (at_places K) "places" (eVar 0)) (eVar 4))))) (sRet (eC (.bl false))) sNil)
    (sIf (bOr (bNot (bV (eMth (ga K "Ranges") "is_least" (f_Ranges_is_least K) (eVar 0) (aCons (eVar 1) (aCons (eOp subD (eVar 4) (eC (.int 1))) (aCons (eVar 5) aNil)))))) (bNot (bV (eMth (ga K "Ranges") "is_least" (f_Ranges_is_least K) (eVar 0) (aCons (eVar 1) (aCons (eOp subD (eVar 4) (eC (.int 1))) (aCons (eVar 6) aNil))))))) (sRet (eC (.bl false))) sNil))) [.sh (rngI K bs ps), .sh (bk l), .sh (.int ps.length), .no, .sh (.int (1 + (i : Int))), a5, a6, .no] = r := fun r hr => by
      refine seq_nx (e := [.sh (rngI K bs ps), .sh (bk l), .sh (.int ps.length), .no, .sh (.int ((i + 1 : Nat) : Int)), .sh (tr (bAt bs i)), .sh (tr (bAt bs (i + 1))), .no]) ?_ hr
      rw [e2]
      have e3 : ((i + 1 : Nat) : Int) - 1 = (i : Int) := by omega
      repeat (first | simp only [f1, e3, ib i (by omega), ib (i + 1) hi] | walk_at "ev")
    have e3 : ((i + 1 : Nat) : Int) - 1 = (i : Int) := by omega
    have L1 := least i (bAt bs i) (eVar 1) (eOp subD (eVar 4) (eC (.int 1))) (eVar 5) [.sh (rngI K bs ps), .sh (bk l), .sh (.int ps.length), .no, .sh (.int ((i + 1 : Nat) : Int)), .sh (tr (bAt bs i)), .sh (tr (bAt bs (i + 1))), .no] (by omega) s1 rfl (by repeat (first | simp only [e3] | walk_at "ev")) rfl rfl
    have L2 := least i (bAt bs (i + 1)) (eVar 1) (eOp subD (eVar 4) (eC (.int 1))) (eVar 6) [.sh (rngI K bs ps), .sh (bk l), .sh (.int ps.length), .no, .sh (.int ((i + 1 : Nat) : Int)), .sh (tr (bAt bs i)), .sh (tr (bAt bs (i + 1))), .no] (by omega) s2 rfl (by repeat (first | simp only [e3] | walk_at "ev")) rfl rfl
    have T1 : bOr (bV (eOp geD (eOp mulD (eOp ixD (eVar 5) (eC (.int 0))) (eOp ixD (eVar 6) (eC (.int 1)))) (eOp mulD (eOp ixD (eVar 6) (eC (.int 0))) (eOp ixD (eVar 5) (eC (.int 1)))))) (bV (eOp eqD (eOp ixD (eFld (at_places K) "places" (eVar 0)) (eOp subD (eVar 4) (eC (.int 1)))) (eOp ixD (eFld (at_places K) "places" (eVar 0)) (eVar 4)))) [.sh (rngI K bs ps), .sh (bk l), .sh (.int ps.length), .no, .sh (.int ((i + 1 : Nat) : Int)), .sh (tr (bAt bs i)), .sh (tr (bAt bs (i + 1))), .no] = .ok (!(decide ((bAt bs i).1 * (bAt bs (i + 1)).2 < (bAt bs (i + 1)).1 * (bAt bs i).2) && !decide (pAt ps i = pAt ps (i + 1)))) := by
      by_cases q : (bAt bs i).1 * (bAt bs (i + 1)).2 < (bAt bs (i + 1)).1 * (bAt bs i).2
      · have q' : ¬ (bAt bs (i + 1)).1 * (bAt bs i).2 ≤ (bAt bs i).1 * (bAt bs (i + 1)).2 := by omega
        repeat (first | simp only [m1, m2, q', q, f2, e3, ip i (by omega), ip (i + 1) hi, Bool.not_not] | walk_at "ev")
      · have q' : (bAt bs (i + 1)).1 * (bAt bs i).2 ≤ (bAt bs i).1 * (bAt bs (i + 1)).2 := by omega
        repeat (first | simp only [m1, m2, q', q] | walk_at "ev")
    refine ⟨_, rfl, fun ok => ⟨_, first _ ?_, .sh (.int ((i + 1 : Nat) : Int)), .sh (tr (bAt bs i)), .sh (tr (bAt bs (i + 1))), rfl⟩, fun ok => first _ ?_⟩
    · unfold stepB at ok
      obtain ⟨o1, o2⟩ := Bool.and_eq_true_iff.mp ok
      obtain ⟨o3, o4⟩ := Bool.and_eq_true_iff.mp o2
      rw [o1] at T1
      rw [o3] at L1
      rw [o4] at L2
      exact seq_ifF T1 (ifF (bOr_F (bNot_of (b := true) (bV_of L1)) (bNot_of (b := true) (bV_of L2))))
    · unfold stepB at ok
      cases o1 : (decide ((bAt bs i).1 * (bAt bs (i + 1)).2 < (bAt bs (i + 1)).1 * (bAt bs i).2) && !decide (pAt ps i = pAt ps (i + 1))) with
      | false =>
        rw [o1] at T1
        exact seq_ifT T1 rfl
      | true =>
        rw [o1] at T1
        rw [o1, Bool.true_and] at ok
        refine seq_ifF T1 ?_
        cases o3 : leastB l (pAt ps i) (bAt bs i) with
        | false =>
          rw [o3] at L1
          exact ifT (bOr_T (bNot_of (b := false) (bV_of L1))) rfl
        | true =>
          rw [o3] at L1
          rw [o3, Bool.true_and] at ok
          rw [ok] at L2
          exact ifT (bOr_F (bNot_of (b := true) (bV_of L1)) (bNot_of (b := false) (bV_of L2))) rfl
  · obtain ⟨a4, a5, a6, rfl⟩ := he
    have hlast : ps.length - 1 < ps.length := by omega
    have bl : bs[bs.length - 1]? = some (bAt bs (bs.length - 1)) := bAt_get (by omega)
    have pl : ps[ps.length - 1]? = some (pAt ps (ps.length - 1)) := pAt_get hlast
    obtain ⟨j0, j1⟩ := okP_iff.mp (pk _ hlast)
    obtain ⟨t, ht, tm, hx⟩ := at_of j0 j1
    have el : (ps.length : Int) - 1 = ((ps.length - 1 : Nat) : Int) := by omega
    have L := least (ps.length - 1) (bAt bs (bs.length - 1)) (eVar 1) (eOp subD (eVar 2) (eC (.int 1))) (eOp ixD (eFld (at_begins K) "begins" (eVar 0)) (eUn negD (eC (.int 1)))) [.sh (rngI K bs ps), .sh (bk l), .sh (.int ps.length), .no, a4, a5, a6, .no] hlast (hb _ (List.mem_of_getElem? bl)) rfl (by repeat (first | simp only [el] | walk_at "ev")) (by repeat (first | simp only [f1, ixL1 bl] | walk_at "ev")) rfl
    cases o3 : leastB l (pAt ps (ps.length - 1)) (bAt bs (bs.length - 1)) with
    | false =>
      rw [o3] at L
      exact seq_ifT (bNot_of (b := false) (bV_of L)) rfl
    | true =>
      rw [o3] at L
      refine seq_ifF (bNot_of (b := true) (bV_of L)) (ret_of ?_)
      rw [Bool.true_and, minB_of ht, ← min_eq (f := fun u => u.2) tm]
      refine op_of (a := .int (minL (l.map fun u => u.2))) (b := .int t.2) (min_lc (eLC_of l tr (fun u => .int u.2) rfl (Nat.le_trans h.len (by decide)) fun u hu => ⟨_, rfl, ?_⟩) h.ne) ?_ eqD_int
      · simp only [wipeE]
        walk_at "ev"
      · repeat (first | simp only [f2, ixL1 pl, hx] | walk_at "ev")
  · cases (List.range (ps.length - 1)).all (stepB l bs ps) <;> rfl
/-! ### the law's own look at ranges -/
theorem cut2 {bs : List Tr} {i : Nat} (h : i + 1 < bs.length) : cutG bs (some (i : Int)) (some ((i : Int) + 2)) = [bAt bs i, bAt bs (i + 1)] := by
  unfold cutG
  rw [show (i : Int) + 2 = ((i + 2 : Nat) : Int) by omega, HT.sIx_nat, HT.sIx_nat, Nat.min_eq_left (by omega), Nat.min_eq_left (by omega), show i + 2 - i = 2 by omega]
  have e1 := bAt_get (bs := bs) (i := i) (by omega)
  have e2 := bAt_get h
  rw [List.drop_eq_getElem_cons (by omega), List.drop_eq_getElem_cons (by omega)]
  rw [List.getElem?_eq_getElem (by omega)] at e1
  rw [List.getElem?_eq_getElem (by omega)] at e2
  rw [Option.some.inj e1, Option.some.inj e2]
  rfl
theorem cut1 {bs : List Tr} {i : Nat} (h : i + 1 = bs.length) : cutG bs (some (i : Int)) (some ((i : Int) + 2)) = [bAt bs i] := by
  unfold cutG
  have e1 := bAt_get (bs := bs) (i := i) (by omega)
  have m1 : min i bs.length = i := by omega
  have m2 : min (i + 2) bs.length = i + 1 := by omega
  rw [show (i : Int) + 2 = ((i + 2 : Nat) : Int) by omega, HT.sIx_nat, HT.sIx_nat, m1, m2, show i + 1 - i = 1 by omega]
  rw [List.drop_eq_getElem_cons (by omega)]
  rw [List.getElem?_eq_getElem (by omega)] at e1
  rw [Option.some.inj e1]
  rfl
theorem slD_bk {bs : List Tr} {lo hi : Option Int} : slD lo hi (bk bs) = some (bk (cutG bs lo hi)) := by
  show some (D.lst (cutG (bs.map tr) lo hi)) = _
  have e : cutG (bs.map tr) lo hi = (cutG bs lo hi).map tr := by
    unfold cutG
    rw [List.length_map, ← List.map_drop, ← List.map_take]
  rw [e]
  rfl
def loopB (l : List Tr) (bs : List Tr) (ps : List Int) (i : Nat) : Bool := if i + 1 < ps.length then ((!decide (pAt ps i = pAt ps (i + 1)) && decide ((bAt bs i).1 * (bAt bs (i + 1)).2 < (bAt bs (i + 1)).1 * (bAt bs i).2)) && (leastB l (pAt ps i) (bAt bs i) && leastB l (pAt ps i) (bAt bs (i + 1)))) else leastB l (pAt ps i) (bAt bs i)
theorem loop_all {l : List Tr} {bs : List Tr} {ps : List Int} (h : 0 < ps.length) (hb : bs.length = ps.length) : (List.range ps.length).all (loopB l bs ps) = ((List.range (ps.length - 1)).all (stepB l bs ps) && leastB l (pAt ps (ps.length - 1)) (bAt bs (bs.length - 1))) := by
  obtain ⟨n, hn⟩ : ∃ n, ps.length = n + 1 := ⟨ps.length - 1, by omega⟩
  rw [hb, hn, show n + 1 - 1 = n by omega, List.range_succ, List.all_append, List.all_cons, List.all_nil, Bool.and_true]
  congr 1
  · rw [Bool.eq_iff_iff, List.all_eq_true, List.all_eq_true]
    have key : ∀ i ∈ List.range n, loopB l bs ps i = stepB l bs ps i := fun i hi => by
      have := List.mem_range.mp hi
      unfold loopB stepB
      rw [if_pos (by omega)]
      congr 1
      rw [Bool.and_comm]
    constructor
    · intro z i hi
      rw [← key i hi]
      exact z i hi
    · intro z i hi
      rw [key i hi]
      exact z i hi
  · unfold loopB
    rw [if_neg (by omega)]
theorem enum_ints {ps : List Int} : enumFrom 0 (ps.map D.int) = (List.range ps.length).map fun (i : Nat) => .tup [.int i, .int (pAt ps i)] := by
  apply List.ext_getElem?
  intro i
  rw [enumFrom_get, List.getElem?_map, List.getElem?_map]
  by_cases h : i < ps.length
  · rw [pAt_get h, List.getElem?_range h, Nat.zero_add]
    rfl
  · rw [List.getElem?_eq_none (by omega), List.getElem?_eq_none (by rw [List.length_range]; omega)]
    rfl
theorem any_not_least {l : List Tr} {j : Int} {t p : Tr} (h : l[j.toNat]? = some t) : (l.any fun u => decide (cst u p < cst t p)) = !leastB l j p := by
  rw [leastB_of h, List.not_all_eq_any_not]
  congr 1
  funext u
  rw [Bool.eq_iff_iff, Bool.not_eq_true', decide_eq_true_eq, decide_eq_false_iff_not]
  omega
theorem law_ranges_eq {l : List Tr} {bs : List Tr} {ps : List Int} (h : Bk l) (hb : ∀ p ∈ bs, SmT p) (hl : ps.length ≤ 100000) : f__law_ranges K [bk l, .lst (bs.map tr), .lst (ps.map D.int)] = .ok (.bl (rangesB l bs ps)) := by
  refine run_rt ?_
  unfold rangesB
  by_cases c0 : ps = []
  · rw [decide_eq_false (by simpa using c0)]
    exact seq_ifT (by repeat (first | simp only [eqD_ints0, decide_eq_true c0] | walk_at "ev")) rfl
  · have pos := List.length_pos_iff.mpr c0
    rw [decide_eq_true c0]
    by_cases c1 : bs.length = ps.length
    · have c1' : (bs.length : Int) = ps.length := by omega
      have x0 : ixD (.lst (bs.map tr)) (.int 0) = some (tr (bAt bs 0)) := ixL (i := 0) (bAt_get (by omega))
      rw [decide_eq_true c1]
      by_cases c2 : bAt bs 0 = (0, 1)
      · rw [decide_eq_true c2]
        have et : D.tup [.int 0, .int 1] = tr (0, 1) := rfl
        refine seq_ifF (by repeat (first | simp only [eqD_ints0, decide_eq_false c0, lenI, c1', x0, c2, et] | walk_at "ev")) ?_
        have e := any_lc (eLC_of (vs := [3]) (bt := bNm 3) (fe := eB (bNot (bV (eChain leD ltD (eC (.int 0)) (eVar 3) (eFn lenD (aCons (eVar 0) aNil)))))) (fi := iL (eVar 2)) (env := [.sh (bk l), .sh (.lst (bs.map tr)), .sh (.lst (ps.map D.int)), .no, .no, .no, .no, .no]) ps D.int (fun j => .bl (!okP l j)) rfl (by omega) (fun j hj => ⟨_, rfl, by
          simp only [wipeE]
          unfold okP
          rcases place_cases l j with d0 | ⟨d0, d1⟩ | ⟨d0, d1⟩
          · repeat (first | simp only [d0] | walk_at "ev")
          · repeat (first | simp only [d0, d1] | walk_at "ev")
          · repeat (first | simp only [d0, d1] | walk_at "ev")⟩))
        have en : (ps.any fun j => !okP l j) = !ps.all (okP l) := by
          rw [List.not_all_eq_any_not]
        rw [en] at e
        cases c3 : ps.all (okP l) with
        | false =>
          rw [c3] at e
          exact seq_ifT (bV_of e) rfl
        | true =>
          rw [c3] at e
          refine seq_ifF (bV_of e) ?_
          have pk : ∀ i : Nat, i < ps.length → okP l (pAt ps i) = true := fun i hi => all_okP c3 (pAt_get hi)
          have st : ∀ i : Nat, i < ps.length → SmT (bAt bs i) := fun i hi => hb _ (List.mem_of_getElem? (bAt_get (by omega)))
          have hlast : ps.length - 1 < ps.length := by omega
          refine (for_checkK (List.range ps.length) (fun (i : Nat) => .tup [.int i, .int (pAt ps i)]) (loopB l bs ps) (fun env => ∃ a3 a4 a5 a6, env = [Sl.sh (bk l), .sh (.lst (bs.map tr)), .sh (.lst (ps.map D.int)), a3, a4, a5, a6, .no]) (d0 := .bl false) (d1 := .bl (minB l (pAt ps (ps.length - 1)))) (by rw [← enum_ints]; rfl) ⟨_, _, _, _, rfl⟩ (fun i hi env he => ?_) (fun e he => ?_)).trans ?_
          · obtain ⟨a3, a4, a5, a6, rfl⟩ := he
            have hi := List.mem_range.mp hi
            obtain ⟨j0, j1⟩ := okP_iff.mp (pk i hi)
            obtain ⟨t, ht, tm, hx⟩ := at_of j0 j1
            have inner : ∀ (p : Tr) (a5 a6 : Sl), SmT p → bV (eFn anyD (aCons (eLC [7] (bNm 7) bYes (eOp ltD (eCall (f__law_cost K) (aCons (eVar 7) (aCons (eVar 6) aNil))) (eCall (f__law_cost K) (aCons (eOp ixD (eVar 0) (eVar 3)) (aCons (eVar 6) aNil)))) (iL (eVar 0))) aNil)) [.sh (bk l), .sh (.lst (bs.map tr)), .sh (.lst (ps.map D.int)), .sh (.int (pAt ps i)), .sh (.int i), a5, .sh (tr p), .no] = .ok (!leastB l (pAt ps i) p) := fun p a5 a6 sp => by
              rw [← any_not_least ht]
              refine bV_of (any_lc (eLC_of l tr (fun u => .bl (decide (cst u p < cst t p))) rfl (Nat.le_trans h.len (by decide)) fun u hu => ⟨_, rfl, ?_⟩))
              simp only [wipeE]
              repeat (first | simp only [hx, law_cost_eq (h.at hu) sp, law_cost_eq (h.at tm) sp] | walk_at "ev")
            have s1 := st i hi
            refine ⟨_, rfl, ?_⟩
            unfold loopB
            by_cases q : i + 1 < ps.length
            · rw [if_pos q]
              have s2 := st (i + 1) q
              have m1 := mulD_int (mulOk_sm s1.a s2.b)
              have m2 := mulD_int (mulOk_sm s2.a s1.b)
              have ip : ixD (.lst (ps.map D.int)) (.int ((i : Int) + 1)) = some (.int (pAt ps (i + 1))) := by
                rw [show (i : Int) + 1 = ((i + 1 : Nat) : Int) by omega]
                exact ixL (pAt_get q)
              have pre : ∀ r, (sSeq (sIf (bAnd (bV (eOp eqD (eFn lenD (aCons (eVar 5) aNil)) (eC (.int 2)))) (bV (eOp eqD (eVar 3) (eOp ixD (eVar 2) (eOp addD (eVar 4) (eC (.int 1))))))) (sRet (eC (.bl false))) sNil)
    (sSeq (sIf (bAnd (bV (eOp eqD (eFn lenD (aCons (eVar 5) aNil)) (eC (.int 2)))) (bV (eOp geD (eOp mulD (eOp ixD (eOp ixD (eVar 5) (eC (.int 0))) (eC (.int 0))) (eOp ixD (eOp ixD (eVar 5) (eC (.int 1))) (eC (.int 1)))) (eOp mulD (eOp ixD (eOp ixD (eVar 5) (eC (.int 1))) (eC (.int 0))) (eOp ixD (eOp ixD (eVar 5) (eC (.int 0))) (eC (.int 1))))))) (sRet (eC (.bl false))) sNil)
    (sFor (iL (eVar 5)) (bNm 6) (sIf (bV (eFn anyD (aCons (eLC [7] (bNm 7) bYes (eOp ltD (eCall (f__law_cost K) (aCons (eVar 7) (aCons (eVar 6) aNil))) (eCall (f__law_cost K) (aCons (eOp ixD (eVar 0) (eVar 3)) (aCons (eVar 6) aNil)))) (iL (eVar 0))) aNil))) (sRet (eC (.bl false))) sNil)))) [.sh (bk l), .sh (.lst (bs.map tr)), .sh (.lst (ps.map D.int)), .sh (.int (pAt ps i)), .sh (.int i), .sh (bk [bAt bs i, bAt bs (i + 1)]), a6, .no] = r → (sSeq (sAsg (eSl (eVar 1) (oSome (eVar 4)) (oSome (eOp addD (eVar 4) (eC (.int 2))))) (bNm 5))
    (sSeq (sIf (bAnd (bV (eOp eqD (eFn lenD (aCons (eVar 5) aNil)) (eC (.int 2)))) (bV (eOp eqD (eVar 3) (eOp ixD (eVar 2) (eOp addD (eVar 4) (eC (.int 1))))))) (sRet (eC (.bl false))) sNil)
    (sSeq (sIf (bAnd (bV (eOp eqD (eFn lenD (aCons (eVar 5) aNil)) (eC (.int 2)))) (bV (eOp geD (eOp mulD (eOp ixD (eOp ixD (eVar 5) (eC (.int 0))) (eC (.int 0))) (eOp ixD (eOp ixD (eVar 5) (eC (.int 1))) (eC (.int 1)))) (eOp mulD (eOp ixD (eOp ixD (eVar 5) (eC (.int 1))) (eC (.int 0))) (eOp ixD (eOp ixD (eVar 5) (eC (.int 0))) (eC (.int 1))))))) (sRet (eC (.bl false))) sNil)
    (sFor (iL (eVar 5)) (bNm 6) (sIf (bV (eFn anyD (aCons (eLC [7] (bNm 7) bYes (eOp ltD (eCall (f__law_cost K) (aCons (eVar 7) (aCons (eVar 6) aNil))) (eCall (f__law_cost K) (aCons (eOp ixD (eVar 0) (eVar 3)) (aCons (eVar 6) aNil)))) (iL (eVar 0))) aNil))) (sRet (eC (.bl false))) sNil))))) [.sh (bk l), .sh (.lst (bs.map tr)), .sh (.lst (ps.map D.int)), .sh (.int (pAt ps i)), .sh (.int i), a5, a6, .no] = r := fun r hr => by
                refine seq_set (d := bk [bAt bs i, bAt bs (i + 1)]) ?_ hr
                have es : slD (some (i : Int)) (some ((i : Int) + 2)) (.lst (bs.map tr)) = some (bk [bAt bs i, bAt bs (i + 1)]) := by
                  rw [← cut2 (by omega)]
                  exact slD_bk
                repeat (first | simp only [es] | walk_at "ev")
              have g0 : ixD (bk [bAt bs i, bAt bs (i + 1)]) (.int 0) = some (tr (bAt bs i)) := rfl
              have g1 : ixD (bk [bAt bs i, bAt bs (i + 1)]) (.int 1) = some (tr (bAt bs (i + 1))) := rfl
              have g2 : (((2 : Nat) : Int) = 2) := rfl
              have I1 := inner (bAt bs i) (.sh (bk [bAt bs i, bAt bs (i + 1)])) .no s1
              have I2 := inner (bAt bs (i + 1)) (.sh (bk [bAt bs i, bAt bs (i + 1)])) .no s2
              refine ⟨fun ok => ?_, fun ok => ?_⟩
              · obtain ⟨o1, o2⟩ := Bool.and_eq_true_iff.mp ok
                obtain ⟨o3, o4⟩ := Bool.and_eq_true_iff.mp o1
                obtain ⟨o5, o6⟩ := Bool.and_eq_true_iff.mp o2
                have o3 : ¬ pAt ps i = pAt ps (i + 1) := by simpa using o3
                have o4 : ¬ (bAt bs (i + 1)).1 * (bAt bs i).2 ≤ (bAt bs i).1 * (bAt bs (i + 1)).2 := by
                  have := of_decide_eq_true o4
                  omega
                rw [o5] at I1
                rw [o6] at I2
                refine ⟨[.sh (bk l), .sh (.lst (bs.map tr)), .sh (.lst (ps.map D.int)), .sh (.int (pAt ps i)), .sh (.int i), .sh (bk [bAt bs i, bAt bs (i + 1)]), .sh (tr (bAt bs (i + 1))), .no], pre _ ?_, _, _, _, _, rfl⟩
                refine seq_ifF (by repeat (first | simp only [g2, ip, o3] | walk_at "ev")) ?_
                refine seq_ifF (by repeat (first | simp only [g0, g1, g2, m1, m2, o4] | walk_at "ev")) ?_
                refine (sFor_of (ds := [tr (bAt bs i), tr (bAt bs (i + 1))]) rfl).trans ?_
                refine forS_cons rfl (e2 := [.sh (bk l), .sh (.lst (bs.map tr)), .sh (.lst (ps.map D.int)), .sh (.int (pAt ps i)), .sh (.int i), .sh (bk [bAt bs i, bAt bs (i + 1)]), .sh (tr (bAt bs i)), .no]) (ifF I1) ?_
                exact forS_cons rfl (ifF I2) rfl
              · refine pre _ ?_
                by_cases o3 : pAt ps i = pAt ps (i + 1)
                · exact seq_ifT (by repeat (first | simp only [g2, ip, o3] | walk_at "ev")) rfl
                · refine seq_ifF (by repeat (first | simp only [g2, ip, o3] | walk_at "ev")) ?_
                  rw [decide_eq_false o3] at ok
                  by_cases o4 : (bAt bs i).1 * (bAt bs (i + 1)).2 < (bAt bs (i + 1)).1 * (bAt bs i).2
                  · have o4' : ¬ (bAt bs (i + 1)).1 * (bAt bs i).2 ≤ (bAt bs i).1 * (bAt bs (i + 1)).2 := by omega
                    refine seq_ifF (by repeat (first | simp only [g0, g1, g2, m1, m2, o4'] | walk_at "ev")) ?_
                    rw [decide_eq_true o4] at ok
                    refine (sFor_of (ds := [tr (bAt bs i), tr (bAt bs (i + 1))]) rfl).trans ?_
                    cases o5 : leastB l (pAt ps i) (bAt bs i) with
                    | false =>
                      rw [o5] at I1
                      exact forS_rt1 rfl (ifT I1 rfl)
                    | true =>
                      rw [o5] at I1 ok
                      have o6 : leastB l (pAt ps i) (bAt bs (i + 1)) = false := by simpa using ok
                      rw [o6] at I2
                      refine forS_cons rfl (e2 := [.sh (bk l), .sh (.lst (bs.map tr)), .sh (.lst (ps.map D.int)), .sh (.int (pAt ps i)), .sh (.int i), .sh (bk [bAt bs i, bAt bs (i + 1)]), .sh (tr (bAt bs i)), .no]) (ifF I1) ?_
                      exact forS_rt1 rfl (ifT I2 rfl)
                  · have o4' : (bAt bs (i + 1)).1 * (bAt bs i).2 ≤ (bAt bs i).1 * (bAt bs (i + 1)).2 := by omega
                    exact seq_ifT (by repeat (first | simp only [g0, g1, g2, m1, m2, o4'] | walk_at "ev")) rfl
            · rw [if_neg q]
              have I1 := inner (bAt bs i) (.sh (bk [bAt bs i])) .no s1
              have g2 : ¬ (((1 : Nat) : Int) = 2) := by decide
              have pre : ∀ (e5 : Sl) r, e5 = .sh (bk [bAt bs i]) → forS (bNm 6) (sIf (bV (eFn anyD (aCons (eLC [7] (bNm 7) bYes (eOp ltD (eCall (f__law_cost K) (aCons (eVar 7) (aCons (eVar 6) aNil))) (eCall (f__law_cost K) (aCons (eOp ixD (eVar 0) (eVar 3)) (aCons (eVar 6) aNil)))) (iL (eVar 0))) aNil))) (sRet (eC (.bl false))) sNil) [tr (bAt bs i)] [.sh (bk l), .sh (.lst (bs.map tr)), .sh (.lst (ps.map D.int)), .sh (.int (pAt ps i)), .sh (.int i), e5, a6, .no] = r → (sSeq (sAsg (eSl (eVar 1) (oSome (eVar 4)) (oSome (eOp addD (eVar 4) (eC (.int 2))))) (bNm 5))
    (sSeq (sIf (bAnd (bV (eOp eqD (eFn lenD (aCons (eVar 5) aNil)) (eC (.int 2)))) (bV (eOp eqD (eVar 3) (eOp ixD (eVar 2) (eOp addD (eVar 4) (eC (.int 1))))))) (sRet (eC (.bl false))) sNil)
    (sSeq (sIf (bAnd (bV (eOp eqD (eFn lenD (aCons (eVar 5) aNil)) (eC (.int 2)))) (bV (eOp geD (eOp mulD (eOp ixD (eOp ixD (eVar 5) (eC (.int 0))) (eC (.int 0))) (eOp ixD (eOp ixD (eVar 5) (eC (.int 1))) (eC (.int 1)))) (eOp mulD (eOp ixD (eOp ixD (eVar 5) (eC (.int 1))) (eC (.int 0))) (eOp ixD (eOp ixD (eVar 5) (eC (.int 0))) (eC (.int 1))))))) (sRet (eC (.bl false))) sNil)
    (sFor (iL (eVar 5)) (bNm 6) (sIf (bV (eFn anyD (aCons (eLC [7] (bNm 7) bYes (eOp ltD (eCall (f__law_cost K) (aCons (eVar 7) (aCons (eVar 6) aNil))) (eCall (f__law_cost K) (aCons (eOp ixD (eVar 0) (eVar 3)) (aCons (eVar 6) aNil)))) (iL (eVar 0))) aNil))) (sRet (eC (.bl false))) sNil))))) [.sh (bk l), .sh (.lst (bs.map tr)), .sh (.lst (ps.map D.int)), .sh (.int (pAt ps i)), .sh (.int i), a5, a6, .no] = r := fun e5 r h5 hr => by
                subst h5
                refine seq_set (d := bk [bAt bs i]) ?_ ?_
                · have es : slD (some (i : Int)) (some ((i : Int) + 2)) (.lst (bs.map tr)) = some (bk [bAt bs i]) := by
                    rw [← cut1 (by omega)]
                    exact slD_bk
                  repeat (first | simp only [es] | walk_at "ev")
                refine seq_ifF (by repeat (first | simp only [g2] | walk_at "ev")) ?_
                refine seq_ifF (by repeat (first | simp only [g2] | walk_at "ev")) ?_
                exact (sFor_of (ds := [tr (bAt bs i)]) rfl).trans hr
              refine ⟨fun ok => ⟨[.sh (bk l), .sh (.lst (bs.map tr)), .sh (.lst (ps.map D.int)), .sh (.int (pAt ps i)), .sh (.int i), .sh (bk [bAt bs i]), .sh (tr (bAt bs i)), .no], pre _ _ rfl ?_, _, _, _, _, rfl⟩, fun ok => pre _ _ rfl ?_⟩
              · rw [ok] at I1
                exact forS_cons rfl (ifF I1) rfl
              · rw [ok] at I1
                exact forS_rt1 rfl (ifT I1 rfl)
          · obtain ⟨a3, a4, a5, a6, rfl⟩ := he
            have pl : ps[ps.length - 1]? = some (pAt ps (ps.length - 1)) := pAt_get hlast
            obtain ⟨j0, j1⟩ := okP_iff.mp (pk _ hlast)
            obtain ⟨t, ht, tm, hx⟩ := at_of j0 j1
            rw [minB_of ht]
            refine ret_of (all_lc (eLC_of l tr (fun u => .bl (decide (t.2 ≤ u.2))) rfl (Nat.le_trans h.len (by decide)) fun u hu => ⟨_, rfl, ?_⟩))
            simp only [wipeE]
            repeat (first | simp only [ixL1 pl, hx] | walk_at "ev")
          · rw [loop_all pos c1]
            cases (List.range (ps.length - 1)).all (stepB l bs ps) <;> cases leastB l (pAt ps (ps.length - 1)) (bAt bs (bs.length - 1)) <;> rfl
      · rw [decide_eq_false c2]
        have et : D.tup [.int 0, .int 1] = tr (0, 1) := rfl
        exact seq_ifT (by repeat (first | simp only [eqD_ints0, decide_eq_false c0, lenI, c1', x0, c2, et] | walk_at "ev")) rfl
    · have c1' : ¬ (bs.length : Int) = ps.length := by omega
      rw [decide_eq_false c1]
      exact seq_ifT (by repeat (first | simp only [eqD_ints0, decide_eq_false c0, lenI, c1'] | walk_at "ev")) rfl
/-! ### two books -/
abbrev Rw := Int × Int × Int × Int
def rD (r : Rw) : D := rowD r.1 r.2.1 r.2.2.1 r.2.2.2
structure RwS (r : Rw) : Prop where
  a : Sm r.2.2.1
  b : Sm r.2.2.2
abbrev undI (K : PySem.W.Frag) (rs : List Rw) : D := .ins (ga K "Under") [("rows", .lst (rs.map rD))]
abbrev overI (K : PySem.W.Frag) (p : Tr) : D := .ins (ga K "Over") [("amount", tr p)]
def undB (l o : List Tr) (rs : List Rw) : Bool := decide (rs.length = o.length) && (rs.zip o).all fun z => mixB l z.1.1 z.1.2.1 z.1.2.2.1 z.1.2.2.2 z.2
def minC (l : List Tr) (p : Tr) : Int := minL (l.map fun u => cst u p)
def overB (l o : List Tr) (p : Tr) : Bool := decide (minC o p < minC l p)
theorem zipD_map {α β : Type} (f : α → D) (g : β → D) : ∀ (xs : List α) (ys : List β), zipD (xs.map f) (ys.map g) = (xs.zip ys).map fun z => .tup [f z.1, g z.2]
  | [], ys => by cases ys <;> rfl
  | x :: xs, [] => rfl
  | x :: xs, y :: ys => by
    show D.tup [f x, g y] :: zipD (xs.map f) (ys.map g) = _
    rw [zipD_map f g xs ys]
    rfl
theorem lenR {rs : List Rw} : lenD [.lst (rs.map rD)] = some (.int rs.length) := by
  show some (D.int ((rs.map rD).length : Int)) = _
  rw [List.length_map]
theorem toL_rows {rs : List Rw} : toL (.lst (rs.map rD)) = .ok (rs.map rD) := rfl
theorem Under_shows_eq {l o : List Tr} {rs : List Rw} (h : Bk l) (ho : Bk o) (hs : ∀ r ∈ rs, RwS r) : f_Under_shows K [undI K rs, bk l, bk o] = .ok (.bl (undB l o rs)) := by
  have f1 := fld_Under_rows (K := K) (rs.map rD)
  refine run_rt ?_
  unfold undB
  by_cases c : rs.length = o.length
  · have c' : ((rs.length : Int) = o.length) := by omega
    rw [decide_eq_true c, Bool.true_and]
    refine seq_ifF (by repeat (first | simp only [f1, lenR, c'] | walk_at "ev")) (ret_of (all_lc (eLC_of (rs.zip o) (fun z => .tup [rD z.1, tr z.2]) (fun z => .bl (mixB l z.1.1 z.1.2.1 z.1.2.2.1 z.1.2.2.2 z.2)) ?_ (by rw [List.length_zip]; have := ho.len; omega) fun z hz => ⟨_, rfl, ?_⟩)))
    · rw [← zipD_map]
      unfold iZ
      repeat (first | simp only [f1] | walk_at "ev")
      rfl
    · have hr := hs z.1 (List.of_mem_zip hz).1
      have ht := ho.at (List.of_mem_zip hz).2
      have e := is_mixture_eq (K := K) (i := z.1.1) (k := z.1.2.1) h ht hr.a hr.b
      simp only [wipeE]
      repeat (first | simp only [rD, e] | walk_at "ev")
  · have c' : ¬ ((rs.length : Int) = o.length) := by omega
    rw [decide_eq_false c, Bool.false_and]
    exact seq_ifT (by repeat (first | simp only [f1, lenR, c'] | walk_at "ev")) rfl
theorem law_under_eq {l o : List Tr} {rs : List Rw} (h : Bk l) (ho : Bk o) (hs : ∀ r ∈ rs, RwS r) : f__law_under K [bk l, bk o, .lst (rs.map rD)] = .ok (.bl (undB l o rs)) := by
  refine run_rt ?_
  unfold undB
  by_cases c : rs.length = o.length
  · have c' : ((rs.length : Int) = o.length) := by omega
    rw [decide_eq_true c, Bool.true_and]
    refine seq_ifF (by repeat (first | simp only [lenR, c'] | walk_at "ev")) (ret_of (all_lc (eLC_of (rs.zip o) (fun z => .tup [rD z.1, tr z.2]) (fun z => .bl (mixB l z.1.1 z.1.2.1 z.1.2.2.1 z.1.2.2.2 z.2)) ?_ (by rw [List.length_zip]; have := ho.len; omega) fun z hz => ⟨_, rfl, ?_⟩)))
    · rw [← zipD_map]
      rfl
    · have hr := hs z.1 (List.of_mem_zip hz).1
      have ht := ho.at (List.of_mem_zip hz).2
      have e := law_mixture_eq (K := K) (i := z.1.1) (k := z.1.2.1) h ht hr.a hr.b
      simp only [wipeE]
      repeat (first | simp only [rD, e] | walk_at "ev")
  · have c' : ¬ ((rs.length : Int) = o.length) := by omega
    rw [decide_eq_false c, Bool.false_and]
    exact seq_ifT (by repeat (first | simp only [lenR, c'] | walk_at "ev")) rfl
theorem min_lc_of {l : List Tr} {p : Tr} {vs : List Nat} {bt : Bt} {fe : Env → Res D} {fi : Env → Res (List D)} {env : Env} (h : Bk l) (hi : fi env = .ok (l.map tr)) (H : ∀ u ∈ l, ∃ e1, bt (tr u) (wipeE env vs) = .ok e1 ∧ fe e1 = .ok (.int (cst u p))) : eFn minD (aCons (eLC vs bt bYes fe fi) aNil) env = .ok (.int (minC l p)) :=
  min_lc (eLC_of l tr (fun u => .int (cst u p)) hi (Nat.le_trans h.len (by decide)) H) h.ne
theorem Over_shows_eq {l o : List Tr} {p : Tr} (h : Bk l) (ho : Bk o) (hp : SmT p) : f_Over_shows K [overI K p, bk l, bk o] = .ok (.bl (overB l o p)) := by
  have f1 := fld_Over_amount (K := K) (tr p)
  refine run_rt ?_
  refine seq_set (d := .int (minC l p)) (min_lc_of h rfl fun u hu => ⟨_, rfl, ?_⟩) (ret_of (op_of rfl (min_lc_of (p := p) ho rfl fun u hu => ⟨_, rfl, ?_⟩) gtD_int))
  · simp only [wipeE]
    repeat (first | simp only [f1, cost_of_sm (h.at hu) hp] | walk_at "ev")
  · simp only [wipeE]
    show eCall _ _ [.sh (overI K p), .sh (bk l), .sh (bk o), .sh (.int (minC l p)), .sh (tr u)] = _
    repeat (first | simp only [f1, cost_of_sm (ho.at hu) hp] | walk_at "ev")
theorem law_over_eq {l o : List Tr} {p : Tr} (h : Bk l) (ho : Bk o) (hp : SmT p) : f__law_over K [bk l, bk o, tr p] = .ok (.bl (overB l o p)) := by
  refine run_rt ?_
  refine seq_set (d := .int (minC l p)) (min_lc_of h rfl fun u hu => ⟨_, rfl, ?_⟩) (ret_of (op_of rfl (min_lc_of (p := p) ho rfl fun u hu => ⟨_, rfl, ?_⟩) gtD_int))
  · simp only [wipeE]
    repeat (first | simp only [law_cost_eq (h.at hu) hp] | walk_at "ev")
  · simp only [wipeE]
    show eCall _ _ [.sh (bk l), .sh (bk o), .sh (tr p), .sh (.int (minC l p)), .sh (tr u)] = _
    repeat (first | simp only [law_cost_eq (ho.at hu) hp] | walk_at "ev")
theorem overB_of {l o : List Tr} {t p : Tr} (h : Bk l) (ht : t ∈ o) (hp : ∀ u ∈ l, cst t p < cst u p) : overB l o p = true := by
  have h1 : minC o p ≤ cst t p := minL_le (List.mem_map_of_mem ht)
  obtain ⟨u, hu, e⟩ := List.mem_map.mp (minL_mem (ns := l.map fun u => cst u p) (fun z => h.ne (List.map_eq_nil_iff.mp z)))
  have h2 := hp u hu
  have h3 : minC l p = cst u p := e.symm
  exact decide_eq_true (by omega)
/-! ### answers about money -/
abbrev mostI (K : PySem.W.Frag) (j : Int) (p : Tr) : D := .ins (ga K "Most") [("place", .int j), ("amount", tr p)]
abbrev endI (K : PySem.W.Frag) (j : Int) : D := .ins (ga K "Endless") [("place", .int j)]
abbrev dearI (K : PySem.W.Frag) : D := .ins (ga K "Dear") []
def mostOk (m : Int) (p : Tr) (u : Tr) : Bool := decide (m * p.2 ≤ cst u p) && !(decide (cst u p = m * p.2) && decide (u.2 = 0))
def mostB (l : List Tr) (m j : Int) (p : Tr) : Bool := (decide (0 ≤ j) && decide (j < l.length)) && match l[j.toNat]? with
  | some t => decide (cst t p = m * p.2) && l.all (mostOk m p)
  | none => false
def endB (l : List Tr) (m j : Int) : Bool := (decide (0 ≤ j) && decide (j < l.length)) && match l[j.toNat]? with
  | some t => decide (t.2 = 0) && decide (t.1 ≤ m)
  | none => false
def dearB (l : List Tr) (m : Int) : Bool := l.all fun u => decide (m < u.1)
theorem Most_shows_eq {l : List Tr} {m j : Int} {p : Tr} (h : Bk l) (hp : SmT p) (hm : Sm m) : f_Most_shows K [mostI K j p, bk l, .int m] = .ok (.bl (mostB l m j p)) := by
  have f1 := fld_Most_place (K := K) (.int j) (tr p)
  have f2 := fld_Most_amount (K := K) (.int j) (tr p)
  have mm := mulD_int (mulOk_sm hm hp.b)
  refine run_rt ?_
  by_cases c0 : 0 ≤ j ∧ j < l.length
  · obtain ⟨c0, c1⟩ := c0
    obtain ⟨t, ht, tm, hx⟩ := at_of c0 c1
    have eB : mostB l m j p = (decide (cst t p = m * p.2) && l.all (mostOk m p)) := by
      unfold mostB
      rw [decide_eq_true c0, decide_eq_true c1, ht]
      rfl
    rw [eB]
    refine seq_ifF (by repeat (first | simp only [f1, f2, mm, c0, c1] | walk_at "ev")) ?_
    refine seq_set (d := .int (m * p.2)) (by repeat (first | simp only [f1, f2, mm] | walk_at "ev")) ?_
    by_cases c2 : cst t p = m * p.2
    · rw [decide_eq_true c2]
      refine seq_ifF (by repeat (first | simp only [f1, f2, mm, hx, cost_of_sm (h.at tm) hp, c2] | walk_at "ev")) ?_
      refine (for_check l tr (mostOk m p) (fun env => ∃ a b, env = [Sl.sh (mostI K j p), .sh (bk l), .sh (.int m), .sh (.int (m * p.2)), a, b]) (d0 := .bl false) (d1 := .bl true) rfl ⟨_, _, rfl⟩ (fun u hu env he => ?_) (fun e he => ?_)).trans ?_
      · obtain ⟨a, b, rfl⟩ := he
        refine ⟨_, rfl, fun ok => ⟨_, ?_, .sh (tr u), .sh (.int (cst u p)), rfl⟩, fun ok => ?_⟩
        · refine seq_set (d := .int (cst u p)) (by repeat (first | simp only [f2, cost_of_sm (h.at hu) hp] | walk_at "ev")) (ifF ?_)
          unfold mostOk at ok
          by_cases c3 : cst u p < m * p.2
          · exfalso
            rw [decide_eq_false (by omega)] at ok
            cases ok
          · by_cases c4 : cst u p = m * p.2
            · by_cases c5 : u.2 = 0
              · exfalso
                rw [decide_eq_true c4, decide_eq_true c5] at ok
                simp at ok
              · repeat (first | simp only [c3, c4, c5, Int.lt_irrefl] | walk_at "ev")
            · repeat (first | simp only [c3, c4] | walk_at "ev")
        · refine seq_set (d := .int (cst u p)) (by repeat (first | simp only [f2, cost_of_sm (h.at hu) hp] | walk_at "ev")) ?_
          unfold mostOk at ok
          have c3 : cst u p < m * p.2 ∨ (¬ cst u p < m * p.2 ∧ cst u p = m * p.2 ∧ u.2 = 0) := by
            by_cases c3 : cst u p < m * p.2
            · exact .inl c3
            · rw [decide_eq_true (by omega : m * p.2 ≤ cst u p)] at ok
              simp only [Bool.true_and, Bool.not_eq_false', Bool.and_eq_true, decide_eq_true_eq] at ok
              exact .inr ⟨c3, ok⟩
          rcases c3 with c3 | ⟨c3, c4, c5⟩
          · repeat (first | simp only [c3] | walk_at "ev")
          · repeat (first | simp only [c4, c5, Int.lt_irrefl] | walk_at "ev")
      · obtain ⟨a, b, rfl⟩ := he
        rfl
      · cases l.all (mostOk m p) <;> rfl
    · rw [decide_eq_false c2]
      exact seq_ifT (by repeat (first | simp only [f1, f2, mm, hx, cost_of_sm (h.at tm) hp, c2] | walk_at "ev")) rfl
  · have eB : mostB l m j p = false := by
      unfold mostB
      rcases Int.lt_or_le j 0 with c | c
      · rw [decide_eq_false (by omega)]; rfl
      · rw [decide_eq_false (by omega : ¬ j < l.length), Bool.and_false]; rfl
    rw [eB]
    refine seq_ifT ?_ rfl
    by_cases c : 0 ≤ j
    · have c1 : ¬ j < l.length := fun z => c0 ⟨c, z⟩
      repeat (first | simp only [f1, f2, c, c1] | walk_at "ev")
    · repeat (first | simp only [f1, f2, c] | walk_at "ev")
theorem Endless_shows_eq {l : List Tr} {m j : Int} : f_Endless_shows K [endI K j, bk l, .int m] = .ok (.bl (endB l m j)) := by
  have f1 := fld_Endless_place (K := K) (.int j)
  refine run_rt (ret_of ?_)
  unfold endB
  rcases place_cases l j with c0 | ⟨c0, c1⟩ | ⟨c0, c1⟩
  · repeat (first | simp only [f1, c0] | walk_at "ev")
  · repeat (first | simp only [f1, c0, c1] | walk_at "ev")
  · obtain ⟨t, ht, tm, hx⟩ := at_of c0 c1
    by_cases c2 : t.2 = 0
    · repeat (first | simp only [f1, c0, c1, ht, hx, c2] | walk_at "ev")
    · repeat (first | simp only [f1, c0, c1, ht, hx, c2] | walk_at "ev")
theorem dear_eq {l : List Tr} {m : Int} {env : Env} {fi fm : Env → Res D} {i : Nat} (hb : l.length ≤ 1000) (h1 : fi env = .ok (bk l)) (h2 : ∀ t, fm ((env.set i .no).set i (.sh (tr t))) = .ok (.int m)) (hi : i < env.length) :
    eFn allD (aCons (eLC [i] (bNm i) bYes (eOp gtD (eOp ixD (eVar i) (eC (.int 0))) fm) (iL fi)) aNil) env = .ok (.bl (dearB l m)) := by
  have e := eLC_of (vs := [i]) (bt := bNm i) (fe := eOp gtD (eOp ixD (eVar i) (eC (.int 0))) fm) (fi := iL fi) (env := env) l tr (fun t => .bl (decide (m < t.1))) (by
    unfold iL
    rw [h1]
    rfl) (Nat.le_trans hb (by decide)) (fun t ht => ⟨_, rfl, by
    have g : ((env.set i .no).set i (.sh (tr t)))[i]? = some (.sh (tr t)) := by
      rw [List.getElem?_set_self]
      rw [List.length_set]
      exact hi
    simp only [wipeE]
    simp only [eOp, h2, eVar, g]
    walk_at "ev"⟩)
  unfold eFn
  simp only [aCons, aNil, e, Res.bind_ok, allD_map, ofO_some]
  rfl
theorem Dear_shows_eq {l : List Tr} {m : Int} (h : Bk l) : f_Dear_shows K [dearI K, bk l, .int m] = .ok (.bl (dearB l m)) :=
  run_rt (ret_of (dear_eq (Nat.le_trans h.len (by decide)) rfl (fun t => rfl) (by show 3 < 4; decide)))
theorem law_endless_eq {l : List Tr} {m j : Int} : f__law_endless K [bk l, .int m, .int j] = .ok (.bl (endB l m j)) := by
  refine run_rt (ret_of ?_)
  unfold endB
  rcases place_cases l j with c0 | ⟨c0, c1⟩ | ⟨c0, c1⟩
  · repeat (first | simp only [c0] | walk_at "ev")
  · repeat (first | simp only [c0, c1] | walk_at "ev")
  · obtain ⟨t, ht, tm, hx⟩ := at_of c0 c1
    by_cases c2 : t.2 = 0
    · repeat (first | simp only [c0, c1, ht, hx, c2] | walk_at "ev")
    · repeat (first | simp only [c0, c1, ht, hx, c2] | walk_at "ev")
theorem law_most_eq {l : List Tr} {m j : Int} {p : Tr} (h : Bk l) (hp : SmT p) (hm : Sm m) : f__law_most K [bk l, .int m, .int j, tr p] = .ok (.bl (mostB l m j p)) := by
  have mm := mulD_int (mulOk_sm hm hp.b)
  refine run_rt ?_
  refine seq_set (d := .int (m * p.2)) (by repeat (first | simp only [mm] | walk_at "ev")) ?_
  unfold mostB
  rcases place_cases l j with c0 | ⟨c0, c1⟩ | ⟨c0, c1⟩
  · rw [decide_eq_false c0]
    exact seq_ifT (by repeat (first | simp only [c0] | walk_at "ev")) rfl
  · rw [decide_eq_false c1, Bool.and_false]
    exact seq_ifT (by repeat (first | simp only [c0, c1] | walk_at "ev")) rfl
  · obtain ⟨t, ht, tm, hx⟩ := at_of c0 c1
    rw [decide_eq_true c0, decide_eq_true c1, ht]
    show _ = Res.ok (Fl.rt (D.bl ((true && true) && (decide (cst t p = m * p.2) && l.all (mostOk m p)))))
    by_cases c2 : cst t p = m * p.2
    · refine seq_ifF (by repeat (first | simp only [c0, c1, hx, law_cost_eq (h.at tm) hp, c2] | walk_at "ev")) ?_
      rw [decide_eq_true c2]
      have e1 := eLC_of (vs := [5]) (bt := bNm 5) (fe := eOp ltD (eCall (f__law_cost K) (aCons (eVar 5) (aCons (eVar 3) aNil))) (eVar 4)) (fi := iL (eVar 0)) (env := [Sl.sh (bk l), .sh (.int m), .sh (.int j), .sh (tr p), .sh (.int (m * p.2)), .no]) l tr (fun u => .bl (decide (cst u p < m * p.2))) rfl (Nat.le_trans h.len (by decide)) (fun u hu => ⟨_, rfl, by
        simp only [wipeE]
        repeat (first | simp only [law_cost_eq (h.at hu) hp] | walk_at "ev")⟩)
      have e2 := eLC_filter (vs := [5]) (bt := bNm 5) (ft := bV (eOp eqD (eCall (f__law_cost K) (aCons (eVar 5) (aCons (eVar 3) aNil))) (eVar 4))) (fe := eOp gtD (eOp ixD (eVar 5) (eC (.int 1))) (eC (.int 0))) (fi := iL (eVar 0)) (env := [Sl.sh (bk l), .sh (.int m), .sh (.int j), .sh (tr p), .sh (.int (m * p.2)), .no]) l tr (fun u => .bl (decide (0 < u.2))) (fun u => decide (cst u p = m * p.2)) rfl (Nat.le_trans h.len (by decide)) (fun u hu => ⟨_, rfl, by
        simp only [wipeE]
        repeat (first | simp only [law_cost_eq (h.at hu) hp] | walk_at "ev"), fun _ => by
        simp only [wipeE]
        walk_at "ev"⟩)
      show _ = Res.ok (Fl.rt (D.bl ((true && true) && (true && l.all (mostOk m p)))))
      rw [Bool.true_and, Bool.true_and, Bool.true_and]
      by_cases c3 : (l.any fun u => decide (cst u p < m * p.2)) = true
      · have e3 : l.all (mostOk m p) = false := by
          obtain ⟨u, hu, cu⟩ := List.any_eq_true.mp c3
          have cu := of_decide_eq_true cu
          rw [Bool.eq_false_iff]
          intro z
          have := List.all_eq_true.mp z u hu
          unfold mostOk at this
          rw [decide_eq_false (by omega)] at this
          cases this
        rw [e3]
        exact seq_ifT (by rw [← c3]; exact bV_of (any_lc e1)) rfl
      · have c3' : (l.any fun u => decide (cst u p < m * p.2)) = false := by simpa using c3
        refine seq_ifF (by rw [← c3']; exact bV_of (any_lc e1)) (ret_of ?_)
        refine (all_lc e2).trans ?_
        congr 2
        rw [Bool.eq_iff_iff, List.all_eq_true, List.all_eq_true]
        have c4 : ∀ u ∈ l, ¬ cst u p < m * p.2 := fun u hu z => by
          have := List.any_eq_true (p := fun u => decide (cst u p < m * p.2)) |>.mpr ⟨u, hu, decide_eq_true z⟩
          rw [c3'] at this
          cases this
        constructor
        · intro z u hu
          have n := c4 u hu
          unfold mostOk
          rw [decide_eq_true (by omega : m * p.2 ≤ cst u p)]
          by_cases c5 : cst u p = m * p.2
          · have := of_decide_eq_true (z u (List.mem_filter.mpr ⟨hu, decide_eq_true c5⟩))
            rw [decide_eq_false (by omega : ¬ u.2 = 0), Bool.and_false]
            rfl
          · rw [decide_eq_false c5]
            rfl
        · intro z u hu
          obtain ⟨hu, c5⟩ := List.mem_filter.mp hu
          have := z u hu
          unfold mostOk at this
          rw [c5] at this
          have nn := (h.nn u hu).2
          by_cases c6 : u.2 = 0
          · rw [decide_eq_true c6] at this
            simp at this
          · exact decide_eq_true (by omega)
    · rw [decide_eq_false c2]
      exact seq_ifT (by repeat (first | simp only [c0, c1, hx, law_cost_eq (h.at tm) hp, c2] | walk_at "ev")) rfl
/-! ### against -/
theorem pix {ps : List Nat} {i c : Nat} (h : ps[i]? = some c) : ixD (encP ps) (.int (i : Int)) = some (.int (c : Int)) := atI_map (fun (j : Nat) => D.int j) h
theorem pix1 {ps : List Nat} {c : Nat} (h : ps[ps.length - 1]? = some c) : ixD (encP ps) (.int (-1)) = some (.int (c : Int)) := by
  show atI (ps.map fun (j : Nat) => D.int j) (-1) = _
  refine atI_neg1 ?_
  rw [List.length_map, List.getElem?_map, h]
  rfl
theorem against_while {l : List Tr} {ps : List Nat} {t : Tr} (hv : ∀ (i c : Nat), ps[i]? = some c → ∃ tc, l[c]? = some tc) : ∀ (fuel k : Nat) (x1 x3 x5 x6 x7 x9 x10 : Sl), k < ps.length → ps.length - k ≤ fuel → (∃ m c tc, k ≤ m ∧ ps[m]? = some c ∧ l[c]? = some tc ∧ tc.2 ≤ t.2) → (k = 0 ∨ ∃ c tc, ps[k - 1]? = some c ∧ l[c]? = some tc ∧ t.2 < tc.2) →
    ∃ m : Nat, whileS (bV (eOp gtD (eOp ixD (eOp ixD (eVar 0) (eOp ixD (eVar 4) (eVar 8))) (eC (.int 1))) (eOp ixD (eVar 2) (eC (.int 1))))) (sAugA 8 (eC (.int 1))) fuel [.sh (bk l), x1, .sh (tr t), x3, .sh (encP ps), x5, x6, x7, .sh (.int k), x9, x10] = .ok (.nx [.sh (bk l), x1, .sh (tr t), x3, .sh (encP ps), x5, x6, x7, .sh (.int m), x9, x10]) ∧
      (∃ c tc, ps[m]? = some c ∧ l[c]? = some tc ∧ tc.2 ≤ t.2) ∧ (m = 0 ∨ ∃ c tc, ps[m - 1]? = some c ∧ l[c]? = some tc ∧ t.2 < tc.2)
  | 0, k, _, _, _, _, _, _, _, hk, hf, _, _ => by omega
  | fuel + 1, k, x1, x3, x5, x6, x7, x9, x10, hk, hf, ⟨m, c, tc, hm, h1, h2, h3⟩, hprev => by
    obtain ⟨d, hd⟩ : ∃ d, ps[k]? = some d := ⟨_, List.getElem?_eq_getElem hk⟩
    obtain ⟨td, htd⟩ := hv k d hd
    have ev : bV (eOp gtD (eOp ixD (eOp ixD (eVar 0) (eOp ixD (eVar 4) (eVar 8))) (eC (.int 1))) (eOp ixD (eVar 2) (eC (.int 1)))) [.sh (bk l), x1, .sh (tr t), x3, .sh (encP ps), x5, x6, x7, .sh (.int k), x9, x10] = .ok (decide (t.2 < td.2)) := by
      repeat (first | simp only [pix hd, ix_bk htd] | walk_at "ev")
    unfold whileS
    rw [ev, Res.bind_ok]
    by_cases q : t.2 < td.2
    · rw [decide_eq_true q, if_pos rfl]
      have km : k ≠ m := fun z => by
        subst z
        rw [hd] at h1
        cases h1
        rw [htd] at h2
        cases h2
        omega
      have hk' : k + 1 < ps.length := by
        have := (List.getElem?_eq_some_iff.mp h1).1
        omega
      obtain ⟨m', e, rest⟩ := against_while hv fuel (k + 1) x1 x3 x5 x6 x7 x9 x10 hk' (by omega) ⟨m, c, tc, by omega, h1, h2, h3⟩ (.inr ⟨d, td, hd, htd, q⟩)
      refine ⟨m', ?_, rest⟩
      rw [← e]
      have st : sAugA 8 (eC (.int 1)) [.sh (bk l), x1, .sh (tr t), x3, .sh (encP ps), x5, x6, x7, .sh (.int k), x9, x10] = .ok (.nx [.sh (bk l), x1, .sh (tr t), x3, .sh (encP ps), x5, x6, x7, .sh (.int ((k + 1 : Nat) : Int)), x9, x10]) := rfl
      rw [st]
    · rw [decide_eq_false q, if_neg (by decide)]
      exact ⟨k, rfl, ⟨d, td, hd, htd, by omega⟩, hprev⟩
theorem against_eq {l : List Tr} {bs : List Tr} {ps : List Nat} {t : Tr} (h : Bk l) (hb : Lb l) (R : Rg l bs ps) (S : ∀ p ∈ bs, SmT p) (L : LastMin l ps) (t0 : 0 ≤ t.1 ∧ 0 ≤ t.2) (tb : t.1 < 100000000000000000000000000000000000000000000000000 ∧ t.2 < 100000000000000000000000000000000000000000000000000) :
    (∃ p, f_against K [bk l, .tup [bk bs, encP ps], tr t] = .ok (.tup [tr p, .non]) ∧ Am p ∧ SmT p ∧ ∀ u ∈ l, cst t p < cst u p) ∨
    (∃ (i k : Nat) (a b : Int), f_against K [bk l, .tup [bk bs, encP ps], tr t] = .ok (.tup [.non, .tup [.int i, .int k, .int a, .int b]]) ∧ mixB l i k a b t = true ∧ Sm a ∧ Sm b) := by
  have st : SmT t := ⟨sm_lt t0.1 (by omega), sm_lt t0.2 (by omega)⟩
  let I : Nat → Env → Prop := fun n env => ∃ x5 x6, env = [.sh (bk l), .sh (.tup [bk bs, encP ps]), .sh (tr t), .sh (bk bs), .sh (encP ps), x5, x6, .no, .no, .no, .no] ∧ ∀ i p c tc, i < n → bs[i]? = some p → ps[i]? = some c → l[c]? = some tc → cst tc p ≤ cst t p
  have z := for_rt (I := I) (R := fun d => ∃ p, d = .tup [tr p, .non] ∧ Am p ∧ SmT p ∧ ∀ u ∈ l, cst t p < cst u p) (ds := zipD (bs.map tr) (ps.map fun (j : Nat) => .int j)) (fi := iZ (aCons (eVar 3) (aCons (eVar 4) aNil))) (bt := bTup (bsCons (bNm 5) (bsCons (bNm 6) bsNil))) (env := [.sh (bk l), .sh (.tup [bk bs, encP ps]), .sh (tr t), .sh (bk bs), .sh (encP ps), .no, .no, .no, .no, .no, .no])
    (gb := (sIf (bV (eOp gtD (eCall (f_cost_of K) (aCons (eOp ixD (eVar 0) (eVar 6)) (aCons (eVar 5) aNil))) (eCall (f_cost_of K) (aCons (eVar 2) (aCons (eVar 5) aNil))))) (sRet (eTup (aCons (eVar 5) (aCons (eC .non) aNil)))) sNil))
    rfl ⟨_, _, rfl, fun i p c tc hi => absurd hi (Nat.not_lt_zero _)⟩ (fun i d env hd hI => by
      obtain ⟨x5, x6, rfl, hI⟩ := hI
      obtain ⟨p, c, hp, hc, rfl⟩ := zipD_at hd
      obtain ⟨tc, C⟩ := R.one i p c hp hc
      have cm : tc ∈ l := List.mem_of_getElem? C.at_
      have sp := S p (List.mem_of_getElem? hp)
      refine ⟨_, rfl, ?_⟩
      by_cases q : cst t p < cst tc p
      · refine .inr ⟨.tup [tr p, .non], ?_, p, rfl, C.am, sp, fun u hu => ?_⟩
        · repeat (first | simp only [ix_bk C.at_, cost_of_sm (h.at cm) sp, cost_of_sm st sp, q] | walk_at "ev")
        · have := C.le u hu
          omega
      · refine .inl ⟨[.sh (bk l), .sh (.tup [bk bs, encP ps]), .sh (tr t), .sh (bk bs), .sh (encP ps), .sh (tr p), .sh (.int c), .no, .no, .no, .no], ?_, _, _, rfl, fun i' p' c' tc' hi' hp' hc' ht' => ?_⟩
        · repeat (first | simp only [ix_bk C.at_, cost_of_sm (h.at cm) sp, cost_of_sm st sp, q] | walk_at "ev")
        · by_cases e : i' = i
          · subst e
            rw [hp] at hp'
            cases hp'
            rw [hc] at hc'
            cases hc'
            rw [C.at_] at ht'
            cases ht'
            omega
          · exact hI i' p' c' tc' (by omega) hp' hc' ht')
  have len : (zipD (bs.map tr) (ps.map fun (j : Nat) => D.int j)).length = bs.length := by
    rw [zipD_len, List.length_map, List.length_map, R.len, Nat.min_self]
  rcases z with ⟨e, z, x5, x6, rfl, hI⟩ | ⟨d, z, p, rfl, am, sp, hp⟩
  · rw [len] at hI
    obtain ⟨c, tc, hc, ht, hmin⟩ := L
    have cm : tc ∈ l := List.mem_of_getElem? ht
    have cn := h.nn tc cm
    have cb := hb tc cm
    have plen : 0 < ps.length := by
      cases ps with
      | nil => cases hc
      | cons a as => exact Nat.succ_pos _
    obtain ⟨p, hp⟩ : ∃ p, bs[ps.length - 1]? = some p := ⟨_, List.getElem?_eq_getElem (by rw [R.len]; omega)⟩
    have hle := hI _ p c tc (by rw [R.len]; omega) hp hc ht
    obtain ⟨tc', C⟩ := R.one _ p c hp hc
    have et : tc' = tc := by
      have := C.at_
      rw [ht] at this
      cases this
      rfl
    subst et
    by_cases q : t.2 < tc'.2
    · left
      obtain ⟨y0, y1, y2⟩ := last_far C.am.d0 C.am.n0 hle q
      have d0 : 0 < tc'.2 - t.2 := by omega
      have dl : (tc'.2 - t.2).natAbs < lim := sm_lim (sm_lt (Int.le_of_lt d0) (by omega))
      have yb : (t.1 - tc'.1) / (tc'.2 - t.2) ≤ t.1 - tc'.1 ∨ t.1 - tc'.1 < 0 := by
        by_cases s : 0 ≤ t.1 - tc'.1
        · exact .inl (Int.ediv_le_self _ s)
        · exact .inr (by omega)
      have yb2 : (t.1 - tc'.1) / (tc'.2 - t.2) < 100000000000000000000000000000000000000000000000000 := by
        rcases yb with yb | yb
        · omega
        · have : (t.1 - tc'.1) / (tc'.2 - t.2) < 0 := Int.ediv_neg_of_neg_of_pos yb d0
          omega
      refine ⟨((t.1 - tc'.1) / (tc'.2 - t.2) + 1, 1), run_rt ?_, ⟨by show 0 ≤ _ + 1; omega, by show (0 : Int) < 1; decide, ?_⟩, ⟨sm_lt (by show 0 ≤ _ + 1; omega) (by show _ + 1 < _; omega), sm_small (by show (1 : Int).natAbs < _; decide)⟩, fun u hu => ?_⟩
      · refine seq_asg (d := .tup [bk bs, encP ps]) rfl rfl ?_
        refine seq_nx z ?_
        refine seq_set (d := tr tc') (by repeat (first | simp only [pix1 hc, ix_bk ht] | walk_at "ev")) ?_
        refine seq_ifT (by repeat (first | simp only [q] | walk_at "ev")) (ret_of ?_)
        repeat (first | simp only [divD_int d0 dl] | walk_at "ev")
        rfl
      · show gcdI _ 1 = 1
        unfold gcdI
        rw [show ((1 : Int).toNat) = 1 from rfl, Nat.gcd_one_right]
        rfl
      · have := le_on (q := ((t.1 - tc'.1) / (tc'.2 - t.2) + 1, 1)) C.am.d0 (by show (0 : Int) < 1; decide) (C.le u hu) (hmin u hu) y2
        omega
    · right
      obtain ⟨m, ew, ⟨o, to, ho, hto, hol⟩, prev⟩ := against_while (t := t) (l := l) (ps := ps) (fun i c hic => by
        have : i < bs.length := by rw [R.len]; exact (List.getElem?_eq_some_iff.mp hic).1
        obtain ⟨tc, C⟩ := R.one i _ c (List.getElem?_eq_getElem this) hic
        exact ⟨tc, C.at_⟩) (ps.length + 1) 0 (.sh (.tup [bk bs, encP ps])) (.sh (bk bs)) x5 x6 (.sh (tr tc')) .no .no plen (by omega) ⟨_, c, tc', Nat.zero_le _, hc, ht, by omega⟩ (.inl rfl)
      have om : to ∈ l := List.mem_of_getElem? hto
      have on := h.nn to om
      have ob := hb to om
      have start : ∀ (r : D), (sSeq (sAsg (eOp ixD (eVar 4) (eVar 8)) (bNm 9))
    (sSeq (sIf (bV (eOp eqD (eVar 8) (eC (.int 0)))) (sRet (eTup (aCons (eC .non) (aCons (eTup (aCons (eVar 9) (aCons (eVar 9) (aCons (eC (.int 1)) (aCons (eC (.int 0)) aNil))))) aNil)))) sNil)
    (sSeq (sAsg (eOp ixD (eVar 4) (eOp subD (eVar 8) (eC (.int 1)))) (bNm 10))
    (sRet (eTup (aCons (eC .non) (aCons (eTup (aCons (eVar 10) (aCons (eVar 9) (aCons (eOp subD (eOp ixD (eVar 2) (eC (.int 1))) (eOp ixD (eOp ixD (eVar 0) (eVar 9)) (eC (.int 1)))) (aCons (eOp subD (eOp ixD (eOp ixD (eVar 0) (eVar 10)) (eC (.int 1))) (eOp ixD (eVar 2) (eC (.int 1)))) aNil))))) aNil))))))) [.sh (bk l), .sh (.tup [bk bs, encP ps]), .sh (tr t), .sh (bk bs), .sh (encP ps), x5, x6, .sh (tr tc'), .sh (.int m), .no, .no] = .ok (.rt r) → f_against K [bk l, .tup [bk bs, encP ps], tr t] = .ok r := fun r hr => by
        refine run_rt ?_
        refine seq_asg (d := .tup [bk bs, encP ps]) rfl rfl ?_
        refine seq_nx z ?_
        refine seq_set (d := tr tc') (by repeat (first | simp only [pix1 hc, ix_bk ht] | walk_at "ev")) ?_
        refine seq_ifF (by repeat (first | simp only [q] | walk_at "ev")) ?_
        refine seq_set (d := .int 0) rfl ?_
        refine seq_nx (e := [.sh (bk l), .sh (.tup [bk bs, encP ps]), .sh (tr t), .sh (bk bs), .sh (encP ps), x5, x6, .sh (tr tc'), .sh (.int m), .no, .no]) ?_ hr
        show whileS _ _ ((ps.map fun (j : Nat) => D.int j).length + 1) _ = _
        rw [List.length_map]
        exact ew
      rcases Nat.eq_zero_or_pos m with m0 | mp
      · subst m0
        have h00 := hI 0 (0, 1) o to (by rw [R.len]; omega) R.zero ho hto
        have e1 : ∀ v : Tr, cst v (0, 1) = v.1 := fun v => by show v.1 * 1 + v.2 * 0 = v.1; omega
        rw [e1, e1] at h00
        refine ⟨o, o, 1, 0, start _ ?_, mixB_of hto hto (by decide) (by decide) (by decide) (by omega) (by omega), sm_small (by decide), sm_small (by decide)⟩
        refine seq_set (d := .int o) (by repeat (first | simp only [pix ho] | walk_at "ev")) ?_
        refine seq_ifT rfl rfl
      · rcases prev with m0 | ⟨n, tn, hn, htn, hnl⟩
        · omega
        · have nm : tn ∈ l := List.mem_of_getElem? htn
          have nn := h.nn tn nm
          have nb := hb tn nm
          have m1 : m - 1 + 1 = m := by omega
          have ml : m < bs.length := by rw [R.len]; exact (List.getElem?_eq_some_iff.mp ho).1
          obtain ⟨p0, hp0⟩ : ∃ p, bs[m - 1]? = some p := ⟨_, List.getElem?_eq_getElem (by omega)⟩
          obtain ⟨q0, hq0⟩ : ∃ p, bs[m]? = some p := ⟨_, List.getElem?_eq_getElem ml⟩
          obtain ⟨ta, tb', ha, St⟩ := R.two (m - 1) p0 q0 n o hp0 (by rw [m1]; exact hq0) hn (by rw [m1]; exact ho)
          rw [htn] at ha
          cases ha
          have hb' := St.cur.at_
          rw [hto] at hb'
          cases hb'
          have same : cst tn q0 = cst to q0 := by
            have g1 := St.le to om
            have g2 := St.cur.le tn nm
            omega
          have mix := mix_at (t := t) St.cur.am.d0 same (hI m q0 o to ml hq0 ho hto) hol hnl
          refine ⟨n, o, t.2 - to.2, tn.2 - t.2, start _ ?_, mixB_of htn hto (by omega) (by omega) (by omega) mix.1 mix.2, sm_lt (by omega) (by omega), sm_lt (by omega) (by omega)⟩
          have em : (m : Int) - 1 = ((m - 1 : Nat) : Int) := by omega
          have m0 : ¬ (m : Int) = 0 := by omega
          refine seq_set (d := .int o) (by repeat (first | simp only [pix ho] | walk_at "ev")) ?_
          refine seq_ifF (by repeat (first | simp only [m0] | walk_at "ev")) ?_
          refine seq_set (d := .int n) (by repeat (first | simp only [em, pix hn] | walk_at "ev")) ?_
          refine ret_of ?_
          repeat (first | simp only [ix_bk htn, ix_bk hto] | walk_at "ev")
  · left
    exact ⟨p, run_rt (seq_asg (d := .tup [bk bs, encP ps]) rfl rfl (seq_rt z)), am, sp, hp⟩
end Dt.Ws
namespace Dt.Ws
open PySem L2 Dt He
variable {K : PySem.W.Frag}
local macro_rules | `(tactic| walk_at "ev") => `(tactic| simp only [run, fin, envOf, sSeq, sNil, sAsg, sPar, sRet, sRetN, sDrop, sIf, sNever, bNm, bTup, bsCons, bsNil, bOk_ok, eVar, eC, eOp, eUn, toB, bV, bAnd, bOr, bNot, eB, eIf, aNil, aCons, eFn, eCall, eTup, eLst, eFld, eMk, eMk0, eMt, eChain, iL, iT, eSl, eSlSt, oNone, oSome, toI, toL_lst, toT_tup, Res.bind_ok, Res.bind_no, ofO_some, ofO_none, List.map_cons, List.map_nil, List.length_cons, List.length_nil, List.cons_append, List.nil_append, List.replicate, List.getElem?_cons_zero, List.getElem?_cons_succ, List.set_cons_zero, List.set_cons_succ, if_true, if_false, Bool.false_eq_true, Nat.sub_self, Nat.reduceSub, Nat.reduceAdd, isi_int_int, isi_int_bool, isi_int_tuple, isi_int_list, isi_int_str, isi_bl_int, isi_bl_bool, isi_bl_tuple, isi_bl_list, isi_bl_str, isi_non_int, isi_non_bool, isi_non_tuple, isi_non_list, isi_non_str, isi_str_int, isi_str_bool, isi_str_tuple, isi_str_list, isi_str_str, isi_tup_int, isi_tup_bool, isi_tup_tuple, isi_tup_list, isi_tup_str, isi_lst_int, isi_lst_bool, isi_lst_tuple, isi_lst_list, isi_lst_str, isi_tr_int, isi_tr_bool, isi_tr_tuple, isi_tr_list, isi_tr_str, isi_bk_int, isi_bk_bool, isi_bk_tuple, isi_bk_list, isi_bk_str, isi_dic_int, isi_dic_bool, isi_dic_tuple, isi_dic_list, isi_dic_str, isL_bk, divD_2, modD_2, divD_3, modD_3, divD_4, modD_4, divD_5, modD_5, divD_6, modD_6, divD_7, modD_7, divD_8, modD_8, divD_9, modD_9, divD_10, modD_10, divD_11, modD_11, divD_13, modD_13, divD_15, modD_15, divD_17, modD_17, divD_24, modD_24, divD_40, modD_40, divD_41, modD_41, divD_44, modD_44, divD_60, modD_60, divD_90, modD_90, divD_100, modD_100, divD_120, modD_120, divD_T30, modD_T30, divD_T40, modD_T40, divD_T60, modD_T60, powD_30, powD_40, powD_60, sumD_ints, Option.map_some, ↓reduceIte, reduceCtorEq, isLst, addD_int, subD_int, ltD_int, leD_int, gtD_int, geD_int, negD_int, eqD_int, neD_int, ix0_tr, ix1_tr, ix0, ix1, len_tr, len_bk, len_tup2, toL_bk, toT_tr, list_bk, eqD_bk, neD_bk, eqD_tr, neD_tr, eqD_bk0, neD_bk0, Bool.not_true, Bool.not_false, Bool.true_and, Bool.false_and, Bool.and_true, Bool.and_false, decide_true, decide_false])
theorem eView_of {fa : Env → Res D} {env : Env} {d : D} (h : fa (Dt.view env) = .ok d) (hs : isSc d = true) : eView fa env = .ok d := by
  unfold eView
  rw [h]
  show (if isSc d = true then Res.ok d else .no) = _
  rw [if_pos hs]
theorem seq_own {i : Nat} {φ : List D → Res Ow} {fl : Env → Res (List D)} {g2 : Env → Res Fl} {env : Env} {ds : List D} {o : Ow} {r : Res Fl} (h1 : fl env = .ok ds) (h2 : φ ds = .ok o) (h3 : okSl i env o = true) (hr : g2 (env.set i o.sl) = r) : sSeq (sAsgOwn i φ fl) g2 env = r := by
  refine seq_nx ?_ hr
  unfold sAsgOwn
  rw [h1, Res.bind_ok, h2, Res.bind_ok, if_pos h3]
theorem seq_appF {Cs : List Addr} {i : Nat} {f : Str} {fa : Env → Res D} {g2 : Env → Res Fl} {env : Env} {C : Addr} {fs : Fl2} {ds : List D} {d : D} {r : Res Fl} (h1 : env[i]? = some (.oi C fs)) (hC : C ∈ Cs) (h2 : fs.lookup f = some ds) (hl : ds.length < 1000000) (h3 : fa env = .ok d) (hr : g2 (env.set i (.oi C (putL f (ds ++ [d]) fs))) = r) : sSeq (sAppF Cs i f fa) g2 env = r := by
  refine seq_nx ?_ hr
  unfold sAppF
  rw [h1]
  show (if C ∈ Cs then (match fs.lookup f with
    | some ds => if ds.length < 1000000 then (fa env).bind fun d => Res.ok (Fl.nx (env.set i (.oi C (putL f (ds ++ [d]) fs)))) else Res.no
    | none => Res.no) else Res.no) = _
  rw [if_pos hC, h2]
  show (if ds.length < 1000000 then (fa env).bind fun d => Res.ok (Fl.nx (env.set i (.oi C (putL f (ds ++ [d]) fs)))) else Res.no) = _
  rw [if_pos hl, h3]
  rfl
theorem seq_popF {Cs : List Addr} {i : Nat} {f : Str} {g2 : Env → Res Fl} {env : Env} {C : Addr} {fs : Fl2} {ds : List D} {r : Res Fl} (h1 : env[i]? = some (.oi C fs)) (hC : C ∈ Cs) (h2 : fs.lookup f = some ds) (hl : ds.length ≠ 0) (hr : g2 (env.set i (.oi C (putL f ds.dropLast fs))) = r) : sSeq (sPopF Cs i f) g2 env = r := by
  refine seq_nx ?_ hr
  unfold sPopF
  rw [h1]
  show (if C ∈ Cs then (match fs.lookup f with
    | some ds => if ds.length = 0 then Res.no else Res.ok (Fl.nx (env.set i (.oi C (putL f ds.dropLast fs))))
    | none => Res.no) else Res.no) = _
  rw [if_pos hC, h2]
  show (if ds.length = 0 then Res.no else Res.ok (Fl.nx (env.set i (.oi C (putL f ds.dropLast fs))))) = _
  rw [if_neg hl]
theorem soSeq_nx {g1 : Env → Res Fl} {g2 : Env → Res Fo} {env e : Env} {r : Res Fo} (h : g1 env = .ok (.nx e)) (hr : g2 e = r) : soSeq g1 g2 env = r := by
  unfold soSeq
  rw [h]
  exact hr
theorem soMk_of {C : Addr} {g : List D → Option Fs} {fl : Env → Res (List D)} {env : Env} {ds : List D} {fs : Fl2} (h1 : fl env = .ok ds) (h2 : (g ds).bind allL = some fs) : soMk C g fl env = .ok (.ow (.ins C fs)) := by
  unfold soMk
  rw [h1, Res.bind_ok, h2]
theorem runO_ow {n : Nat} {g : Env → Res Fo} {ds : List D} {o : Ow} (h : g (envOf n ds) = .ok (.ow o)) : runO n g ds = .ok o := by
  unfold runO
  rw [h]
theorem acons {fa : Env → Res D} {fl : Env → Res (List D)} {env : Env} {a : D} {r : List D} (h : fa env = .ok a) (hr : fl env = .ok r) : aCons fa fl env = .ok (a :: r) := by
  unfold aCons
  rw [h, Res.bind_ok, hr]
  rfl
theorem anil {env : Env} : aNil env = .ok [] := rfl
theorem view_is {i : Nat} {C : Addr} {env : Env} {d : D} {b : Bool} (hd : eVar i (Dt.view env) = .ok d) (h : isiD K (cis K) [d, .cls C] = some (.bl b)) : eView (eFn (isiD K (cis K)) (aCons (eVar i) (aCons (eC (.cls C)) aNil))) env = .ok (.bl b) := eView_of (fn2 (a := d) (b := .cls C) hd rfl h) rfl
theorem eLst_of {fl : Env → Res (List D)} {env : Env} {ds : List D} (h : fl env = .ok ds) : eLst fl env = .ok (.lst ds) := by
  unfold eLst
  rw [h]
  rfl
def nints (ps : List Nat) : List Int := ps.map fun (j : Nat) => (j : Int)
theorem encP_nints (ps : List Nat) : encP ps = .lst ((nints ps).map D.int) := by
  unfold encP nints
  rw [List.map_map]
  rfl
theorem nints_get {ps : List Nat} {i c : Nat} (h : ps[i]? = some c) : pAt (nints ps) i = (c : Int) := by
  unfold pAt nints
  rw [List.getD_eq_getElem?_getD, List.getElem?_map, h]
  rfl
theorem bAt_of {bs : List Tr} {i : Nat} {p : Tr} (h : bs[i]? = some p) : bAt bs i = p := by
  unfold bAt
  rw [List.getD_eq_getElem?_getD, h]
  rfl
/-! ### lists of one kind -/
structure Cod {α : Type} (f : α → D) (p : α → PyData) : Prop where
  py : ∀ x, toPy (f x) = some (p x)
  sh : ∀ ys : List α, SeqAt.shaped (.list (ys.map p)) = true
theorem cod_pys {α : Type} {f : α → D} {p : α → PyData} (c : Cod f p) : ∀ ys : List α, toPys (ys.map f) = some (ys.map p)
  | [] => rfl
  | y :: ys => by
    show (match toPy (f y), toPys (ys.map f) with | some a, some b => some (a :: b) | _, _ => none) = _
    rw [c.py, cod_pys c ys]
    rfl
theorem cod_neS {α : Type} {f : α → D} {p : α → PyData} (c : Cod f p) (xs : List α) : neD (.lst (xs.map f)) (.lst (xs.map f)) = some (.bl false) := by
  refine neD_self (p := .list (xs.map p)) rfl ?_ (c.sh xs)
  show (toPys (xs.map f)).map PyData.list = _
  rw [cod_pys c]
  rfl
theorem neD_of_eqD {a b : D} {c : Bool} (h : eqD a b = some (.bl c)) : neD a b = some (.bl (!c)) := by
  unfold eqD at h
  unfold neD
  cases e : eqB a b with
  | none => rw [e] at h; cases h
  | some x => rw [e] at h; cases h; rfl
theorem cod_ne0 {α : Type} {f : α → D} {p : α → PyData} (c : Cod f p) (xs : List α) : neD (.lst (xs.map f)) (.lst []) = some (.bl (!decide (xs = []))) := neD_of_eqD (eqD_l0 c.py c.sh)
theorem cod_tr : Cod tr trP := ⟨toPy_tr, shaped_bk⟩
theorem cod_int : Cod D.int PyData.int := ⟨fun _ => rfl, shaped_ints⟩
def rowP (r : Rw) : PyData := .tuple [.int r.1, .int r.2.1, .int r.2.2.1, .int r.2.2.2]
theorem canLay_rows : ∀ l : List Rw, PyData.canLayAll0 (l.map rowP) = true
  | [] => rfl
  | t :: l => by
    show ((rowP t).canLay0 && PyData.canLayAll0 (l.map rowP)) = true
    rw [canLay_rows l]
    rfl
theorem depth_rows : ∀ l : List Rw, PyData.depthAll (l.map rowP) ≤ 1
  | [] => Nat.zero_le _
  | t :: l => by
    show max (PyData.depth (rowP t)) (PyData.depthAll (l.map rowP)) ≤ 1
    have := depth_rows l
    have h : PyData.depth (rowP t) = 1 := rfl
    omega
theorem cod_row : Cod rD rowP := ⟨fun _ => rfl, fun ys => by
  show (PyData.canLayAll0 (ys.map rowP) && decide (PyData.depthAll (ys.map rowP) + 1 ≤ 64)) = true
  rw [canLay_rows, decide_eq_true (by have := depth_rows ys; omega)]
  rfl⟩
/-! ### cuts -/
theorem cutG_map {α β : Type} (f : α → β) (xs : List α) (lo hi : Option Int) : cutG (xs.map f) lo hi = (cutG xs lo hi).map f := by
  unfold cutG
  rw [List.length_map, ← List.map_drop, ← List.map_take]
theorem cutG_mem {α : Type} {xs : List α} {lo hi : Option Int} {x : α} (h : x ∈ cutG xs lo hi) : x ∈ xs := List.mem_of_mem_drop (List.mem_of_mem_take h)
theorem cutG_len {α : Type} (xs : List α) (lo hi : Option Int) : (cutG xs lo hi).length ≤ xs.length := by
  unfold cutG
  rw [List.length_take, List.length_drop]
  omega
theorem cut_pre {α : Type} (xs : List α) (n : Nat) : (cutG xs none (some (n : Int))).length = min n xs.length := by
  unfold cutG
  rw [HT.sIx_nat, List.length_take, List.length_drop]
  show min (min n xs.length - 0) (xs.length - 0) = _
  omega
theorem cut_suf {α : Type} (xs : List α) (n : Nat) : (cutG xs (some (n : Int)) none).length = xs.length - n := by
  unfold cutG
  rw [HT.sIx_nat, List.length_take, List.length_drop]
  show min (xs.length - min n xs.length) (xs.length - min n xs.length) = _
  omega
theorem cut_mid {α : Type} (xs : List α) (n : Nat) : (cutG xs (some (n : Int)) (some ((n : Int) + 1))).length ≤ 1 := by
  unfold cutG
  rw [show (n : Int) + 1 = ((n + 1 : Nat) : Int) by omega, HT.sIx_nat, HT.sIx_nat, List.length_take, List.length_drop]
  omega
theorem cat_of {i : Nat} {fa fb : Env → Res D} {env : Env} {x y : List D} (h1 : fa env = .ok (.lst x)) (h2 : fb env = .ok (.lst y)) (h : x.length + y.length ≤ 1000000) : sAsgCat i fa fb env = .ok (.nx (env.set i (.ow (x ++ y)))) := by
  unfold sAsgCat
  rw [h1, Res.bind_ok, h2, Res.bind_ok]
  show (if x.length + y.length ≤ 1000000 then Res.ok (Fl.nx (env.set i (.ow (x ++ y)))) else .no) = _
  rw [if_pos h]
theorem addD_lst {x y : List D} (h : x.length + y.length ≤ 1000000) : addD (.lst x) (.lst y) = some (.lst (x ++ y)) := by
  show (if x.length + y.length ≤ 1000000 then some (D.lst (x ++ y)) else none) = _
  rw [if_pos h]
theorem ifN {fc : Env → Res Bool} {g1 g2 : Env → Res Fl} {env : Env} {r : Res Fl} (h : fc env = .ok true) (hr : g1 env = r) : sIf fc g1 g2 env = r := by
  unfold sIf
  rw [h]
  exact hr
theorem mod_at (x : Int) (n : Nat) (h : 0 < n) : ∃ k : Nat, x % (n : Int) = k ∧ k < n := by
  have h0 := Int.emod_nonneg x (show (n : Int) ≠ 0 by omega)
  have h1 := Int.emod_lt_of_pos x (show (0 : Int) < n by omega)
  exact ⟨(x % n).toNat, (Int.toNat_of_nonneg h0).symm, by omega⟩
theorem bent_eq {α : Type} {f : α → D} {p : α → PyData} (c : Cod f p) (xs : List α) (ns : List Int) (m : α) (hl : xs.length + ns.length ≤ 5000) :
    ∃ zs : List α, f__law_bent K [.lst (xs.map f), .lst (ns.map D.int), f m] = .ok (.lst (zs.map f)) ∧ zs.length ≤ xs.length + ns.length ∧ ∀ z ∈ zs, z ∈ xs ∨ z = m := by
  let I : Nat → Env → Prop := fun i env => ∃ (zs : List α) (a4 a5 : Sl), env = [.sh (.lst (xs.map f)), .sh (.lst (ns.map D.int)), .sh (f m), .ow (zs.map f), a4, a5] ∧ zs.length ≤ xs.length + i ∧ i ≤ ns.length ∧ ∀ z ∈ zs, z ∈ xs ∨ z = m
  have z := for_rt (I := I) (R := fun _ => False) (ds := ns.map D.int) (fi := iL (eVar 1)) (bt := bNm 4) (env := [.sh (.lst (xs.map f)), .sh (.lst (ns.map D.int)), .sh (f m), .ow (xs.map f), .no, .no])
    (gb := (sSeq (sAsg (eView (eOp modD (eOp divD (eVar 4) (eC (.int 17))) (eFn maxD (aCons (eC (.int 1)) (aCons (eFn lenD (aCons (eVar 3) aNil)) aNil))))) (bNm 5))
    (sSeq (sIf (bV (eOp eqD (eOp modD (eVar 4) (eC (.int 17))) (eC (.int 0)))) (fun env => sAsgCat 3 (eSl (eVar 3) oNone (oSome (eVar 5))) (eSl (eVar 3) (oSome (eOp addD (eVar 5) (eC (.int 1)))) oNone) (frz 3 env)) sNil)
    (sSeq (sIf (bV (eOp eqD (eOp modD (eVar 4) (eC (.int 17))) (eC (.int 1)))) (fun env => sAsgCat 3 (eOp addD (eSl (eVar 3) oNone (oSome (eVar 5))) (eLst (aCons (eVar 2) aNil))) (eSl (eVar 3) (oSome (eVar 5)) oNone) (frz 3 env)) sNil)
    (sSeq (sIf (bV (eOp eqD (eOp modD (eVar 4) (eC (.int 17))) (eC (.int 2)))) (fun env => sAsgCat 3 (eOp addD (eSl (eVar 3) oNone (oSome (eVar 5))) (eSl (eVar 3) (oSome (eVar 5)) (oSome (eOp addD (eVar 5) (eC (.int 1)))))) (eSl (eVar 3) (oSome (eVar 5)) oNone) (frz 3 env)) sNil)
    (sIf (bView (bAnd (bV (eOp eqD (eOp modD (eVar 4) (eC (.int 17))) (eC (.int 3)))) (bV (eOp neD (eVar 3) (eLst aNil))))) (sSwap 3 5) sNil))))))
    rfl ⟨xs, _, _, rfl, Nat.le_refl _, Nat.zero_le _, fun z hz => .inl hz⟩ (fun i d env hd hI => by
      obtain ⟨zs, a4, a5, rfl, hlen, hi, hz⟩ := hI
      rw [List.getElem?_map] at hd
      cases ht : ns[i]? with
      | none => rw [ht] at hd; cases hd
      | some t =>
        rw [ht] at hd
        cases hd
        have il : i < ns.length := (List.getElem?_eq_some_iff.mp ht).1
        refine ⟨[.sh (.lst (xs.map f)), .sh (.lst (ns.map D.int)), .sh (f m), .ow (zs.map f), .sh (.int t), a5], rfl, .inl ?_⟩
        obtain ⟨k, ek, hk⟩ := mod_at (t / 17) (max 1 zs.length) (by omega)
        have em : max (1 : Int) (zs.length : Int) = ((max 1 zs.length : Nat) : Int) := by omega
        have hm0 : 0 < ((max 1 zs.length : Nat) : Int) := by omega
        have first : eView (eOp modD (eOp divD (eVar 4) (eC (.int 17))) (eFn maxD (aCons (eC (.int 1)) (aCons (eFn lenD (aCons (eVar 3) aNil)) aNil)))) [.sh (.lst (xs.map f)), .sh (.lst (ns.map D.int)), .sh (f m), .ow (zs.map f), .sh (.int t), a5] = .ok (.int (k : Int)) := by
          refine eView_of ?_ rfl
          refine op_of (a := .int (t / 17)) (b := .int ((max 1 zs.length : Nat) : Int)) (op_of (a := .int t) (b := .int 17) rfl rfl divD_17) (fn2 (a := .int 1) (b := .int zs.length) rfl (fn1 (a := .lst (zs.map f)) rfl lenI) (by rw [maxD2, em])) ?_
          rw [modD_int hm0, ek]
        have test : ∀ j : Int, bV (eOp eqD (eOp modD (eVar 4) (eC (.int 17))) (eC (.int j))) [.sh (.lst (xs.map f)), .sh (.lst (ns.map D.int)), .sh (f m), .ow (zs.map f), .sh (.int t), .sh (.int (k : Int))] = .ok (decide (t % 17 = j)) := fun j => bV_of (op_of (a := .int (t % 17)) (b := .int j) (op_of (a := .int t) (b := .int 17) rfl rfl modD_17) rfl eqD_int)
        have test' : ∀ (j : Int) (ys : List D), bV (eOp eqD (eOp modD (eVar 4) (eC (.int 17))) (eC (.int j))) [.sh (.lst (xs.map f)), .sh (.lst (ns.map D.int)), .sh (f m), .ow ys, .sh (.int t), .sh (.int (k : Int))] = .ok (decide (t % 17 = j)) := fun j ys => bV_of (op_of (a := .int (t % 17)) (b := .int j) (op_of (a := .int t) (b := .int 17) rfl rfl modD_17) rfl eqD_int)
        have tv : ∀ ys : List D, bV (eOp eqD (eOp modD (eVar 4) (eC (.int 17))) (eC (.int 3))) (Dt.view [.sh (.lst (xs.map f)), .sh (.lst (ns.map D.int)), .sh (f m), .ow ys, .sh (.int t), .sh (.int (k : Int))]) = .ok (decide (t % 17 = 3)) := fun ys => bV_of (op_of (a := .int (t % 17)) (b := .int 3) (op_of (a := .int t) (b := .int 17) rfl rfl modD_17) rfl eqD_int)
        have tail : ∀ (ws : List α), t % 17 ≠ 3 → ws.length ≤ xs.length + (i + 1) → (∀ z ∈ ws, z ∈ xs ∨ z = m) → ∃ e2, sIf (bView (bAnd (bV (eOp eqD (eOp modD (eVar 4) (eC (.int 17))) (eC (.int 3)))) (bV (eOp neD (eVar 3) (eLst aNil))))) (sSwap 3 5) sNil [.sh (.lst (xs.map f)), .sh (.lst (ns.map D.int)), .sh (f m), .ow (ws.map f), .sh (.int t), .sh (.int (k : Int))] = .ok (.nx e2) ∧ I (i + 1) e2 := fun ws n3 hw hm => ⟨_, ifF (bAnd_F ((tv _).trans (by rw [decide_eq_false n3]))), ws, _, _, rfl, hw, il, hm⟩
        have sz : zs.length ≤ 10000 := by omega
        have l1 := cut_pre (zs.map f) k
        have l2 := cut_suf (zs.map f) k
        have l3 := cut_suf (zs.map f) (k + 1)
        have l4 := cut_mid (zs.map f) k
        rw [List.length_map] at l1 l2 l3
        have sum : ∀ (ws : List α), (∀ z ∈ ws, z ∈ zs ∨ z = m) → ∀ z ∈ ws, z ∈ xs ∨ z = m := fun ws h z hz' => (h z hz').elim (fun h => hz z h) .inr
        have k1 : (k : Int) + 1 = ((k + 1 : Nat) : Int) := by omega
        have start : ∀ {g2 : Env → Res Fl} {P : Env → Prop}, (∃ e2, g2 [.sh (.lst (xs.map f)), .sh (.lst (ns.map D.int)), .sh (f m), .ow (zs.map f), .sh (.int t), .sh (.int (k : Int))] = .ok (.nx e2) ∧ P e2) → ∃ e2, sSeq (sAsg (eView (eOp modD (eOp divD (eVar 4) (eC (.int 17))) (eFn maxD (aCons (eC (.int 1)) (aCons (eFn lenD (aCons (eVar 3) aNil)) aNil))))) (bNm 5)) g2 [.sh (.lst (xs.map f)), .sh (.lst (ns.map D.int)), .sh (f m), .ow (zs.map f), .sh (.int t), a5] = .ok (.nx e2) ∧ P e2 := fun ⟨e2, h1, h2⟩ => ⟨e2, seq_set first h1, h2⟩
        refine start ?_
        by_cases c0 : t % 17 = 0
        · obtain ⟨e2, h1, h2⟩ := tail (cutG zs none (some (k : Int)) ++ cutG zs (some ((k : Int) + 1)) none) (by omega) (by rw [List.length_append, k1, cut_pre, cut_suf]; omega) (sum _ fun z hz' => .inl ((List.mem_append.mp hz').elim cutG_mem cutG_mem))
          refine ⟨e2, seq_nx (ifN ((test 0).trans (by rw [decide_eq_true c0])) (cat_of (x := cutG (zs.map f) none (some (k : Int))) (y := cutG (zs.map f) (some ((k : Int) + 1)) none) rfl rfl (by rw [k1]; omega))) ?_, h2⟩
          rw [cutG_map, cutG_map, ← List.map_append]
          exact seq_ifF ((test' 1 _).trans (by rw [decide_eq_false (by omega)])) (seq_ifF ((test' 2 _).trans (by rw [decide_eq_false (by omega)])) h1)
        · by_cases c1 : t % 17 = 1
          · obtain ⟨e2, h1, h2⟩ := tail ((cutG zs none (some (k : Int)) ++ [m]) ++ cutG zs (some (k : Int)) none) (by omega) (by rw [List.length_append, List.length_append, cut_pre, cut_suf]; show min k zs.length + 1 + _ ≤ _; omega) (sum _ fun z hz' => (List.mem_append.mp hz').elim (fun h => (List.mem_append.mp h).elim (fun h => .inl (cutG_mem h)) fun h => .inr (List.mem_singleton.mp h)) fun h => .inl (cutG_mem h))
            refine ⟨e2, seq_ifF ((test 0).trans (by rw [decide_eq_false c0])) (seq_nx (ifN ((test 1).trans (by rw [decide_eq_true c1])) (cat_of (x := cutG (zs.map f) none (some (k : Int)) ++ [f m]) (y := cutG (zs.map f) (some (k : Int)) none) (op_of (a := .lst (cutG (zs.map f) none (some (k : Int)))) (b := .lst [f m]) rfl rfl (addD_lst (by show _ + 1 ≤ _; omega))) rfl (by rw [List.length_append]; show _ + 1 + _ ≤ _; omega))) ?_), h2⟩
            have e : cutG (zs.map f) none (some (k : Int)) ++ [f m] ++ cutG (zs.map f) (some (k : Int)) none = ((cutG zs none (some (k : Int)) ++ [m]) ++ cutG zs (some (k : Int)) none).map f := by
              rw [cutG_map, cutG_map, List.map_append, List.map_append]
              rfl
            rw [e]
            exact seq_ifF ((test' 2 _).trans (by rw [decide_eq_false (by omega)])) h1
          · by_cases c2 : t % 17 = 2
            · obtain ⟨e2, h1, h2⟩ := tail ((cutG zs none (some (k : Int)) ++ cutG zs (some (k : Int)) (some ((k : Int) + 1))) ++ cutG zs (some (k : Int)) none) (by omega) (by rw [List.length_append, List.length_append, cut_pre, cut_suf]; have := cut_mid zs k; omega) (sum _ fun z hz' => .inl ((List.mem_append.mp hz').elim (fun h => (List.mem_append.mp h).elim cutG_mem cutG_mem) cutG_mem))
              refine ⟨e2, seq_ifF ((test 0).trans (by rw [decide_eq_false c0])) (seq_ifF ((test 1).trans (by rw [decide_eq_false c1])) (seq_nx (ifN ((test 2).trans (by rw [decide_eq_true c2])) (cat_of (x := cutG (zs.map f) none (some (k : Int)) ++ cutG (zs.map f) (some (k : Int)) (some ((k : Int) + 1))) (y := cutG (zs.map f) (some (k : Int)) none) (op_of (a := .lst (cutG (zs.map f) none (some (k : Int)))) (b := .lst (cutG (zs.map f) (some (k : Int)) (some ((k : Int) + 1)))) rfl rfl (addD_lst (by omega))) rfl (by rw [List.length_append]; omega))) ?_)), h2⟩
              have e : cutG (zs.map f) none (some (k : Int)) ++ cutG (zs.map f) (some (k : Int)) (some ((k : Int) + 1)) ++ cutG (zs.map f) (some (k : Int)) none = ((cutG zs none (some (k : Int)) ++ cutG zs (some (k : Int)) (some ((k : Int) + 1))) ++ cutG zs (some (k : Int)) none).map f := by
                rw [cutG_map, cutG_map, cutG_map, List.map_append, List.map_append]
              rw [e]
              exact h1
            · by_cases c3 : t % 17 = 3
              · by_cases cz : zs = []
                · refine ⟨_, seq_ifF ((test 0).trans (by rw [decide_eq_false c0])) (seq_ifF ((test 1).trans (by rw [decide_eq_false c1])) (seq_ifF ((test 2).trans (by rw [decide_eq_false c2])) (ifF (bAnd_T ((tv _).trans (by rw [decide_eq_true c3])) (bV_of (op_of (a := .lst (zs.map f)) (b := .lst []) rfl rfl ((cod_ne0 c zs).trans (by rw [decide_eq_true cz]; rfl)))))))), zs, _, _, rfl, by omega, il, hz⟩
                · have zl : 0 < zs.length := List.length_pos_iff.mpr cz
                  have kl : k < zs.length := by omega
                  have g0 : zs[0]? = some zs[0] := List.getElem?_eq_getElem zl
                  have gk : zs[k]? = some zs[k] := List.getElem?_eq_getElem kl
                  have sw : sSwap 3 5 [.sh (.lst (xs.map f)), .sh (.lst (ns.map D.int)), .sh (f m), .ow (zs.map f), .sh (.int t), .sh (.int (k : Int))] = .ok (.nx [.sh (.lst (xs.map f)), .sh (.lst (ns.map D.int)), .sh (f m), .ow (((zs.set k zs[0]).set 0 zs[k]).map f), .sh (.int t), .sh (.int (k : Int))]) := by
                    have a1 : atI (zs.map f) 0 = some (f zs[0]) := atI_map f (j := 0) g0
                    have a2 : atI (zs.map f) (k : Int) = some (f zs[k]) := atI_map f gk
                    have a3 : ixN (zs.map f).length (k : Int) = some k := by
                      rw [List.length_map]
                      unfold ixN
                      rw [if_pos (by omega), if_pos (by omega)]
                      rfl
                    show (match atI (zs.map f) 0, atI (zs.map f) (k : Int), ixN (zs.map f).length (k : Int) with
                      | some a, some b, some j => Res.ok (Fl.nx ([Sl.sh (.lst (xs.map f)), .sh (.lst (ns.map D.int)), .sh (f m), .ow (zs.map f), .sh (.int t), .sh (.int (k : Int))].set 3 (.ow (((zs.map f).set j a).set 0 b))))
                      | _, _, _ => .no) = _
                    rw [a1, a2, a3, List.map_set, List.map_set]
                    rfl
                  refine ⟨_, seq_ifF ((test 0).trans (by rw [decide_eq_false c0])) (seq_ifF ((test 1).trans (by rw [decide_eq_false c1])) (seq_ifF ((test 2).trans (by rw [decide_eq_false c2])) (ifN (bAnd_T ((tv _).trans (by rw [decide_eq_true c3])) (bV_of (op_of (a := .lst (zs.map f)) (b := .lst []) rfl rfl ((cod_ne0 c zs).trans (by rw [decide_eq_false cz]; rfl))))) sw))), _, _, _, rfl, by rw [List.length_set, List.length_set]; omega, il, sum _ fun z hz' => .inl ?_⟩
                  rcases List.mem_or_eq_of_mem_set hz' with h | h
                  · rcases List.mem_or_eq_of_mem_set h with h | h
                    · exact h
                    · rw [h]; exact List.getElem_mem zl
                  · rw [h]; exact List.getElem_mem kl
              · obtain ⟨e2, h1, h2⟩ := tail zs c3 (by omega) hz
                exact ⟨e2, seq_ifF ((test 0).trans (by rw [decide_eq_false c0])) (seq_ifF ((test 1).trans (by rw [decide_eq_false c1])) (seq_ifF ((test 2).trans (by rw [decide_eq_false c2])) h1)), h2⟩)
  rcases z with ⟨e, z, zs, a4, a5, rfl, hlen, _, hz⟩ | ⟨d, _, h⟩
  · rw [List.length_map] at hlen
    exact ⟨zs, run_rt (seq_nx (e := [.sh (.lst (xs.map f)), .sh (.lst (ns.map D.int)), .sh (f m), .ow (xs.map f), .no, .no]) rfl (seq_nx z rfl)), hlen, hz⟩
  · exact h.elim
/-! ### the law's parts -/
theorem fld_ok {Cs : List Addr} {f : Str} {fo : Env → Res D} {env : Env} {o d : D} (h1 : fo env = .ok o) (h2 : fldD Cs f o = some d) : eFld Cs f fo env = .ok d := by
  unfold eFld eUn
  rw [h1, Res.bind_ok, h2]
  rfl
theorem eTup_of {fl : Env → Res (List D)} {env : Env} {ds : List D} (h : fl env = .ok ds) : eTup fl env = .ok (.tup ds) := by
  unfold eTup
  rw [h]
  rfl
theorem law_says_eq (a : Bool) : f__law_says K [.bl a, .bl a] = .ok (.bl true) := by
  have e : eqD (.bl a) (.bl a) = some (.bl true) := by cases a <;> rfl
  refine run_rt (ret_of ?_)
  repeat (first | simp only [e] | walk_at "ev")
theorem law_says_no {a b : Bool} (h : a ≠ b) : f__law_says K [.bl a, .bl b] = .ok (.bl false) := by
  have e : eqD (.bl a) (.bl b) = some (.bl false) := by
    cases a <;> cases b <;> first | rfl | exact absurd rfl h
  refine run_rt (ret_of ?_)
  repeat (first | simp only [e] | walk_at "ev")
theorem one_right_eq {l : List Tr} {j : Nat} {t p : Tr} {i k a b : Int} (h : Bk l) (hj : l[j]? = some t) (hp : SmT p) (sa : Sm a) (sb : Sm b) : f__law_one_right K [bk l, .int j, tr p, rowD i k a b] = .ok (.bl true) := by
  refine run_rt ?_
  refine seq_ifF (bNot_of (b := true) (bV_of (call2 (a := .bl (aloneB l j t p)) (b := .bl (aloneB l j t p)) (mth_hit (fs := [("amount", tr p)]) (ds := [bk l, .int j]) rfl rfl (Alone_shows_eq h hp hj) rfl) (call3 (a := bk l) (b := .int j) (c := tr p) rfl rfl rfl (law_alone_eq h hp hj)) (law_says_eq _)))) ?_
  refine seq_set (d := needI K i k a b) rfl ?_
  refine seq_ifF (bV_of (op_of (a := rowD i k a b) (b := rowD i k a b) (eTup_of (acons (fld_ok rfl (fld_Needless_one (.int i) (.int k) (.int a) (.int b))) (acons (fld_ok rfl (fld_Needless_other (.int i) (.int k) (.int a) (.int b))) (acons (fld_ok rfl (fld_Needless_first (.int i) (.int k) (.int a) (.int b))) (acons (fld_ok rfl (fld_Needless_second (.int i) (.int k) (.int a) (.int b))) anil))))) rfl (neD_self (p := rowP (i, k, a, b)) rfl rfl rfl))) ?_
  exact ret_of (call2 (a := .bl (needB l j t i k a b)) (b := .bl (needB l j t i k a b)) (mth_hit (fs := [("one", .int i), ("other", .int k), ("first", .int a), ("second", .int b)]) (ds := [bk l, .int j]) rfl rfl (Needless_shows_eq h sa sb hj) rfl) (call3 (a := bk l) (b := .int j) (c := rowD i k a b) rfl rfl rfl (law_needless_eq h sa sb hj)) (law_says_eq _))
theorem call4 {φ : List D → Res D} {fa fb fc fd : Env → Res D} {env : Env} {rd : Res D} {a b c d : D} (h1 : fa env = .ok a) (h2 : fb env = .ok b) (h3 : fc env = .ok c) (h4 : fd env = .ok d) (h : φ [a, b, c, d] = rd) : eCall φ (aCons fa (aCons fb (aCons fc (aCons fd aNil)))) env = rd := by
  unfold eCall aCons aNil
  simp only [h1, h2, h3, h4, Res.bind_ok]
  exact h
theorem money_right_eq {l : List Tr} {m j : Int} {p : Tr} (h : Bk l) (hm : Sm m) (hp : SmT p) : f__law_money_right K [bk l, .int m, .int j, tr p] = .ok (.bl true) := by
  refine run_rt ?_
  refine seq_ifF (bNot_of (b := true) (bV_of (call2 (a := .bl (mostB l m j p)) (b := .bl (mostB l m j p)) (mth_hit (fs := [("place", .int j), ("amount", tr p)]) (ds := [bk l, .int m]) rfl rfl (Most_shows_eq h hp hm) rfl) (call4 (a := bk l) (b := .int m) (c := .int j) (d := tr p) rfl rfl rfl rfl (law_most_eq h hp hm)) (law_says_eq _)))) ?_
  refine seq_ifF (bNot_of (b := true) (bV_of (call2 (a := .bl (endB l m j)) (b := .bl (endB l m j)) (mth_hit (fs := [("place", .int j)]) (ds := [bk l, .int m]) rfl rfl Endless_shows_eq rfl) (call3 (a := bk l) (b := .int m) (c := .int j) rfl rfl rfl law_endless_eq) (law_says_eq _)))) ?_
  exact ret_of (call2 (a := .bl (dearB l m)) (b := .bl (dearB l m)) (mth_hit (fs := []) (ds := [bk l, .int m]) rfl rfl (Dear_shows_eq h) rfl) (dear_eq (Nat.le_trans h.len (by decide)) rfl (fun t => rfl) (by show 4 < 5; decide)) (law_says_eq _))
/-! ### ranges: told and bent -/
theorem sl_ok {α : Type} {f : α → D} {xs : List α} {fa : Env → Res D} {fl fh : Env → Res (Option Int)} {env : Env} {lo hi : Option Int} (h1 : fa env = .ok (.lst (xs.map f))) (h2 : fl env = .ok lo) (h3 : fh env = .ok hi) : eSl fa fl fh env = .ok (.lst ((cutG xs lo hi).map f)) := by
  unfold eSl
  rw [h1, Res.bind_ok, h2, Res.bind_ok, h3, Res.bind_ok]
  show Res.ok (D.lst (cutG (xs.map f) lo hi)) = _
  rw [cutG_map]
theorem cat_ok {α : Type} {f : α → D} {xs ys : List α} {fa fb : Env → Res D} {env : Env} (h1 : fa env = .ok (.lst (xs.map f))) (h2 : fb env = .ok (.lst (ys.map f))) (h : xs.length + ys.length ≤ 1000000) : eOp addD fa fb env = .ok (.lst ((xs ++ ys).map f)) := by
  refine op_of h1 h2 ?_
  rw [addD_lst (by rw [List.length_map, List.length_map]; exact h), List.map_append]
theorem seq_par {i j : Nat} {fl : Env → Res (List D)} {g2 : Env → Res Fl} {env : Env} {a b : D} {r : Res Fl} (h : fl env = .ok [a, b]) (hr : g2 ((env.set i (.sh a)).set j (.sh b)) = r) : sSeq (sPar i j fl) g2 env = r := by
  refine seq_nx ?_ hr
  unfold sPar
  rw [h]
  rfl
theorem flats_map {α : Type} {f : α → D} (h : ∀ x, flat (f x) = true) : ∀ xs : List α, flats (xs.map f) = true
  | [] => rfl
  | x :: xs => by
    show (flat (f x) && flats (xs.map f)) = true
    rw [h, flats_map h xs]
    rfl
theorem flatL_one {n : Str} {xs : List D} (h : flats xs = true) : flatL ([(n, xs)] : Fl2) = true := by
  show (flats xs && true) = true
  rw [h]
  rfl
theorem flatL_two {n m : Str} {xs ys : List D} (h : flats xs = true) (h' : flats ys = true) : flatL ([(n, xs), (m, ys)] : Fl2) = true := by
  show (flats xs && (flats ys && true)) = true
  rw [h, h']
  rfl
theorem rgB_of {h y ia ib : Nat} {C : Addr} {g : List D → Option Fs} {env : Env} {xs ys : List D} {gs : Fl2} (no : noOwn env = true) (hl : h < env.length) (e1 : env[ia]? = some (.sh (.lst xs))) (e2 : env[ib]? = some (.sh (.lst ys))) (l1 : xs.length < 1000000) (l2 : ys.length < 1000000) (e3 : (g [.lst xs, .lst ys]).bind allL = some gs) (e4 : flatL gs = true) :
    sRgB h y ia ib C g env = .ok (.nx ((env.set h .no).set y (.sh (.ins C (gs.map fun (f : Str × List D) => (f.1, D.lst f.2)))))) := by
  unfold sRgB
  rw [if_pos ⟨no, hl⟩, e1, e2]
  show (if xs.length < 1000000 ∧ ys.length < 1000000 then (match (g [.lst xs, .lst ys]).bind allL with
    | some (gs : Fl2) => if flatL gs = true then Res.ok (Fl.nx ((env.set h .no).set y (.sh (.ins C (gs.map fun (f : Str × List D) => (f.1, D.lst f.2)))))) else .no
    | none => .no) else .no) = _
  rw [if_pos ⟨l1, l2⟩, e3]
  exact if_pos e4
theorem ranges_eq {l : List Tr} (h : Bk l) (hb : Lb l) : ∃ bs ps, f_ranges K [bk l] = .ok (rngI K bs ps) ∧ (∀ p ∈ bs, SmT p) ∧ ps.length ≤ 1000 ∧ bs.length = ps.length := by
  obtain ⟨bs, ps, e, R, S, L, hl⟩ := ranges_of_eq (K := K) h hb
  have il : (nints ps).length = ps.length := by unfold nints; rw [List.length_map]
  refine ⟨bs, nints ps, run_rt ?_, S, by rw [il]; exact Nat.le_trans hl h.len, by rw [il, R.len]⟩
  refine seq_nx (e := [.sh (bk l), .no, .no]) (by repeat (first | simp only [check_book_eq h] | walk_at "ev")) ?_
  refine seq_nx (e := [.sh (bk l), .sh (bk bs), .sh (encP ps)]) (by repeat (first | simp only [e] | walk_at "ev")) ?_
  refine ret_of ?_
  show eMk _ _ _ [.sh (bk l), .sh (bk bs), .sh (encP ps)] = _
  rw [encP_nints]
  rfl
def pairD (z : List Tr × List Int) : D := .tup [.lst (z.1.map tr), .lst (z.2.map D.int)]
structure PrS (z : List Tr × List Int) : Prop where
  b : ∀ p ∈ z.1, SmT p
  lb : z.1.length ≤ 5000
  lp : z.2.length ≤ 5000
theorem ranges_right_eq {l : List Tr} {ns : List Int} {p : Tr} (h : Bk l) (hb : Lb l) (hn : ns.length ≤ 63) (hp : SmT p) : f__law_ranges_right K [bk l, .lst (ns.map D.int), tr p] = .ok (.bl true) := by
  obtain ⟨bs, ps, er, S, l1, l2⟩ := ranges_eq (K := K) h hb
  obtain ⟨bb, eb, lbb, mb⟩ := bent_eq (K := K) cod_tr bs ns p (by omega)
  obtain ⟨pb, ep, lpb, mp⟩ := bent_eq (K := K) cod_int ps ns (ns.sum % 9 - 1) (by omega)
  have bl : bs.length ≤ 1000 := by omega
  have sq : ∀ {ws : List Tr}, (∀ w ∈ ws, w ∈ bs ∨ w = p) → ∀ w ∈ ws, SmT w := fun hw w m => (hw w m).elim (S w) fun e => e ▸ hp
  have c1 : ∀ lo hi, (cutG bs lo hi).length ≤ 1000 := fun lo hi => Nat.le_trans (cutG_len _ _ _) bl
  have c2 : ∀ lo hi, (cutG ps lo hi).length ≤ 1000 := fun lo hi => Nat.le_trans (cutG_len _ _ _) l1
  have m1 : ∀ lo hi, ∀ w ∈ cutG bs lo hi, w ∈ bs ∨ w = p := fun lo hi w m => .inl (cutG_mem m)
  have ap : ∀ {xs ys : List Tr}, (∀ w ∈ xs, w ∈ bs ∨ w = p) → (∀ w ∈ ys, w ∈ bs ∨ w = p) → ∀ w ∈ xs ++ ys, w ∈ bs ∨ w = p := fun h1 h2 w m => (List.mem_append.mp m).elim (h1 w) (h2 w)
  let L1 : List (List Tr × List Int) := [(bs, ps), (bb, ps), (cutG bs (some 1) none, cutG ps (some 1) none), ([], [])]
  let L2 : List (List Tr × List Int) := [(bs, pb), (bs ++ [p], ps ++ cutG ps none (some 1))]
  let L3 : List (List Tr × List Int) := [(bs ++ cutG bs (some (-1)) none, ps ++ cutG ps (some (-1)) none), (cutG bs none (some 1), cutG ps (some (-1)) none), (cutG bs none (some (-1)), cutG ps none (some (-1)))]
  have ok : ∀ z ∈ L1 ++ L2 ++ L3, PrS z := fun z hz => by
    rcases List.mem_append.mp hz with hz | hz
    · rcases List.mem_append.mp hz with hz | hz
      · simp only [L1, List.mem_cons, List.not_mem_nil, or_false] at hz
        rcases hz with rfl | rfl | rfl | rfl
        · exact ⟨S, by show bs.length ≤ _; omega, by show ps.length ≤ _; omega⟩
        · exact ⟨sq mb, by show bb.length ≤ _; omega, by show ps.length ≤ _; omega⟩
        · exact ⟨sq (m1 _ _), Nat.le_trans (c1 _ _) (by decide), Nat.le_trans (c2 _ _) (by decide)⟩
        · exact ⟨fun p hp => (by cases hp), Nat.zero_le _, Nat.zero_le _⟩
      · simp only [L2, List.mem_cons, List.not_mem_nil, or_false] at hz
        rcases hz with rfl | rfl
        · exact ⟨S, by show bs.length ≤ _; omega, by show pb.length ≤ _; omega⟩
        · exact ⟨sq (ap (fun w m => .inl m) fun w m => .inr (List.mem_singleton.mp m)), by show (bs ++ [p]).length ≤ _; rw [List.length_append]; show _ + 1 ≤ _; omega, by show (ps ++ _).length ≤ _; rw [List.length_append]; have := c2 none (some 1); omega⟩
    · simp only [L3, List.mem_cons, List.not_mem_nil, or_false] at hz
      rcases hz with rfl | rfl | rfl
      · exact ⟨sq (ap (fun w m => .inl m) (m1 _ _)), by show (bs ++ _).length ≤ _; rw [List.length_append]; have := c1 (some (-1)) none; omega, by show (ps ++ _).length ≤ _; rw [List.length_append]; have := c2 (some (-1)) none; omega⟩
      · exact ⟨sq (m1 _ _), Nat.le_trans (c1 _ _) (by decide), Nat.le_trans (c2 _ _) (by decide)⟩
      · exact ⟨sq (m1 _ _), Nat.le_trans (c1 _ _) (by decide), Nat.le_trans (c2 _ _) (by decide)⟩
  refine run_rt ?_
  refine seq_set (d := rngI K bs ps) (call1 rfl er) ?_
  refine seq_par (a := .lst (bs.map tr)) (b := .lst (ps.map D.int)) (acons (fld_ok (o := rngI K bs ps) rfl (fld_Ranges_begins (bs.map tr) (ps.map D.int))) (acons (fld_ok (o := rngI K bs ps) rfl (fld_Ranges_places (bs.map tr) (ps.map D.int))) anil)) ?_
  let B : Env := [.sh (bk l), .sh (.lst (ns.map D.int)), .sh (tr p), .sh (rngI K bs ps), .sh (.lst (bs.map tr)), .sh (.lst (ps.map D.int))]
  have vb : ∀ R : Env, eVar 4 (B ++ R) = .ok (.lst (bs.map tr)) := fun R => rfl
  have vp : ∀ R : Env, eVar 5 (B ++ R) = .ok (.lst (ps.map D.int)) := fun R => rfl
  have pr : ∀ {fa fb : Env → Res D} {env : Env} (xs : List Tr) (ys : List Int), fa env = .ok (.lst (xs.map tr)) → fb env = .ok (.lst (ys.map D.int)) → eTup (aCons fa (aCons fb aNil)) env = .ok (pairD (xs, ys)) := fun xs ys h1 h2 => eTup_of (acons h1 (acons h2 anil))
  refine seq_set (d := .lst (L1.map pairD)) (eLst_of (acons (pr bs ps (vb _) (vp _)) (acons (pr bb ps (call3 (vb _) rfl rfl eb) (vp _)) (acons (pr _ _ (sl_ok (vb _) rfl rfl) (sl_ok (vp _) rfl rfl)) (acons (pr [] [] rfl rfl) anil))))) ?_
  refine seq_set (d := .lst ((L1 ++ L2).map pairD)) (cat_ok (xs := L1) (ys := L2) rfl (eLst_of (acons (pr bs pb (vb _) (call3 (vp _) rfl (op_of (op_of (fn1 rfl sumD_ints) rfl modD_9) rfl rfl) ep)) (acons (pr _ _ (cat_ok (xs := bs) (ys := [p]) (vb _) rfl (by show _ + 1 ≤ _; omega)) (cat_ok (xs := ps) (ys := cutG ps none (some 1)) (vp _) (sl_ok (vp _) rfl rfl) (by have := c2 none (some 1); omega))) anil))) (by show 4 + 2 ≤ 1000000; decide)) ?_
  refine seq_set (d := .lst ((L1 ++ L2 ++ L3).map pairD)) (cat_ok (xs := L1 ++ L2) (ys := L3) rfl (eLst_of (acons (pr _ _ (cat_ok (xs := bs) (vb _) (sl_ok (vb _) rfl rfl) (by have := c1 (some (-1)) none; omega)) (cat_ok (xs := ps) (vp _) (sl_ok (vp _) rfl rfl) (by have := c2 (some (-1)) none; omega))) (acons (pr _ _ (sl_ok (vb _) rfl rfl) (sl_ok (vp _) rfl rfl)) (acons (pr _ _ (sl_ok (vb _) rfl rfl) (sl_ok (vp _) rfl rfl)) anil)))) (by show 6 + 3 ≤ 1000000; decide)) ?_
  generalize L1 ++ L2 ++ L3 = LL at ok
  let I : Env → Prop := fun env => ∃ a7 a8 a10, env = [.sh (bk l), .sh (.lst (ns.map D.int)), .sh (tr p), .sh (rngI K bs ps), .sh (.lst (bs.map tr)), .sh (.lst (ps.map D.int)), .sh (.lst (LL.map pairD)), a7, a8, .no, a10] ∧ (a10 = .no ∨ ∃ d, a10 = .sh d)
  refine seq_for I (ds := LL.map pairD) rfl ⟨_, _, _, rfl, .inl rfl⟩ ?_ (fun e he => ?_)
  · rintro d hd env ⟨a7, a8, a10, rfl, ha⟩
    obtain ⟨⟨xs, ys⟩, hz, rfl⟩ := List.mem_map.mp hd
    have Z := ok _ hz
    have Zb := Z.b
    have Zl := Z.lb
    have Zp := Z.lp
    have Zb : ∀ p ∈ xs, SmT p := Zb
    have Zl : xs.length ≤ 5000 := Zl
    have Zp : ys.length ≤ 5000 := Zp
    refine ⟨[.sh (bk l), .sh (.lst (ns.map D.int)), .sh (tr p), .sh (rngI K bs ps), .sh (.lst (bs.map tr)), .sh (.lst (ps.map D.int)), .sh (.lst (LL.map pairD)), .sh (.lst (xs.map tr)), .sh (.lst (ys.map D.int)), .no, a10], rfl, [.sh (bk l), .sh (.lst (ns.map D.int)), .sh (tr p), .sh (rngI K bs ps), .sh (.lst (bs.map tr)), .sh (.lst (ps.map D.int)), .sh (.lst (LL.map pairD)), .sh (.lst (xs.map tr)), .sh (.lst (ys.map D.int)), .no, .sh (rngI K xs ys)], ?_, _, _, _, rfl, .inr ⟨_, rfl⟩⟩
    refine seq_nx (rgB_of (xs := xs.map tr) (ys := ys.map D.int) (gs := [("begins", xs.map tr), ("places", ys.map D.int)]) ?_ (by show 9 < 11; decide) rfl rfl (by rw [List.length_map]; omega) (by rw [List.length_map]; omega) rfl (flatL_two (flats_map (fun _ => rfl) xs) (flats_map (fun _ => rfl) ys))) ?_
    · rcases ha with rfl | ⟨d, rfl⟩ <;> rfl
    · show sSeq _ _ [.sh (bk l), .sh (.lst (ns.map D.int)), .sh (tr p), .sh (rngI K bs ps), .sh (.lst (bs.map tr)), .sh (.lst (ps.map D.int)), .sh (.lst (LL.map pairD)), .sh (.lst (xs.map tr)), .sh (.lst (ys.map D.int)), .no, .sh (rngI K xs ys)] = _
      refine seq_ifF (bOr_F (bV_of (op_of (fld_ok (o := rngI K xs ys) rfl (fld_Ranges_begins (xs.map tr) (ys.map D.int))) rfl (cod_neS cod_tr xs))) (bV_of (op_of (fld_ok (o := rngI K xs ys) rfl (fld_Ranges_places (xs.map tr) (ys.map D.int))) rfl (cod_neS cod_int ys)))) ?_
      exact ifF (bNot_of (b := true) (bV_of (call2 (a := .bl (rangesB l xs ys)) (b := .bl (rangesB l xs ys)) (mth_hit (fs := [("begins", .lst (xs.map tr)), ("places", .lst (ys.map D.int))]) (ds := [bk l]) rfl rfl (Ranges_shows_eq h Zb (by omega)) rfl) (call3 (a := bk l) (b := .lst (xs.map tr)) (c := .lst (ys.map D.int)) rfl rfl rfl (law_ranges_eq h Zb (by omega))) (law_says_eq _))))
  · obtain ⟨a7, a8, a10, rfl, _⟩ := he
    rfl
/-! ### under -/
theorem under_eq {l o : List Tr} (h : Bk l) (hb : Lb l) (ho : Bk o) (lo : Lb o) :
    (∃ p, f_under K [bk l, bk o] = .ok (overI K p) ∧ Am p ∧ SmT p ∧ overB l o p = true) ∨ (∃ rs : List Rw, f_under K [bk l, bk o] = .ok (undI K rs) ∧ undB l o rs = true ∧ (∀ r ∈ rs, RwS r) ∧ rs.length = o.length) := by
  obtain ⟨bs, ps, er, R, S, L, _⟩ := ranges_of_eq (K := K) h hb
  let I : Nat → Env → Prop := fun n env => ∃ (rs : List Rw) (x y z : Sl), env = [.sh (bk l), .sh (bk o), .ow (rs.map rD), .sh (.tup [bk bs, encP ps]), x, y, z] ∧ rs.length = n ∧ n ≤ o.length ∧ (∀ r ∈ rs, RwS r) ∧ ((rs.zip (o.take n)).all fun z => mixB l z.1.1 z.1.2.1 z.1.2.2.1 z.1.2.2.2 z.2) = true
  have z := for_rt (I := I) (R := fun d => ∃ p, d = overI K p ∧ Am p ∧ SmT p ∧ overB l o p = true) (ds := o.map tr) (fi := iL (eVar 1)) (bt := bNm 4) (env := [.sh (bk l), .sh (bk o), .ow [], .sh (.tup [bk bs, encP ps]), .no, .no, .no])
    (gb := (sSeq (sAsg (eCall (f_against K) (aCons (eVar 0) (aCons (eVar 3) (aCons (eVar 4) aNil)))) (bTup (bsCons (bNm 5) (bsCons (bNm 6) bsNil))))
    (sSeq (sIf (bV (eOp isnD (eVar 5) (eC .non))) (sRet (eMk (ga K "Over") i_Over (aCons (eVar 5) aNil))) sNil)
    (sApp 2 (eVar 6)))))
    rfl ⟨[], _, _, _, rfl, rfl, Nat.zero_le _, (fun r hr => by cases hr), rfl⟩ (fun i d env hd hI => by
      obtain ⟨rs, x, y, z, rfl, hn, hle, hs, ha⟩ := hI
      rw [List.getElem?_map] at hd
      cases ht : o[i]? with
      | none => rw [ht] at hd; cases hd
      | some t =>
        rw [ht] at hd
        cases hd
        have tm := List.mem_of_getElem? ht
        have il : i < o.length := (List.getElem?_eq_some_iff.mp ht).1
        refine ⟨_, rfl, ?_⟩
        rcases against_eq (K := K) h hb R S L (ho.nn t tm) (lo t tm) with ⟨p, e, am, sp, hp⟩ | ⟨a, b, c, d, e, mx, sa, sb⟩
        · refine .inr ⟨overI K p, ?_, p, rfl, am, sp, overB_of h tm hp⟩
          refine seq_asg (d := .tup [tr p, .non]) (call3 (a := bk l) (b := .tup [bk bs, encP ps]) (c := tr t) rfl rfl rfl e) rfl ?_
          have e1 : isnD (tr p) .non = some (.bl true) := rfl
          refine seq_ifT (by
            show bV _ [.sh (bk l), .sh (bk o), .ow (rs.map rD), .sh (.tup [bk bs, encP ps]), .sh (tr t), .sh (tr p), .sh .non] = _
            repeat (first | simp only [e1] | walk_at "ev")) (ret_of ?_)
          show eMk _ _ _ [.sh (bk l), .sh (bk o), .ow (rs.map rD), .sh (.tup [bk bs, encP ps]), .sh (tr t), .sh (tr p), .sh .non] = _
          repeat (first | simp only [i_Over_eq] | walk_at "ev")
        · refine .inl ⟨[.sh (bk l), .sh (bk o), .ow ((rs ++ [((a : Int), (b : Int), c, d)]).map rD), .sh (.tup [bk bs, encP ps]), .sh (tr t), .sh .non, .sh (rowD a b c d)], ?_, rs ++ [((a : Int), (b : Int), c, d)], _, _, _, rfl, by rw [List.length_append, hn]; rfl, il, fun r hr => ?_, ?_⟩
          · refine seq_asg (d := .tup [.non, rowD a b c d]) (call3 (a := bk l) (b := .tup [bk bs, encP ps]) (c := tr t) rfl rfl rfl e) rfl ?_
            refine seq_ifF rfl ?_
            refine (app_of (ds := rs.map rD) (d := rowD a b c d) rfl (by rw [List.length_map]; have := ho.len; omega) rfl).trans ?_
            rw [List.map_append]
            rfl
          · rcases List.mem_append.mp hr with hr | hr
            · exact hs r hr
            · obtain rfl := List.mem_singleton.mp hr
              exact ⟨sa, sb⟩
          · have et : o.take (i + 1) = o.take i ++ [t] := by
              rw [List.take_succ, ht]
              rfl
            rw [et, List.zip_append (by rw [hn, List.length_take]; omega), List.all_append, ha]
            simp [mx])
  have start : ∀ g : Env → Res Fl, ∀ r, g [.sh (bk l), .sh (bk o), .ow [], .sh (.tup [bk bs, encP ps]), .no, .no, .no] = r → (sSeq (sDrop (eCall (f_check_book K) (aCons (eVar 0) aNil)))
    (sSeq (sDrop (eCall (f_check_book K) (aCons (eVar 1) aNil)))
    (sSeq (sAsgO 2 aNil)
    (sSeq (sAsg (eCall (f_ranges_of K) (aCons (eVar 0) aNil)) (bNm 3)) g)))) (envOf 7 [bk l, bk o]) = r := fun g r hg => by
    refine seq_nx (e := [.sh (bk l), .sh (bk o), .no, .no, .no, .no, .no]) (by repeat (first | simp only [check_book_eq h] | walk_at "ev")) ?_
    refine seq_nx (e := [.sh (bk l), .sh (bk o), .no, .no, .no, .no, .no]) (by repeat (first | simp only [check_book_eq ho] | walk_at "ev")) ?_
    refine seq_nx (e := [.sh (bk l), .sh (bk o), .ow [], .no, .no, .no, .no]) rfl ?_
    refine seq_nx (e := [.sh (bk l), .sh (bk o), .ow [], .sh (.tup [bk bs, encP ps]), .no, .no, .no]) (by repeat (first | simp only [er] | walk_at "ev")) ?_
    exact hg
  rcases z with ⟨e, z, rs, x, y, w, rfl, hn, hle, hs, ha⟩ | ⟨d, z, p, rfl, am, sp, hp⟩
  · right
    rw [List.length_map] at hn ha
    rw [List.take_length] at ha
    exact ⟨rs, run_rt (start _ _ (seq_nx z rfl)), by unfold undB; rw [decide_eq_true hn, ha]; rfl, hs, hn⟩
  · left
    exact ⟨p, run_rt (start _ _ (seq_rt z)), am, sp, hp⟩
/-! ### under: told and bent -/
theorem mkO_of {i j : Nat} {C : Addr} {g : List D → Option Fs} {env : Env} {ds : List D} {gs : Fl2} (e1 : env[i]? = some (.ow ds)) (e2 : (g [.lst ds]).bind allL = some gs) (e3 : flatL gs = true) : sMkO i j C g env = .ok (.nx (env.set j (.sh (.ins C (gs.map fun (f : Str × List D) => (f.1, D.lst f.2)))))) := by
  unfold sMkO
  rw [e1]
  show (match (g [.lst ds]).bind allL with
    | some (gs : Fl2) => if flatL gs = true then Res.ok (Fl.nx (env.set j (.sh (.ins C (gs.map fun (f : Str × List D) => (f.1, D.lst f.2)))))) else .no
    | none => .no) = _
  rw [e2]
  exact if_pos e3
theorem eIf_T {fc : Env → Res Bool} {fa fb : Env → Res D} {env : Env} {d : D} (h : fc env = .ok true) (h2 : fa env = .ok d) : eIf fc fa fb env = .ok d := by
  unfold eIf
  rw [h, Res.bind_ok, if_pos rfl]
  exact h2
theorem eIf_F {fc : Env → Res Bool} {fa fb : Env → Res D} {env : Env} {d : D} (h : fc env = .ok false) (h2 : fb env = .ok d) : eIf fc fa fb env = .ok d := by
  unfold eIf
  rw [h, Res.bind_ok, if_neg (by decide)]
  exact h2
theorem rows_of {l o : List Tr} (T : Top K mg) {ns : List Int} {p : Tr} (h : Bk l) (hb : Lb l) (ho : Bk o) (lo : Lb o) : ∃ (d : D) (rs : List Rw), f_under K [bk l, bk o] = .ok d ∧ (∀ r ∈ rs, RwS r) ∧ rs.length = o.length ∧
    eIf (bV (eFn (isiD K (cis K)) (aCons (eVar 4) (aCons (eC (.cls (ga K "Under"))) aNil)))) (eFld (at_rows K) "rows" (eVar 4)) (eLC [6] (bNm 6) bYes (eTup (aCons (eC (.int 0)) (aCons (eOp subD (eFn lenD (aCons (eVar 0) aNil)) (eC (.int 1))) (aCons (eC (.int 1)) (aCons (eC (.int 1)) aNil))))) (iL (eVar 1)))
      [.sh (bk l), .sh (bk o), .sh (.lst (ns.map D.int)), .sh (tr p), .sh d, .no, .no, .no, .no, .no, .no, .no, .no] = .ok (.lst (rs.map rD)) := by
  rcases under_eq (K := K) h hb ho lo with ⟨q, e, am, sq, _⟩ | ⟨rs, e, _, hs, hl⟩
  · refine ⟨_, o.map fun _ => (0, (l.length : Int) - 1, 1, 1), e, fun r hr => ?_, by rw [List.length_map], eIf_F (bV_of (fn2 (a := overI K q) rfl rfl (isi_Over_Under T))) ?_⟩
    · obtain ⟨_, _, rfl⟩ := List.mem_map.mp hr
      exact ⟨sm_small (by show (1 : Int).natAbs < _; decide), sm_small (by show (1 : Int).natAbs < _; decide)⟩
    · have e1 := eLC_of (vs := [6]) (bt := bNm 6) (fe := eTup (aCons (eC (.int 0)) (aCons (eOp subD (eFn lenD (aCons (eVar 0) aNil)) (eC (.int 1))) (aCons (eC (.int 1)) (aCons (eC (.int 1)) aNil))))) (fi := iL (eVar 1)) (env := [.sh (bk l), .sh (bk o), .sh (.lst (ns.map D.int)), .sh (tr p), .sh (overI K q), .no, .no, .no, .no, .no, .no, .no, .no]) o tr (fun _ => rD (0, (l.length : Int) - 1, 1, 1)) rfl (by have := ho.len; omega) (fun t ht => ⟨_, rfl, eTup_of (acons rfl (acons (op_of (a := .int l.length) (fn1 rfl len_bk) rfl rfl) (acons rfl (acons rfl anil))))⟩)
      rw [e1, List.map_map]
      rfl
  · refine ⟨_, rs, e, hs, hl, eIf_T (bV_of (fn2 (a := undI K rs) rfl rfl (isi_Under_Under T))) (fld_ok (o := undI K rs) rfl (fld_Under_rows (rs.map rD)))⟩
def rowsD (rs : List Rw) : D := .lst (rs.map rD)
theorem books_right_eq (T : Top K mg) {l o : List Tr} {ns : List Int} {p : Tr} (h : Bk l) (hb : Lb l) (ho : Bk o) (lo : Lb o) (hn : ns.length ≤ 63) (hp : SmT p) (hq : SmT (p.1 + p.2, p.2)) : f__law_books_right K [bk l, bk o, .lst (ns.map D.int), tr p] = .ok (.bl true) := by
  obtain ⟨d, rs, eu, S, l1, er⟩ := rows_of T (ns := ns) (p := p) h hb ho lo
  have ol := ho.len
  have m4 : 0 ≤ ns.sum / 7 % 4 ∧ ns.sum / 7 % 4 < 4 := ⟨Int.emod_nonneg _ (by decide), Int.emod_lt_of_pos _ (by decide)⟩
  have m3 : 0 ≤ ns.sum / 5 % 3 ∧ ns.sum / 5 % 3 < 3 := ⟨Int.emod_nonneg _ (by decide), Int.emod_lt_of_pos _ (by decide)⟩
  let w : Rw := (ns.sum % ((l.length : Int) + 1), ns.sum / 3 % 5 - 1, ns.sum / 7 % 4 - 1, ns.sum / 5 % 3)
  have sw : RwS w := ⟨sm_small (by show (ns.sum / 7 % 4 - 1).natAbs < _; omega), sm_small (by show (ns.sum / 5 % 3).natAbs < _; omega)⟩
  obtain ⟨rb, eb, lb, mb⟩ := bent_eq (K := K) cod_row rs ns w (by omega)
  let r4 : List Rw := (List.range o.length).map fun (k : Nat) => ((0 + (k : Int)), (0 + (k : Int)), 2, 0)
  let LL : List (List Rw) := [rs, rb, cutG rs (some 1) none, r4]
  have ok : ∀ z ∈ LL, (∀ r ∈ z, RwS r) ∧ z.length ≤ 5000 := fun z hz => by
    simp only [LL, List.mem_cons, List.not_mem_nil, or_false] at hz
    rcases hz with rfl | rfl | rfl | rfl
    · exact ⟨S, by omega⟩
    · exact ⟨fun r hr => (mb r hr).elim (S r) fun e => e ▸ sw, by omega⟩
    · exact ⟨fun r hr => S r (cutG_mem hr), by have := cutG_len rs (some 1) none; omega⟩
    · refine ⟨fun r hr => ?_, by rw [List.length_map, List.length_range]; omega⟩
      obtain ⟨_, _, rfl⟩ := List.mem_map.mp hr
      exact ⟨sm_small (by show (2 : Int).natAbs < _; decide), sm_small (by show (0 : Int).natAbs < _; decide)⟩
  refine run_rt ?_
  refine seq_set (d := d) (call2 rfl rfl eu) ?_
  refine seq_set (d := .lst (rs.map rD)) er ?_
  have hl0 : (0 : Int) < (l.length : Int) + 1 := by omega
  refine seq_set (d := rD w) (eTup_of (acons (op_of (a := .int ns.sum) (b := .int ((l.length : Int) + 1)) (fn1 rfl sumD_ints) (op_of (a := .int l.length) (fn1 rfl len_bk) rfl rfl) (modD_int hl0)) (acons (op_of (op_of (op_of (fn1 rfl sumD_ints) rfl divD_3) rfl modD_5) rfl rfl) (acons (op_of (op_of (op_of (fn1 rfl sumD_ints) rfl divD_7) rfl modD_4) rfl rfl) (acons (op_of (op_of (fn1 rfl sumD_ints) rfl divD_5) rfl modD_3) anil))))) ?_
  let I : Env → Prop := fun env => ∃ a8 a10 a11 a12, env = [.sh (bk l), .sh (bk o), .sh (.lst (ns.map D.int)), .sh (tr p), .sh d, .sh (.lst (rs.map rD)), .no, .sh (rD w), a8, .no, a10, a11, a12]
  refine seq_for I (ds := LL.map rowsD) ?_ ⟨_, _, _, _, rfl⟩ ?_ (fun e he => ?_)
  · have e4 : ∀ (fi : Env → Res (List D)), fi = iR1 (aCons (eFn lenD (aCons (eVar 1) aNil)) aNil) → eLC [9] (bNm 9) bYes (eTup (aCons (eVar 9) (aCons (eVar 9) (aCons (eC (.int 2)) (aCons (eC (.int 0)) aNil))))) fi [.sh (bk l), .sh (bk o), .sh (.lst (ns.map D.int)), .sh (tr p), .sh d, .sh (.lst (rs.map rD)), .no, .sh (rD w), .no, .no, .no, .no, .no] = .ok (rowsD r4) := fun fi hfi => by
      have e1 := eLC_of (vs := [9]) (bt := bNm 9) (fe := eTup (aCons (eVar 9) (aCons (eVar 9) (aCons (eC (.int 2)) (aCons (eC (.int 0)) aNil))))) (fi := fi) (env := [.sh (bk l), .sh (bk o), .sh (.lst (ns.map D.int)), .sh (tr p), .sh d, .sh (.lst (rs.map rD)), .no, .sh (rD w), .no, .no, .no, .no, .no]) (List.range o.length) (fun (k : Nat) => .int (0 + (k : Int))) (fun (k : Nat) => rD ((0 + (k : Int)), (0 + (k : Int)), 2, 0)) (by
          subst hfi
          have e2 : aCons (eFn lenD (aCons (eVar 1) aNil)) aNil [.sh (bk l), .sh (bk o), .sh (.lst (ns.map D.int)), .sh (tr p), .sh d, .sh (.lst (rs.map rD)), .no, .sh (rD w), .no, .no, .no, .no, .no] = .ok [.int o.length] := acons (fn1 rfl len_bk) anil
          unfold iR1
          rw [e2]
          show (if (o.length : Int) ≤ 1000000 ∧ -1000000 ≤ (o.length : Int) then Res.ok (rangeD 0 o.length) else .no) = _
          rw [if_pos ⟨by omega, by omega⟩]
          show Res.ok ((List.range ((o.length : Int) - 0).toNat).map fun (i : Nat) => D.int (0 + (i : Int))) = _
          rw [show ((o.length : Int) - 0).toNat = o.length by omega]) (by rw [List.length_range]; omega) (fun k hk => ⟨_, rfl, rfl⟩)
      rw [e1]
      show _ = Res.ok (D.lst (((List.range o.length).map _).map rD))
      rw [List.map_map]
      rfl
    have e5 := eLst_of (acons (a := .lst (rs.map rD)) (fa := eVar 5) (env := [.sh (bk l), .sh (bk o), .sh (.lst (ns.map D.int)), .sh (tr p), .sh d, .sh (.lst (rs.map rD)), .no, .sh (rD w), .no, .no, .no, .no, .no]) rfl (acons (call3 (φ := f__law_bent K) (fa := eVar 5) (fb := eVar 2) (fc := eVar 7) rfl rfl rfl eb) (acons (sl_ok (f := rD) (xs := rs) (fa := eVar 5) (fl := oSome (eC (.int 1))) (fh := oNone) rfl rfl rfl) (acons (e4 _ rfl) anil))))
    show (eLst _ _).bind _ = _
    exact (congrArg (fun r : Res D => r.bind toL) e5).trans rfl
  · rintro d' hd env ⟨a8, a10, a11, a12, rfl⟩
    obtain ⟨zs, hz, rfl⟩ := List.mem_map.mp hd
    obtain ⟨Z, Zl⟩ := ok _ hz
    refine ⟨[.sh (bk l), .sh (bk o), .sh (.lst (ns.map D.int)), .sh (tr p), .sh d, .sh (.lst (rs.map rD)), .no, .sh (rD w), .sh (.lst (zs.map rD)), .no, a10, a11, a12], rfl, [.sh (bk l), .sh (bk o), .sh (.lst (ns.map D.int)), .sh (tr p), .sh d, .sh (.lst (rs.map rD)), .no, .sh (rD w), .sh (.lst (zs.map rD)), .no, .ow (zs.map rD ++ [rD w]), .sh (undI K zs), a12], ?_, _, _, _, _, rfl⟩
    refine seq_nx (e := [.sh (bk l), .sh (bk o), .sh (.lst (ns.map D.int)), .sh (tr p), .sh d, .sh (.lst (rs.map rD)), .no, .sh (rD w), .sh (.lst (zs.map rD)), .no, .ow (zs.map rD), a11, a12]) rfl ?_
    refine seq_nx (e := [.sh (bk l), .sh (bk o), .sh (.lst (ns.map D.int)), .sh (tr p), .sh d, .sh (.lst (rs.map rD)), .no, .sh (rD w), .sh (.lst (zs.map rD)), .no, .ow (zs.map rD), .sh (undI K zs), a12]) (mkO_of (gs := [("rows", zs.map rD)]) rfl rfl (flatL_one (flats_map (fun _ => rfl) zs))) ?_
    refine seq_nx (app_of (ds := zs.map rD) (d := rD w) rfl (by rw [List.length_map]; omega) rfl) ?_
    show sIf _ _ _ [.sh (bk l), .sh (bk o), .sh (.lst (ns.map D.int)), .sh (tr p), .sh d, .sh (.lst (rs.map rD)), .no, .sh (rD w), .sh (.lst (zs.map rD)), .no, .ow (zs.map rD ++ [rD w]), .sh (undI K zs), a12] = _
    exact ifF (bOr_F (bV_of (op_of (fld_ok (o := undI K zs) rfl (fld_Under_rows (zs.map rD))) rfl (cod_neS cod_row zs))) (bNot_of (b := true) (bV_of (call2 (a := .bl (undB l o zs)) (b := .bl (undB l o zs)) (mth_hit (fs := [("rows", .lst (zs.map rD))]) (ds := [bk l, bk o]) rfl rfl (Under_shows_eq h ho Z) rfl) (call3 (a := bk l) (b := bk o) (c := .lst (zs.map rD)) rfl rfl rfl (law_under_eq h ho Z)) (law_says_eq _)))))
  · obtain ⟨a8, a10, a11, a12, rfl⟩ := he
    refine seq_for I (ds := [p, (0, 1), (p.1 + p.2, p.2)].map tr) rfl ⟨_, _, _, _, rfl⟩ ?_ (fun e he => ?_)
    · rintro d' hd env ⟨a8, a10, a11, a12, rfl⟩
      obtain ⟨q, hz, rfl⟩ := List.mem_map.mp hd
      have sq : SmT q := by
        simp only [List.mem_cons, List.not_mem_nil, or_false] at hz
        rcases hz with rfl | rfl | rfl
        · exact hp
        · exact ⟨sm_small (by decide), sm_small (by decide)⟩
        · exact hq
      refine ⟨[.sh (bk l), .sh (bk o), .sh (.lst (ns.map D.int)), .sh (tr p), .sh d, .sh (.lst (rs.map rD)), .no, .sh (rD w), .sh (tr q), .no, a10, a11, a12], rfl, [.sh (bk l), .sh (bk o), .sh (.lst (ns.map D.int)), .sh (tr p), .sh d, .sh (.lst (rs.map rD)), .no, .sh (rD w), .sh (tr q), .no, a10, a11, .sh (.bl (overB l o q))], ?_, _, _, _, _, rfl⟩
      refine seq_set (d := .bl (overB l o q)) (call3 (a := bk l) (b := bk o) (c := tr q) rfl rfl rfl (law_over_eq h ho sq)) ?_
      show sIf _ _ _ [.sh (bk l), .sh (bk o), .sh (.lst (ns.map D.int)), .sh (tr p), .sh d, .sh (.lst (rs.map rD)), .no, .sh (rD w), .sh (tr q), .no, a10, a11, .sh (.bl (overB l o q))] = _
      exact ifF (bOr_F (bV_of (op_of (fld_ok (o := overI K q) rfl (fld_Over_amount (tr q))) rfl (neD_tr.trans (by rw [decide_eq_true rfl]; rfl)))) (bNot_of (b := true) (bV_of (call2 (a := .bl (overB l o q)) (b := .bl (overB l o q)) (mth_hit (fs := [("amount", tr q)]) (ds := [bk l, bk o]) rfl rfl (Over_shows_eq h ho sq) rfl) rfl (law_says_eq _)))))
    · obtain ⟨a8, a10, a11, a12, rfl⟩ := he
      rfl
end Dt.Ws
namespace Dt.Ws
open PySem L2 Dt He
variable {K : PySem.W.Frag}
local macro_rules | `(tactic| walk_at "ev") => `(tactic| simp only [run, fin, envOf, sSeq, sNil, sAsg, sPar, sRet, sRetN, sDrop, sIf, sNever, bNm, bTup, bsCons, bsNil, bOk_ok, eVar, eC, eOp, eUn, toB, bV, bAnd, bOr, bNot, eB, eIf, aNil, aCons, eFn, eCall, eTup, eLst, eFld, eMk, eMk0, eMt, eChain, iL, iT, eSl, eSlSt, oNone, oSome, toI, toL_lst, toT_tup, Res.bind_ok, Res.bind_no, ofO_some, ofO_none, List.map_cons, List.map_nil, List.length_cons, List.length_nil, List.cons_append, List.nil_append, List.replicate, List.getElem?_cons_zero, List.getElem?_cons_succ, List.set_cons_zero, List.set_cons_succ, if_true, if_false, Bool.false_eq_true, Nat.sub_self, Nat.reduceSub, Nat.reduceAdd, isi_int_int, isi_int_bool, isi_int_tuple, isi_int_list, isi_int_str, isi_bl_int, isi_bl_bool, isi_bl_tuple, isi_bl_list, isi_bl_str, isi_non_int, isi_non_bool, isi_non_tuple, isi_non_list, isi_non_str, isi_str_int, isi_str_bool, isi_str_tuple, isi_str_list, isi_str_str, isi_tup_int, isi_tup_bool, isi_tup_tuple, isi_tup_list, isi_tup_str, isi_lst_int, isi_lst_bool, isi_lst_tuple, isi_lst_list, isi_lst_str, isi_tr_int, isi_tr_bool, isi_tr_tuple, isi_tr_list, isi_tr_str, isi_bk_int, isi_bk_bool, isi_bk_tuple, isi_bk_list, isi_bk_str, isi_dic_int, isi_dic_bool, isi_dic_tuple, isi_dic_list, isi_dic_str, isL_bk, divD_2, modD_2, divD_3, modD_3, divD_4, modD_4, divD_5, modD_5, divD_6, modD_6, divD_7, modD_7, divD_8, modD_8, divD_9, modD_9, divD_10, modD_10, divD_11, modD_11, divD_13, modD_13, divD_15, modD_15, divD_17, modD_17, divD_24, modD_24, divD_40, modD_40, divD_41, modD_41, divD_44, modD_44, divD_60, modD_60, divD_90, modD_90, divD_100, modD_100, divD_120, modD_120, divD_T30, modD_T30, divD_T40, modD_T40, divD_T60, modD_T60, powD_30, powD_40, powD_60, sumD_ints, Option.map_some, ↓reduceIte, reduceCtorEq, isLst, addD_int, subD_int, ltD_int, leD_int, gtD_int, geD_int, negD_int, eqD_int, neD_int, ix0_tr, ix1_tr, ix0, ix1, len_tr, len_bk, len_tup2, toL_bk, toT_tr, list_bk, eqD_bk, neD_bk, eqD_tr, neD_tr, eqD_bk0, neD_bk0, Bool.not_true, Bool.not_false, Bool.true_and, Bool.false_and, Bool.and_true, Bool.and_false, decide_true, decide_false])
/-! ### what is said outright -/
theorem dear_hit {l : List Tr} {m : Int} {b : Bool} {fo : Env → Res D} {fl : Env → Res (List D)} {env : Env} (h : Bk l) (h1 : fo env = .ok (dearI K)) (h2 : fl env = .ok [bk l, .int m]) (hB : dearB l m = b) : eMth (ga K "Dear") "shows" (f_Dear_shows K) fo fl env = .ok (.bl b) := mth_hit (fs := []) h1 h2 ((Dear_shows_eq h).trans (by rw [hB])) rfl
theorem end_hit {l : List Tr} {m j : Int} {b : Bool} {fo : Env → Res D} {fl : Env → Res (List D)} {env : Env} (h1 : fo env = .ok (endI K j)) (h2 : fl env = .ok [bk l, .int m]) (hB : endB l m j = b) : eMth (ga K "Endless") "shows" (f_Endless_shows K) fo fl env = .ok (.bl b) := mth_hit (fs := [("place", .int j)]) h1 h2 (Endless_shows_eq.trans (by rw [hB])) rfl
theorem most_hit {l : List Tr} {m j : Int} {p : Tr} {b : Bool} {fo : Env → Res D} {fl : Env → Res (List D)} {env : Env} (h : Bk l) (hp : SmT p) (hm : Sm m) (h1 : fo env = .ok (mostI K j p)) (h2 : fl env = .ok [bk l, .int m]) (hB : mostB l m j p = b) : eMth (ga K "Most") "shows" (f_Most_shows K) fo fl env = .ok (.bl b) := mth_hit (fs := [("place", .int j), ("amount", tr p)]) h1 h2 ((Most_shows_eq h hp hm).trans (by rw [hB])) rfl
theorem over_hit {l o : List Tr} {p : Tr} {b : Bool} {fo : Env → Res D} {fl : Env → Res (List D)} {env : Env} (h : Bk l) (ho : Bk o) (hp : SmT p) (h1 : fo env = .ok (overI K p)) (h2 : fl env = .ok [bk l, bk o]) (hB : overB l o p = b) : eMth (ga K "Over") "shows" (f_Over_shows K) fo fl env = .ok (.bl b) := mth_hit (fs := [("amount", tr p)]) h1 h2 ((Over_shows_eq h ho hp).trans (by rw [hB])) rfl
theorem under_hit {l o : List Tr} {rs : List Rw} {b : Bool} {fo : Env → Res D} {fl : Env → Res (List D)} {env : Env} (h : Bk l) (ho : Bk o) (hs : ∀ r ∈ rs, RwS r) (h1 : fo env = .ok (undI K rs)) (h2 : fl env = .ok [bk l, bk o]) (hB : undB l o rs = b) : eMth (ga K "Under") "shows" (f_Under_shows K) fo fl env = .ok (.bl b) := mth_hit (fs := [("rows", .lst (rs.map rD))]) h1 h2 ((Under_shows_eq h ho hs).trans (by rw [hB])) rfl
theorem ranges_hit {l : List Tr} {bs : List Tr} {ps : List Int} {b : Bool} {fo : Env → Res D} {fl : Env → Res (List D)} {env : Env} (h : Bk l) (hb : ∀ p ∈ bs, SmT p) (hl : ps.length ≤ 100000) (h1 : fo env = .ok (rngI K bs ps)) (h2 : fl env = .ok [bk l]) (hB : rangesB l bs ps = b) : eMth (ga K "Ranges") "shows" (f_Ranges_shows K) fo fl env = .ok (.bl b) := mth_hit (fs := [("begins", .lst (bs.map tr)), ("places", .lst (ps.map D.int))]) h1 h2 ((Ranges_shows_eq h hb hl).trans (by rw [hB])) rfl
theorem alone_hit {l : List Tr} {j : Nat} {t p : Tr} {b : Bool} {fo : Env → Res D} {fl : Env → Res (List D)} {env : Env} (h : Bk l) (hp : SmT p) (hj : l[j]? = some t) (h1 : fo env = .ok (aloneI K p)) (h2 : fl env = .ok [bk l, .int j]) (hB : aloneB l j t p = b) : eMth (ga K "Alone") "shows" (f_Alone_shows K) fo fl env = .ok (.bl b) := mth_hit (fs := [("amount", tr p)]) h1 h2 ((Alone_shows_eq h hp hj).trans (by rw [hB])) rfl
theorem need_hit {l : List Tr} {j : Nat} {t : Tr} {i k a c : Int} {b : Bool} {fo : Env → Res D} {fl : Env → Res (List D)} {env : Env} (h : Bk l) (sa : Sm a) (sb : Sm c) (hj : l[j]? = some t) (h1 : fo env = .ok (needI K i k a c)) (h2 : fl env = .ok [bk l, .int j]) (hB : needB l j t i k a c = b) : eMth (ga K "Needless") "shows" (f_Needless_shows K) fo fl env = .ok (.bl b) := mth_hit (fs := [("one", .int i), ("other", .int k), ("first", .int a), ("second", .int c)]) h1 h2 ((Needless_shows_eq h sa sb hj).trans (by rw [hB])) rfl
def smB (t : Tr) : Bool := decide (0 ≤ t.1) && (decide (0 ≤ t.2) && (decide (t.1 < 1000000) && decide (t.2 < 1000000)))
theorem bk_of {l : List Tr} (h1 : l ≠ []) (h2 : l.length ≤ 1000) (h : l.all smB = true) : Bk l := by
  have key : ∀ t ∈ l, 0 ≤ t.1 ∧ 0 ≤ t.2 ∧ t.1 < 1000000 ∧ t.2 < 1000000 := fun t ht => by
    have z := List.all_eq_true.mp h t ht
    unfold smB at z
    simp only [Bool.and_eq_true, decide_eq_true_eq] at z
    exact z
  exact ⟨h1, h2, fun t ht => ⟨(key t ht).1, (key t ht).2.1⟩, fun t ht => ⟨sm_small (by have := key t ht; omega), sm_small (by have := key t ht; omega)⟩⟩
theorem smT_of {t : Tr} (h1 : t.1.natAbs < 1000000) (h2 : t.2.natAbs < 1000000) : SmT t := ⟨sm_small (by omega), sm_small (by omega)⟩
def b0 : List Tr := [(0, 4), (6, 1), (2, 3), (9, 0)]
theorem bk0 : Bk b0 := bk_of (by decide) (by decide) (by decide)
theorem smI {i : Int} (h : i.natAbs < 1000000) : Sm i := sm_small (by omega)
theorem outright_eq : f__law_outright K [] = .ok (.bl true) := by
  refine run_rt ?_
  refine seq_set (d := bk b0) rfl ?_
  have need : ∀ {i k a c : Int} {b : Bool} {fo : Env → Res D} {fl : Env → Res (List D)} {env : Env} {l : List Tr} {t : Tr}, Bk l → l[2]? = some t → a.natAbs < 1000000 → c.natAbs < 1000000 → fo env = .ok (needI K i k a c) → fl env = .ok [bk l, .int (2 : Nat)] → needB l 2 t i k a c = b → eMth (ga K "Needless") "shows" (f_Needless_shows K) fo fl env = .ok (.bl b) := fun h hj sa sc h1 h2 hB => need_hit h (smI sa) (smI sc) hj h1 h2 hB
  have alone : ∀ {p : Tr} {b : Bool} {fo : Env → Res D} {fl : Env → Res (List D)} {env : Env} {j : Nat} {t : Tr}, b0[j]? = some t → p.1.natAbs < 1000000 → p.2.natAbs < 1000000 → fo env = .ok (aloneI K p) → fl env = .ok [bk b0, .int (j : Nat)] → aloneB b0 j t p = b → eMth (ga K "Alone") "shows" (f_Alone_shows K) fo fl env = .ok (.bl b) := fun hj s1 s2 h1 h2 hB => alone_hit bk0 (smT_of s1 s2) hj h1 h2 hB
  have rng : ∀ {l bs : List Tr} {ps : List Int} {b : Bool} {fo : Env → Res D} {fl : Env → Res (List D)} {env : Env}, Bk l → bs.all smB = true → ps.length ≤ 1000 → fo env = .ok (rngI K bs ps) → fl env = .ok [bk l] → rangesB l bs ps = b → eMth (ga K "Ranges") "shows" (f_Ranges_shows K) fo fl env = .ok (.bl b) := fun h hb hl h1 h2 hB => ranges_hit h (fun t ht => by
    have z := List.all_eq_true.mp hb t ht
    unfold smB at z
    simp only [Bool.and_eq_true, decide_eq_true_eq] at z
    exact smT_of (by omega) (by omega)) (by omega) h1 h2 hB
  have bad : ∀ (n : Nat) {fa fb : Env → Res D} {env : Env} (ys : List Bool), n ≤ 1000 → ys.length ≤ 1000 → fa env = .ok (.lst ((List.replicate n false).map D.bl)) → fb env = .ok (.lst (ys.map D.bl)) → (ys = List.replicate ys.length false) → eOp addD fa fb env = .ok (.lst ((List.replicate (n + ys.length) false).map D.bl)) := fun n fa fb env ys hn hy h1 h2 e => by
    rw [cat_ok h1 h2 (by rw [List.length_replicate]; omega)]
    congr 3
    rw [← List.replicate_append_replicate, ← e]
  refine seq_set (d := .lst ((List.replicate 2 false).map D.bl)) (eLst_of (acons (need bk0 rfl (by decide) (by decide) rfl rfl (by decide)) (acons (need bk0 rfl (by decide) (by decide) rfl rfl (by decide)) anil))) ?_
  refine seq_set (d := .lst ((List.replicate 4 false).map D.bl)) (bad 2 [false, false] (by decide) (by decide) rfl (eLst_of (acons (need bk0 rfl (by decide) (by decide) rfl rfl (by decide)) (acons (need bk0 rfl (by decide) (by decide) rfl rfl (by decide)) anil))) rfl) ?_
  refine seq_set (d := .lst ((List.replicate 6 false).map D.bl)) (bad 4 [false, false] (by decide) (by decide) rfl (eLst_of (acons (need (l := [(1, 1), (5, 5), (2, 2)]) (bk_of (by decide) (by decide) (by decide)) rfl (by decide) (by decide) rfl rfl (by decide)) (acons (need bk0 rfl (by decide) (by decide) rfl rfl (by decide)) anil))) rfl) ?_
  refine seq_set (d := .lst ((List.replicate 8 false).map D.bl)) (bad 6 [false, false] (by decide) (by decide) rfl (eLst_of (acons (need bk0 rfl (by decide) (by decide) rfl rfl (by decide)) (acons (alone (p := (2, 1)) (j := 2) rfl (by decide) (by decide) rfl rfl (by decide)) anil))) rfl) ?_
  refine seq_set (d := .lst ((List.replicate 10 false).map D.bl)) (bad 8 [false, false] (by decide) (by decide) rfl (eLst_of (acons (rng (bs := [(0, 1), (2, 1)]) (ps := [0, 1]) bk0 (by decide) (by decide) rfl rfl (by decide)) (acons (rng (bs := [(0, 1), (2, 1), (4, 1)]) (ps := [0, 1, 3]) bk0 (by decide) (by decide) rfl rfl (by decide)) anil))) rfl) ?_
  refine seq_set (d := .lst ((List.replicate 12 false).map D.bl)) (bad 10 [false, false] (by decide) (by decide) rfl (eLst_of (acons (rng (l := [(0, 0)]) (bs := [(1, 1)]) (ps := [0]) (bk_of (by decide) (by decide) (by decide)) (by decide) (by decide) rfl rfl (by decide)) (acons (rng (l := [(0, 0)]) (bs := [(0, 1), (1, 1)]) (ps := [0, 0]) (bk_of (by decide) (by decide) (by decide)) (by decide) (by decide) rfl rfl (by decide)) anil))) rfl) ?_
  refine seq_set (d := .lst ((List.replicate 15 false).map D.bl)) (bad 12 [false, false, false] (by decide) (by decide) rfl (eLst_of (acons (over_hit (p := (2, 1)) bk0 bk0 (smT_of (by decide) (by decide)) rfl rfl (by decide)) (acons (under_hit (rs := []) bk0 bk0 (fun r hr => by cases hr) rfl rfl (by decide)) (acons (most_hit (p := (2, 1)) (j := 0) (m := 9) bk0 (smT_of (by decide) (by decide)) (smI (by decide)) rfl rfl (by decide)) anil)))) rfl) ?_
  refine seq_set (d := .lst ((List.replicate 17 false).map D.bl)) (bad 15 [false, false] (by decide) (by decide) rfl (eLst_of (acons (most_hit (l := [(9, 1), (8, 1), (7, 1), (9, 1)]) (p := (0, 1)) (j := 3) (m := 9) (bk_of (by decide) (by decide) (by decide)) (smT_of (by decide) (by decide)) (smI (by decide)) rfl rfl (by decide)) (acons (most_hit (l := [(4, 0)]) (p := (5, 1)) (j := 0) (m := 4) (bk_of (by decide) (by decide) (by decide)) (smT_of (by decide) (by decide)) (smI (by decide)) rfl rfl (by decide)) anil))) rfl) ?_
  refine seq_set (d := .lst ((List.replicate 19 false).map D.bl)) (bad 17 [false, false] (by decide) (by decide) rfl (eLst_of (acons (end_hit (l := b0) (m := 9) (j := -1) rfl rfl (by decide)) (acons (end_hit (l := b0) (m := 8) (j := 3) rfl rfl (by decide)) anil))) rfl) ?_
  refine seq_set (d := .lst ((List.replicate 21 false).map D.bl)) (bad 19 [false, false] (by decide) (by decide) rfl (eLst_of (acons (end_hit (l := b0) (m := 9) (j := 1) rfl rfl (by decide)) (acons (dear_hit (m := 0) bk0 rfl rfl (by decide)) anil))) rfl) ?_
  refine seq_asgO (ds := [true, true, true].map D.bl) (acons (need bk0 rfl (by decide) (by decide) rfl rfl (by decide)) (acons (alone (p := (1, 1)) (j := 0) rfl (by decide) (by decide) rfl rfl (by decide)) (acons (end_hit (l := b0) (m := 9) (j := 3) rfl rfl (by decide)) anil))) ?_
  let B : List D → Env := fun ys => [.sh (bk b0), .sh (.lst ((List.replicate 21 false).map D.bl)), .sh (.lst ys), .no]
  show sSeq _ _ (B ([true, true, true].map D.bl)) = _
  refine seq_nx (e := [.sh (bk b0), .sh (.lst ((List.replicate 21 false).map D.bl)), .ow ([true, true, true, true, true].map D.bl), .no]) (cat_of (x := [true, true, true].map D.bl) (y := [true, true].map D.bl) rfl (eLst_of (acons (rng (bs := [(0, 1), (2, 1), (3, 1)]) (ps := [0, 1, 3]) bk0 (by decide) (by decide) rfl rfl (by decide)) (acons (most_hit (p := (2, 1)) (j := 1) (m := 8) bk0 (smT_of (by decide) (by decide)) (smI (by decide)) rfl rfl (by decide)) anil))) (by decide)) ?_
  show sSeq _ _ (B ([true, true, true, true, true].map D.bl)) = _
  refine seq_nx (e := [.sh (bk b0), .sh (.lst ((List.replicate 21 false).map D.bl)), .ow ([true, true, true, true, true, true, true].map D.bl), .no]) (cat_of (x := [true, true, true, true, true].map D.bl) (y := [true, true].map D.bl) rfl (eLst_of (acons (dear_hit (l := [(3, 0), (2, 0)]) (m := 1) (bk_of (by decide) (by decide) (by decide)) rfl rfl (by decide)) (acons (over_hit (l := [(1, 0)]) (o := b0) (p := (0, 1)) (bk_of (by decide) (by decide) (by decide)) bk0 (smT_of (by decide) (by decide)) rfl rfl (by decide)) anil))) (by decide)) ?_
  refine seq_nx (app_of (ds := [true, true, true, true, true, true, true].map D.bl) (d := .bl true) rfl (by decide) (under_hit (l := b0) (o := [(0, 5)]) (rs := [(0, 3, 1, 0)]) bk0 (bk_of (by decide) (by decide) (by decide)) (fun r hr => by
    obtain rfl := List.mem_singleton.mp hr
    exact ⟨smI (by decide), smI (by decide)⟩) rfl rfl (by decide))) ?_
  show sRet _ [.sh (bk b0), .sh (.lst ((List.replicate 21 false).map D.bl)), .sh (.lst ((List.replicate 8 true).map D.bl)), .no] = _
  refine ret_of (eB_of (bAnd_T (bV_of ((all_lc (p := fun _ : Bool => true) (eLC_of (List.replicate 21 false) D.bl (fun _ => .bl true) rfl (by rw [List.length_replicate]; decide) (fun x hx => ⟨_, rfl, ?_⟩))).trans rfl)) (bV_of ((all_lc (p := fun _ : Bool => true) (eLC_of (List.replicate 8 true) D.bl (fun _ => .bl true) rfl (by rw [List.length_replicate]; decide) (fun x hx => ⟨_, rfl, ?_⟩))).trans rfl))))
  · obtain rfl := List.eq_of_mem_replicate hx
    exact call2 rfl rfl (law_says_eq false)
  · obtain rfl := List.eq_of_mem_replicate hx
    exact call2 rfl rfl (law_says_eq true)
end Dt.Ws
namespace Dt.Ws
open PySem L2 Dt He
variable {K : PySem.W.Frag}
local macro_rules | `(tactic| walk_at "ev") => `(tactic| simp only [run, fin, envOf, sSeq, sNil, sAsg, sPar, sRet, sRetN, sDrop, sIf, sNever, bNm, bTup, bsCons, bsNil, bOk_ok, eVar, eC, eOp, eUn, toB, bV, bAnd, bOr, bNot, eB, eIf, aNil, aCons, eFn, eCall, eTup, eLst, eFld, eMk, eMk0, eMt, eChain, iL, iT, eSl, eSlSt, oNone, oSome, toI, toL_lst, toT_tup, Res.bind_ok, Res.bind_no, ofO_some, ofO_none, List.map_cons, List.map_nil, List.length_cons, List.length_nil, List.cons_append, List.nil_append, List.replicate, List.getElem?_cons_zero, List.getElem?_cons_succ, List.set_cons_zero, List.set_cons_succ, if_true, if_false, Bool.false_eq_true, Nat.sub_self, Nat.reduceSub, Nat.reduceAdd, isi_int_int, isi_int_bool, isi_int_tuple, isi_int_list, isi_int_str, isi_bl_int, isi_bl_bool, isi_bl_tuple, isi_bl_list, isi_bl_str, isi_non_int, isi_non_bool, isi_non_tuple, isi_non_list, isi_non_str, isi_str_int, isi_str_bool, isi_str_tuple, isi_str_list, isi_str_str, isi_tup_int, isi_tup_bool, isi_tup_tuple, isi_tup_list, isi_tup_str, isi_lst_int, isi_lst_bool, isi_lst_tuple, isi_lst_list, isi_lst_str, isi_tr_int, isi_tr_bool, isi_tr_tuple, isi_tr_list, isi_tr_str, isi_bk_int, isi_bk_bool, isi_bk_tuple, isi_bk_list, isi_bk_str, isi_dic_int, isi_dic_bool, isi_dic_tuple, isi_dic_list, isi_dic_str, isL_bk, divD_2, modD_2, divD_3, modD_3, divD_4, modD_4, divD_5, modD_5, divD_6, modD_6, divD_7, modD_7, divD_8, modD_8, divD_9, modD_9, divD_10, modD_10, divD_11, modD_11, divD_13, modD_13, divD_15, modD_15, divD_17, modD_17, divD_24, modD_24, divD_40, modD_40, divD_41, modD_41, divD_44, modD_44, divD_60, modD_60, divD_90, modD_90, divD_100, modD_100, divD_120, modD_120, divD_T30, modD_T30, divD_T40, modD_T40, divD_T60, modD_T60, powD_30, powD_40, powD_60, sumD_ints, Option.map_some, ↓reduceIte, reduceCtorEq, isLst, addD_int, subD_int, ltD_int, leD_int, gtD_int, geD_int, negD_int, eqD_int, neD_int, ix0_tr, ix1_tr, ix0, ix1, len_tr, len_bk, len_tup2, toL_bk, toT_tr, list_bk, eqD_bk, neD_bk, eqD_tr, neD_tr, eqD_bk0, neD_bk0, Bool.not_true, Bool.not_false, Bool.true_and, Bool.false_and, Bool.and_true, Bool.and_false, decide_true, decide_false])
/-! ### the law -/
theorem amount_lt (c : Int) : ∃ p, Am p ∧ SmT p ∧ SmT (p.1 + p.2, p.2) ∧ f__law_amount K [.int c] = .ok (tr p) := by
  by_cases h : c % 3 = 0
  · have a0 : 0 ≤ c / 3 % 40 := Int.emod_nonneg _ (by decide)
    have a1 : c / 3 % 40 < 40 := Int.emod_lt_of_pos _ (by decide)
    have b0 : 0 ≤ c / 120 % 9 := Int.emod_nonneg _ (by decide)
    have b1 : c / 120 % 9 < 9 := Int.emod_lt_of_pos _ (by decide)
    have sa : Sm (c / 3 % 40) := sm_lt a0 (by omega)
    have sb : Sm (1 + c / 120 % 9) := sm_lt (by omega) (by omega)
    have am := low_am (a := c / 3 % 40) (b := 1 + c / 120 % 9) a0 (by omega)
    have g1 : (low (c / 3 % 40) (1 + c / 120 % 9)).1 ≤ c / 3 % 40 := Int.ediv_le_self _ a0
    have g2 : (low (c / 3 % 40) (1 + c / 120 % 9)).2 ≤ 1 + c / 120 % 9 := Int.ediv_le_self _ (by omega)
    have n1 := am.n0
    have n2 := am.d0
    refine ⟨low (c / 3 % 40) (1 + c / 120 % 9), am, .of (low_sm a0 (by omega) sa sb), ⟨sm_lt (by show 0 ≤ _ + _; omega) (by show _ + _ < _; omega), (low_sm a0 (by omega) sa sb).2⟩, ?_⟩
    unfold f__law_amount g__law_amount
    repeat (first | simp only [h] | walk_at "ev" | rw [law_lowest_eq a0 (by omega) (sm_lim sb)])
  · have a0 : 0 ≤ c / 3 % 1000000000000000000000000000000 := Int.emod_nonneg _ (by decide)
    have a1 : c / 3 % 1000000000000000000000000000000 < 1000000000000000000000000000000 := Int.emod_lt_of_pos _ (by decide)
    have b0 : 0 ≤ (c / 3 / 1000000000000000000000000000000 + c / 7) % 1000000000000000000000000000000 := Int.emod_nonneg _ (by decide)
    have b1 : (c / 3 / 1000000000000000000000000000000 + c / 7) % 1000000000000000000000000000000 < 1000000000000000000000000000000 := Int.emod_lt_of_pos _ (by decide)
    have sa : Sm (c / 3 % 1000000000000000000000000000000) := sm_lt a0 (by omega)
    have sb : Sm (1 + (c / 3 / 1000000000000000000000000000000 + c / 7) % 1000000000000000000000000000000) := sm_lt (by omega) (by omega)
    have am := low_am (a := c / 3 % 1000000000000000000000000000000) (b := 1 + (c / 3 / 1000000000000000000000000000000 + c / 7) % 1000000000000000000000000000000) a0 (by omega)
    have g1 : (low (c / 3 % 1000000000000000000000000000000) (1 + (c / 3 / 1000000000000000000000000000000 + c / 7) % 1000000000000000000000000000000)).1 ≤ c / 3 % 1000000000000000000000000000000 := Int.ediv_le_self _ a0
    have g2 : (low (c / 3 % 1000000000000000000000000000000) (1 + (c / 3 / 1000000000000000000000000000000 + c / 7) % 1000000000000000000000000000000)).2 ≤ 1 + (c / 3 / 1000000000000000000000000000000 + c / 7) % 1000000000000000000000000000000 := Int.ediv_le_self _ (by omega)
    have n1 := am.n0
    have n2 := am.d0
    refine ⟨low (c / 3 % 1000000000000000000000000000000) (1 + (c / 3 / 1000000000000000000000000000000 + c / 7) % 1000000000000000000000000000000), am, .of (low_sm a0 (by omega) sa sb), ⟨sm_lt (by show 0 ≤ _ + _; omega) (by show _ + _ < _; omega), (low_sm a0 (by omega) sa sb).2⟩, ?_⟩
    unfold f__law_amount g__law_amount
    repeat (first | simp only [h] | walk_at "ev" | rw [law_lowest_eq a0 (by omega) (sm_lim sb)])
theorem call0 {φ : List D → Res D} {env : Env} {r : Res D} (h : φ [] = r) : eCall φ aNil env = r := h
theorem pick_ne {α : Type} {xs : List α} (h : xs ≠ []) : pickG xs none none 2 ≠ [] := by
  cases xs with
  | nil => exact absurd rfl h
  | cons x xs =>
    obtain ⟨n, hn⟩ : ∃ n, (((((x :: xs).length : Nat) : Int) - 0 + 2 - 1) / 2).toNat = n + 1 := by
      have hl : (((x :: xs).length : Nat) : Int) = (xs.length : Int) + 1 := by rw [List.length_cons]; omega
      rw [hl]
      exact ⟨((((xs.length : Int) + 1) - 0 + 2 - 1) / 2).toNat - 1, by omega⟩
    have e : sliceRange (sliceBounds none none (some 2) (x :: xs).length).1 (sliceBounds none none (some 2) (x :: xs).length).2.1 (sliceBounds none none (some 2) (x :: xs).length).2.2 = 0 :: ((List.range n).map fun k => (2 * ((k + 1 : Nat) : Int)).toNat) := by
      show (List.range (if (2 : Int) > 0 then (if (0 : Int) < (((x :: xs).length : Nat) : Int) then ((((x :: xs).length : Nat) : Int) - 0 + 2 - 1) / 2 else 0) else _).toNat).map (fun (k : Nat) => ((0 : Int) + 2 * (k : Int)).toNat) = _
      rw [if_pos (by decide), if_pos (by rw [List.length_cons]; omega), hn, List.range_succ_eq_map, List.map_cons, List.map_map]
      congr 1
      apply List.map_congr_left
      intro k _
      show ((0 : Int) + 2 * ((k + 1 : Nat) : Int)).toNat = _
      rw [Int.zero_add]
    intro z
    unfold pickG at z
    rw [e, List.filterMap_cons] at z
    cases z
theorem Bk.sub {l o : List Tr} (h : Bk l) (hn : o ≠ []) (hl : o.length ≤ l.length) (s : ∀ u ∈ o, u ∈ l) : Bk o := ⟨hn, Nat.le_trans hl h.len, fun u hu => h.nn u (s u hu), fun u hu => h.sm u (s u hu)⟩
theorem Bk.sub2 {l o : List Tr} (h : Bk l) (hn : o ≠ []) (hl : o.length ≤ 1000) (s : ∀ u ∈ o, u ∈ l) : Bk o := ⟨hn, hl, fun u hu => h.nn u (s u hu), fun u hu => h.sm u (s u hu)⟩
theorem law_eq (T : Top K mg) (ns : List Int) (hl : ns.length ≤ 63) : f_law K [.lst (ns.map D.int)] = .ok (.bl true) := by
  obtain ⟨l, hb, hb2, hb3, hbk⟩ := law_book_eq (K := K) ns hl
  have lb : Lb l := fun t ht => by
    have := hb3 t ht
    exact ⟨by omega, by omega⟩
  have lpos : 0 < l.length := List.length_pos_iff.mpr hb.ne
  obtain ⟨am, ham⟩ : ∃ am : Int → Tr, ∀ c, Am (am c) ∧ SmT (am c) ∧ SmT ((am c).1 + (am c).2, (am c).2) ∧ f__law_amount K [.int c] = .ok (tr (am c)) := ⟨fun c => Classical.choose (amount_lt (K := K) c), fun c => Classical.choose_spec (amount_lt (K := K) c)⟩
  have csl : (ns ++ [ns.sum]).length ≤ 64 := by rw [List.length_append]; show _ + 1 ≤ _; omega
  have csp : 0 < (ns ++ [ns.sum]).length := by rw [List.length_append]; show 0 < _ + 1; omega
  refine run0_rt ?_
  refine seq_ifF (bNot_of (b := true) (bV_of (call0 outright_eq))) ?_
  refine seq_par (a := bk l) (b := .int ns.sum) (acons (call1 rfl hbk) (acons (fn1 rfl sumD_ints) anil)) ?_
  refine seq_set (d := .int l.length) (fn1 rfl len_bk) ?_
  refine seq_set (d := .lst ((ns ++ [ns.sum]).map fun c => tr (am c))) (eLC_of (ns ++ [ns.sum]) D.int (fun c => tr (am c)) ?_ (by omega) (fun c _ => ⟨_, rfl, call1 rfl (ham c).2.2.2⟩)) ?_
  · have e := cat_ok (f := D.int) (xs := ns) (ys := [ns.sum]) (fa := eVar 0) (fb := eLst (aCons (eVar 2) aNil)) (env := [.sh (.lst (ns.map D.int)), .sh (bk l), .sh (.int ns.sum), .sh (.int l.length), .no, .no, .no, .no, .no, .no]) rfl rfl (by show _ + 1 ≤ _; omega)
    exact (congrArg (fun r : Res D => r.bind toL) e).trans rfl
  let I : Env → Prop := fun env => ∃ a5 a6 a7 a8 a9, env = [.sh (.lst (ns.map D.int)), .sh (bk l), .sh (.int ns.sum), .sh (.int l.length), .sh (.lst ((ns ++ [ns.sum]).map fun c => tr (am c))), a5, a6, a7, a8, a9]
  refine seq_for I (ds := pickG (enumFrom 0 ((ns ++ [ns.sum]).map D.int)) none none 4) ?_ ⟨_, _, _, _, _, rfl⟩ ?_ (fun e he => ?_)
  · have e := cat_ok (f := D.int) (xs := ns) (ys := [ns.sum]) (fa := eVar 0) (fb := eLst (aCons (eVar 2) aNil)) (env := [.sh (.lst (ns.map D.int)), .sh (bk l), .sh (.int ns.sum), .sh (.int l.length), .sh (.lst ((ns ++ [ns.sum]).map fun c => tr (am c))), .no, .no, .no, .no, .no]) rfl rfl (by show _ + 1 ≤ _; omega)
    have e2 : eFn listED (aCons (eOp addD (eVar 0) (eLst (aCons (eVar 2) aNil))) aNil) [.sh (.lst (ns.map D.int)), .sh (bk l), .sh (.int ns.sum), .sh (.int l.length), .sh (.lst ((ns ++ [ns.sum]).map fun c => tr (am c))), .no, .no, .no, .no, .no] = .ok (.lst (enumFrom 0 ((ns ++ [ns.sum]).map D.int))) := fn1 e rfl
    have e3 : slStD none none (some 4) (.lst (enumFrom 0 ((ns ++ [ns.sum]).map D.int))) = some (.lst (pickG (enumFrom 0 ((ns ++ [ns.sum]).map D.int)) none none 4)) := by
      show (if (4 : Int) ≠ 0 ∧ (enumFrom 0 ((ns ++ [ns.sum]).map D.int)).length ≤ 1000000 then some (D.lst (pickG (enumFrom 0 ((ns ++ [ns.sum]).map D.int)) none none 4)) else none) = _
      rw [if_pos ⟨by decide, by rw [enumFrom_len, List.length_map]; omega⟩]
    have e4 : eSlSt (eFn listED (aCons (eOp addD (eVar 0) (eLst (aCons (eVar 2) aNil))) aNil)) oNone oNone (oSome (eC (.int 4))) [.sh (.lst (ns.map D.int)), .sh (bk l), .sh (.int ns.sum), .sh (.int l.length), .sh (.lst ((ns ++ [ns.sum]).map fun c => tr (am c))), .no, .no, .no, .no, .no] = .ok (.lst (pickG (enumFrom 0 ((ns ++ [ns.sum]).map D.int)) none none 4)) := by
      unfold eSlSt
      rw [e2]
      show ofO (slStD none none (some 4) (.lst (enumFrom 0 ((ns ++ [ns.sum]).map D.int)))) = _
      rw [e3]
      rfl
    exact (congrArg (fun r : Res D => r.bind toL) e4).trans rfl
  · rintro d hd env ⟨a5, a6, a7, a8, a9, rfl⟩
    obtain ⟨i, hi⟩ := List.getElem?_of_mem (pickG_mem hd)
    rw [enumFrom_get, List.getElem?_map] at hi
    cases hc : (ns ++ [ns.sum])[i]? with
    | none => rw [hc] at hi; cases hi
    | some c =>
      rw [hc] at hi
      obtain rfl : D.tup [.int ((0 + i : Nat) : Int), .int c] = d := Option.some.inj hi
      rw [Nat.zero_add]
      have il : i < 64 := Nat.lt_of_lt_of_le (List.getElem?_eq_some_iff.mp hc).1 csl
      obtain ⟨j, ej, hj⟩ := mod_at (c / 3) l.length lpos
      have lj : l[j]? = some l[j] := List.getElem?_eq_getElem hj
      have tm := List.mem_of_getElem? lj
      have tn := hb.nn _ tm
      have tb := hb3 _ tm
      have q0 : 0 ≤ c / 5 % 90 := Int.emod_nonneg _ (by decide)
      have q1 : c / 5 % 90 < 90 := Int.emod_lt_of_pos _ (by decide)
      have r0 : 0 ≤ c / 11 % 6 := Int.emod_nonneg _ (by decide)
      have r1 : c / 11 % 6 < 6 := Int.emod_lt_of_pos _ (by decide)
      have s0 : 0 ≤ c / 13 % 6 := Int.emod_nonneg _ (by decide)
      have s1 : c / 13 % 6 < 6 := Int.emod_lt_of_pos _ (by decide)
      have lp : (0 : Int) < l.length := by omega
      have lp2 : (0 : Int) < (l.length : Int) + 2 := by omega
      have hA : (List.map (fun c => tr (am c)) (ns ++ [ns.sum]))[i]? = some (tr (am c)) := by rw [List.getElem?_map, hc]; rfl
      have hx : ixD (.lst ((ns ++ [ns.sum]).map fun c => tr (am c))) (.int (i : Int)) = some (tr (am c)) := atI_map (fun c => tr (am c)) hc
      have si : SmT ((i : Int), 1) := ⟨sm_small (by show (i : Int).natAbs < _; omega), sm_small (by show (1 : Int).natAbs < _; decide)⟩
      have sc : Sm (cst l[j] ((i : Int), 1)) := by
        show Sm (l[j].1 * 1 + l[j].2 * (i : Int))
        have m0 : 0 ≤ l[j].2 * (i : Int) := Int.mul_nonneg tn.2 (by omega)
        have m1 : l[j].2 * (i : Int) ≤ l[j].2 * 64 := Int.mul_le_mul_of_nonneg_left (by omega) tn.2
        refine sm_lt (by omega) (by omega)
      refine ⟨[.sh (.lst (ns.map D.int)), .sh (bk l), .sh (.int ns.sum), .sh (.int l.length), .sh (.lst ((ns ++ [ns.sum]).map fun c => tr (am c))), .sh (.int c), .sh (.int (i : Int)), a7, a8, a9], rfl,
        [.sh (.lst (ns.map D.int)), .sh (bk l), .sh (.int ns.sum), .sh (.int l.length), .sh (.lst ((ns ++ [ns.sum]).map fun c => tr (am c))), .sh (.int c), .sh (.int (i : Int)), .sh (.int (j : Int)), .sh (.int (c / 5 % 90)), .sh (rowD (c % ((l.length : Int) + 2) - 1) (c / 7 % l.length) (c / 11 % 6 - 1) (c / 13 % 6))], ?_, _, _, _, _, _, rfl⟩
      refine seq_par (a := .int (j : Int)) (b := .int (c / 5 % 90)) (acons (op_of (a := .int (c / 3)) (b := .int l.length) (op_of (a := .int c) (b := .int 3) rfl rfl divD_3) rfl (by rw [modD_int lp, ej])) (acons (op_of (a := .int (c / 5)) (b := .int 90) (op_of (a := .int c) (b := .int 5) rfl rfl divD_5) rfl modD_90) anil)) ?_
      refine seq_set (d := rowD (c % ((l.length : Int) + 2) - 1) (c / 7 % l.length) (c / 11 % 6 - 1) (c / 13 % 6)) (eTup_of (acons (op_of (a := .int (c % ((l.length : Int) + 2))) (b := .int 1) (op_of (a := .int c) (b := .int ((l.length : Int) + 2)) rfl rfl (modD_int lp2)) rfl rfl) (acons (op_of (a := .int (c / 7)) (b := .int l.length) (op_of (a := .int c) (b := .int 7) rfl rfl divD_7) rfl (modD_int lp)) (acons (op_of (a := .int (c / 11 % 6)) (b := .int 1) (op_of (a := .int (c / 11)) (b := .int 6) (op_of (a := .int c) (b := .int 11) rfl rfl divD_11) rfl modD_6) rfl rfl) (acons (op_of (a := .int (c / 13)) (b := .int 6) (op_of (a := .int c) (b := .int 13) rfl rfl divD_13) rfl modD_6) anil))))) ?_
      refine seq_ifF (bNot_of (b := true) (bV_of (call4 (a := bk l) (b := .int (j : Int)) (c := tr (am c)) (d := rowD (c % ((l.length : Int) + 2) - 1) (c / 7 % l.length) (c / 11 % 6 - 1) (c / 13 % 6)) rfl rfl (op_of rfl rfl hx) rfl (one_right_eq hb lj (ham c).2.1 (sm_small (by omega)) (sm_small (by omega)))))) ?_
      refine seq_ifF (bNot_of (b := true) (bV_of (call4 (a := bk l) (b := .int (cst l[j] ((i : Int), 1))) (c := .int (j : Int)) (d := tr ((i : Int), 1)) rfl (call2 (a := tr l[j]) (b := tr ((i : Int), 1)) (op_of rfl rfl (ix_bk lj)) rfl (law_cost_eq (hb.at tm) si)) rfl rfl (money_right_eq hb sc si)))) ?_
      exact ifF (bNot_of (b := true) (bV_of (call4 (a := bk l) (b := .int (c / 5 % 90)) (c := .int (c % ((l.length : Int) + 2) - 1)) (d := tr (am c)) rfl rfl (op_of (a := .int (c % ((l.length : Int) + 2))) (b := .int 1) (op_of (a := .int c) (b := .int ((l.length : Int) + 2)) rfl rfl (modD_int lp2)) rfl rfl) (op_of rfl rfl hx) (money_right_eq hb (sm_small (by omega)) (ham c).2.1))))
  · obtain ⟨a5, a6, a7, a8, a9, rfl⟩ := he
    have A0 : ∃ c, ixD (.lst ((ns ++ [ns.sum]).map fun c => tr (am c))) (.int 0) = some (tr (am c)) := ⟨_, ixL (f := fun c => tr (am c)) (i := 0) (List.getElem?_eq_getElem csp)⟩
    have A1 : ∃ c, ixD (.lst ((ns ++ [ns.sum]).map fun c => tr (am c))) (.int (-1)) = some (tr (am c)) := ⟨_, ixL1 (f := fun c => tr (am c)) (List.getElem?_eq_getElem (by omega))⟩
    obtain ⟨c0, g0⟩ := A0
    obtain ⟨c1, g1⟩ := A1
    have p1 : Bk (pickG l none none 2) := hb.sub (pick_ne hb.ne) (pickG_len _ _ _ _ (by decide)) fun u hu => pickG_mem hu
    have b1 : Lb (pickG l none none 2) := fun u hu => lb u (pickG_mem hu)
    have m2 : ∀ u ∈ pickG l (some 1) none 2 ++ cutG l none (some 1), u ∈ l := fun u hu => (List.mem_append.mp hu).elim pickG_mem cutG_mem
    have cl : (cutG l none (some 1)).length = min 1 l.length := cut_pre l 1
    have pl := pickG_len l (some 1) none 2 (by decide)
    have n2 : pickG l (some 1) none 2 ++ cutG l none (some 1) ≠ [] := fun z => by
      have := congrArg List.length z
      rw [List.length_append, cl] at this
      have : (pickG l (some 1) none 2).length + min 1 l.length = 0 := this
      omega
    have p2 : Bk (pickG l (some 1) none 2 ++ cutG l none (some 1)) := hb.sub2 n2 (by rw [List.length_append]; omega) m2
    have b2 : Lb (pickG l (some 1) none 2 ++ cutG l none (some 1)) := fun u hu => lb u (m2 u hu)
    refine seq_ifF (bNot_of (b := true) (bV_of (call3 (a := bk l) (b := .lst (ns.map D.int)) (c := tr (am c0)) rfl rfl (op_of rfl rfl g0) (ranges_right_eq hb lb hl (ham c0).2.1)))) ?_
    have e2 : ∀ {env : Env}, eVar 1 env = .ok (bk l) → eSlSt (eVar 1) oNone oNone (oSome (eC (.int 2))) env = .ok (bk (pickG l none none 2)) := fun h => by
      unfold eSlSt
      rw [h]
      show ofO (slStD none none (some 2) (.lst (l.map tr))) = _
      rw [slSt_map tr (by decide) (by omega)]
      rfl
    have e3 : ∀ {env : Env}, eVar 1 env = .ok (bk l) → eSlSt (eVar 1) (oSome (eC (.int 1))) oNone (oSome (eC (.int 2))) env = .ok (bk (pickG l (some 1) none 2)) := fun h => by
      unfold eSlSt
      rw [h]
      show ofO (slStD (some 1) none (some 2) (.lst (l.map tr))) = _
      rw [slSt_map tr (by decide) (by omega)]
      rfl
    refine seq_ifF (bNot_of (b := true) (bV_of (call4 (a := bk l) (b := bk (pickG l none none 2)) (c := .lst (ns.map D.int)) (d := tr (am c1)) rfl (e2 rfl) rfl (op_of rfl rfl g1) (books_right_eq T hb lb p1 b1 hl (ham c1).2.1 (ham c1).2.2.1)))) ?_
    refine ret_of (call4 (a := bk (pickG l (some 1) none 2 ++ cutG l none (some 1))) (b := bk l) (c := .lst (ns.map D.int)) (d := tr (3, 2)) (cat_ok (f := tr) (xs := pickG l (some 1) none 2) (ys := cutG l none (some 1)) (e3 rfl) (sl_ok (f := tr) (xs := l) rfl rfl rfl) (by omega)) rfl rfl rfl (books_right_eq T p2 b2 hb lb hl (smT_of (by decide) (by decide)) (smT_of (by decide) (by decide))))
end Dt.Ws
open PySem PySem.W PySem.Calls PyProof.Rows
theorem PySem.Challenge.cw_leasttariff_k06_answers_by_hand_holds : PySem.Challenge.rw_leasttariff_k06_answers_by_hand.Holds := by
  w_on; o_law
  refine HandSHeadRun.head_any (r := OpenLaw.row PySem.Challenge.rw_leasttariff_k06_answers_by_hand) (q := view (OpenLaw.row PySem.Challenge.rw_leasttariff_k06_answers_by_hand).prog [48]) (H := Dt.Ws.hk) (ob := Dt.Ws.ob) (M := 6000) (loose := Dt.Ws.names) (d := HandSHeadRun.topDef (OpenLaw.row PySem.Challenge.rw_leasttariff_k06_answers_by_hand).prog 48) (kwd := []) Dt.Ws.ob_eq
    (by kernel_rfl) (fun s => by kernel_rfl) Dt.Ws.hrun (by kernel_rfl) (by kernel_rfl) (by kernel_rfl) (by rfl) (by first | assumption | decide +kernel) (by decide +kernel) ⟨rfl, rfl, rfl, rfl, rfl, by decide +kernel⟩ ?hw ?hc
  case hw => w_witness2
  case hc =>
    refine L2.walk_ofE (l := PySem.Challenge.rw_leasttariff_k06_answers_by_hand) (n := 63) (k := 6) (x := "_law_script") (CX := L2.CX0) rfl (by decide) (by kernel_rfl) ⟨rfl, by decide, by decide⟩ ?F (fun _ _ _ _ z => z)
    intro w mg fa h Y G hmg0
    obtain ⟨K, KX, c⟩ := Y
    have hmg : mg ("law" : PySem.Str) = some (.ref fa) := by
      have e : (HandSHeadRun.topDef (OpenLaw.row PySem.Challenge.rw_leasttariff_k06_answers_by_hand).prog 48).name = ("law" : PySem.Str) := by kernel_rfl
      rw [← e]
      exact hmg0
    have T := Dt.Ws.top_of KX G c
    have e := hmg.symm.trans T.g_law
    cases e
    obtain ⟨fd, F⟩ := T.d_law
    exact ⟨K, fd, Dt.spD K 1 (Dt.Ws.f_law K), KX, fun s v => F.bindsA (ps := ["_law_script"]) (fun _ _ _ _ _ _ us hl => match us, hl with | [_], _ => rfl) s [v] rfl,
      fun H a ns hl _ hS => Dt.law_sp (Dt.Ws.law_eq T ns hl) hS, fun base _ _ => Dt.Ws.okF_law T F⟩
