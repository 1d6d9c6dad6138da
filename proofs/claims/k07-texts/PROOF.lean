import PyProof.Rows.All
import Wide.All
import OpenK.AllK
import Wide.FinOn
import KE.KStateDown
import Lean
import HandS.Base
import HandS.Call
import HandS.List
import HandS.Comp
import HandS.Ends
import HandS.Dict
import HandS.Iter
import HandS.Text
import HandS.More
import HandS.Exc
import HandS.TryOnly
import HandS.ExcOwn
import HandS.Words
import HandS.WordsList
import HandS.WordsExc
import HandS.IsInst
import HandS.Wide
import HandS.Walk
import HandS.StrMore
import HandS.Style
import HandS.Conv
import HandS.Flow
import HandS.CallSlots
import HandS.CallLocal
import HandS.Defaults
import HandS.Head0
import HandS.Head1
import HandS.Head2
import HandS.HeadEnd
import HandS.HeadHook1
import HandS.HeadHook2
import HandS.ExcCtx
import HandS.ExcIs
import HandS.HotCalls
import HandS.SetFor
import KE.DataMinMax
import KE.KRevSl
import PyProof.Rows.StrCut
import KE.IntTextLaws
import KE.KIntText
import PySem.Challenge.RW_leasttariff_k07_texts
set_option Elab.async false
set_option linter.all false
set_option maxRecDepth 100000
set_option maxHeartbeats 0
set_option exponentiation.threshold 10000
/-! # Dt: plain data over the hand layer -/
namespace Dt
open PySem PySem.Spec PyProof.Rows L2
/-- plain data -/
inductive D where
  | non | bl (b : Bool) | int (i : Int) | str (x : Str) | ty (n : String)
  | tup (xs : List D) | lst (xs : List D) | ins (C : Addr) (fs : List (Str × D)) | cls (a : Addr) | dic | err (a C : Addr)
mutual
/-- the value v stands for d, in the heap H -/
inductive Rep (K : PySem.W.Frag) (H : Hp) : V → D → Prop
  | non : Rep K H .non .non
  | bl (b : Bool) : Rep K H (.bl b) (.bl b)
  | int (i : Int) : Rep K H (.int i) (.int i)
  | str (x : Str) : Rep K H (.str x) (.str x)
  | ty (n : String) : Rep K H (.ty n) (.ty n)
  | cls (a : Addr) : Rep K H (.ref a) (.cls a)
  | err (a C : Addr) : Rep K H (.ref a) (.err a C)
  | tup {a : Addr} {vs : List V} {ds : List D} : SqT K H a vs → Reps K H vs ds → Rep K H (.ref a) (.tup ds)
  | lst {a : Addr} {vs : List V} {ds : List D} : SqL K H a vs → Reps K H vs ds → Rep K H (.ref a) (.lst ds)
  | ins {a C dx : Addr} {fs : List (Str × V)} {ds : List (Str × D)} : H a = some (.ins C dx fs) → Repf K H fs ds → Rep K H (.ref a) (.ins C ds)
  | dic {a : Addr} : H a = some (.dK []) → Rep K H (.ref a) .dic
inductive Reps (K : PySem.W.Frag) (H : Hp) : List V → List D → Prop
  | nil : Reps K H [] []
  | cons {v : V} {vs : List V} {d : D} {ds : List D} : Rep K H v d → Reps K H vs ds → Reps K H (v :: vs) (d :: ds)
inductive Repf (K : PySem.W.Frag) (H : Hp) : List (Str × V) → List (Str × D) → Prop
  | nil : Repf K H [] []
  | cons {n : Str} {v : V} {vs : List (Str × V)} {d : D} {ds : List (Str × D)} : Rep K H v d → Repf K H vs ds → Repf K H ((n, v) :: vs) ((n, d) :: ds)
end
theorem Same.seqT {K : PySem.W.Frag} {H H' : Hp} {a : Addr} {xs : List V} (e : Same H H') (h : SqT K H a xs) : SqT K H' a xs := by
  rcases h with (h | ⟨o, h⟩) | h
  · exact .inl (.inl (e _ _ h))
  · exact .inl (.inr ⟨o, e _ _ h⟩)
  · exact .inr h
theorem Same.rd {H H' : Hp} {a : Addr} {u : HO} (e : Same H H') (h : Rd H a u) : Rd H' a u := by
  rcases h with h | ⟨o, h⟩
  · exact .inl (e _ _ h)
  · exact .inr ⟨o, e _ _ h⟩
theorem Same.new {H : Hp} {p : Addr} {o : HO} (h : H p = none) : Same H (upd H p o) := fun b x e => by
  rw [upd_ne (ne_of_none e h)]
  exact e
section
variable {K : PySem.W.Frag} {H H' : Hp}
mutual
theorem Rep.mono (s : Same H H') : ∀ {v : V} {d : D}, Rep K H v d → Rep K H' v d
  | _, _, .non => .non
  | _, _, .bl b => .bl b
  | _, _, .int i => .int i
  | _, _, .str x => .str x
  | _, _, .ty n => .ty n
  | _, _, .cls a => .cls a
  | _, _, .err a C => .err a C
  | _, _, .tup h r => .tup (Same.seqT s h) (Reps.mono s r)
  | _, _, .lst h r => .lst (Same.seq s h) (Reps.mono s r)
  | _, _, .ins h r => .ins (s _ _ h) (Repf.mono s r)
  | _, _, .dic h => .dic (s _ _ h)
theorem Reps.mono (s : Same H H') : ∀ {vs : List V} {ds : List D}, Reps K H vs ds → Reps K H' vs ds
  | _, _, .nil => .nil
  | _, _, .cons r t => .cons (Rep.mono s r) (Reps.mono s t)
theorem Repf.mono (s : Same H H') : ∀ {vs : List (Str × V)} {ds : List (Str × D)}, Repf K H vs ds → Repf K H' vs ds
  | _, _, .nil => .nil
  | _, _, .cons r t => .cons (Rep.mono s r) (Repf.mono s t)
end
theorem Reps.length : ∀ {vs : List V} {ds : List D}, Reps K H vs ds → vs.length = ds.length
  | _, _, .nil => rfl
  | _, _, .cons _ t => by rw [List.length_cons, List.length_cons, Reps.length t]
theorem Reps.get : ∀ {vs : List V} {ds : List D}, Reps K H vs ds → ∀ {i : Nat} {d : D}, ds[i]? = some d → ∃ v, vs[i]? = some v ∧ Rep K H v d
  | _, _, .nil, i, d, h => by simp at h
  | _, _, .cons r t, 0, d, h => by simp at h; subst h; exact ⟨_, rfl, r⟩
  | _, _, .cons r t, i + 1, d, h => by
    obtain ⟨v, e, q⟩ := Reps.get t (i := i) (by simpa using h)
    exact ⟨v, by simpa using e, q⟩
theorem Reps.get' : ∀ {vs : List V} {ds : List D}, Reps K H vs ds → ∀ {i : Nat} {v : V}, vs[i]? = some v → ∃ d, ds[i]? = some d ∧ Rep K H v d
  | _, _, .nil, i, d, h => by simp at h
  | _, _, .cons r t, 0, d, h => by simp at h; subst h; exact ⟨_, rfl, r⟩
  | _, _, .cons r t, i + 1, d, h => by
    obtain ⟨v, e, q⟩ := Reps.get' t (i := i) (by simpa using h)
    exact ⟨v, by simpa using e, q⟩
theorem Reps.append : ∀ {vs ws : List V} {ds es : List D}, Reps K H vs ds → Reps K H ws es → Reps K H (vs ++ ws) (ds ++ es)
  | _, _, _, _, .nil, s => s
  | _, _, _, _, .cons r t, s => .cons r (Reps.append t s)
theorem Reps.take : ∀ {vs : List V} {ds : List D} (n : Nat), Reps K H vs ds → Reps K H (vs.take n) (ds.take n)
  | _, _, 0, _ => .nil
  | _, _, _ + 1, .nil => .nil
  | _, _, n + 1, .cons r t => .cons r (Reps.take n t)
theorem Reps.drop : ∀ {vs : List V} {ds : List D} (n : Nat), Reps K H vs ds → Reps K H (vs.drop n) (ds.drop n)
  | _, _, 0, r => r
  | _, _, _ + 1, .nil => .nil
  | _, _, n + 1, .cons _ t => Reps.drop n t
theorem Reps.reverse {vs : List V} {ds : List D} (h : Reps K H vs ds) : Reps K H vs.reverse ds.reverse := by
  induction vs generalizing ds with
  | nil => cases h; exact .nil
  | cons v vs ih =>
    cases h with
    | cons r t =>
      rw [List.reverse_cons, List.reverse_cons]
      exact Reps.append (ih t) (.cons r .nil)
theorem Reps.set : ∀ {vs : List V} {ds : List D} {v : V} {d : D} (n : Nat), Rep K H v d → Reps K H vs ds → Reps K H (vs.set n v) (ds.set n d)
  | _, _, _, _, _, _, .nil => .nil
  | _, _, _, _, 0, q, .cons _ t => .cons q t
  | _, _, _, _, n + 1, q, .cons r t => .cons r (Reps.set n q t)
theorem Repf.lookup {f : Str} : ∀ {vs : List (Str × V)} {ds : List (Str × D)} {d : D}, Repf K H vs ds → ds.lookup f = some d → ∃ v, vs.lookup f = some v ∧ Rep K H v d
  | _, _, _, .nil, h => by simp at h
  | _, _, d, @Repf.cons _ _ n v vs d' ds r t, h => by
    by_cases e : (f == n) = true
    · simp only [List.lookup, e] at h ⊢
      cases h
      exact ⟨_, rfl, r⟩
    · have e' : (f == n) = false := by simpa using e
      simp only [List.lookup, e'] at h ⊢
      exact Repf.lookup t h
theorem Repf.none_of {f : Str} : ∀ {vs : List (Str × V)} {ds : List (Str × D)}, Repf K H vs ds → ds.lookup f = none → vs.lookup f = none
  | _, _, .nil, h => rfl
  | _, _, @Repf.cons _ _ n v vs d' ds r t, h => by
    by_cases e : (f == n) = true
    · simp only [List.lookup, e] at h
      cases h
    · have e' : (f == n) = false := by simpa using e
      simp only [List.lookup, e'] at h ⊢
      exact Repf.none_of t h
theorem Reps.ints : ∀ {vs : List V} {ns : List Int}, Reps K H vs (ns.map D.int) → vs = ns.map V.int
  | _, [], .nil => rfl
  | _, n :: ns, .cons r t => by
    cases r
    rw [Reps.ints t]
    rfl
theorem Reps.bls : ∀ {vs : List V} {ns : List Bool}, Reps K H vs (ns.map D.bl) → vs = ns.map V.bl
  | _, [], .nil => rfl
  | _, n :: ns, .cons r t => by
    cases r
    rw [Reps.bls t]
    rfl
theorem Reps.strs : ∀ {vs : List V} {ns : List Str}, Reps K H vs (ns.map D.str) → vs = ns.map V.str
  | _, [], .nil => rfl
  | _, n :: ns, .cons r t => by
    cases r
    rw [Reps.strs t]
    rfl
theorem Reps.of_ints : ∀ {ns : List Int}, Reps K H (ns.map V.int) (ns.map D.int)
  | [] => .nil
  | _ :: _ => .cons (.int _) Reps.of_ints
theorem Reps.of_strs : ∀ {ns : List Str}, Reps K H (ns.map V.str) (ns.map D.str)
  | [] => .nil
  | _ :: _ => .cons (.str _) Reps.of_strs
end
/-! ### results -/
inductive Res (α : Type) where
  | no | ex (C : Addr) | ok (a : α)
def Res.bind {α β : Type} : Res α → (α → Res β) → Res β
  | .no, _ => .no
  | .ex C, _ => .ex C
  | .ok a, g => g a
def ofO {α : Type} : Option α → Res α
  | none => .no
  | some a => .ok a
@[simp] theorem Res.bind_ok {α β : Type} (a : α) (g : α → Res β) : (Res.ok a).bind g = g a := rfl
@[simp] theorem Res.bind_no {α β : Type} (g : α → Res β) : (Res.no : Res α).bind g = .no := rfl
@[simp] theorem Res.bind_ex {α β : Type} (C : Addr) (g : α → Res β) : (Res.ex C : Res α).bind g = .ex C := rfl
@[simp] theorem ofO_some {α : Type} (a : α) : ofO (some a) = .ok a := rfl
@[simp] theorem ofO_none {α : Type} : ofO (none : Option α) = .no := rfl
/-! ### slots -/
inductive Sl where
  | no | sh (d : D) | ow (ds : List D) | oi (C : Addr) (fs : List (Str × List D))
abbrev Env := List Sl
/-- the known part H0 of the heap H grows -/
structure Grow (H0 H H0' H' : Hp) : Prop where
  s0 : Same H0 H0'
  s : Same H H'
  sub : Same H0' H'
  fr : ∀ p, H p ≠ none → H0 p = none → H0' p = none
theorem Grow.refl {H0 H : Hp} (h : Same H0 H) : Grow H0 H H0 H := ⟨Same.refl _, Same.refl _, h, fun _ _ e => e⟩
theorem Grow.trans {A0 A B0 B C0 C : Hp} (g : Grow A0 A B0 B) (k : Grow B0 B C0 C) : Grow A0 A C0 C :=
  ⟨g.s0.trans k.s0, g.s.trans k.s, k.sub, fun p h e => k.fr p (fun z => h (Same.free g.s z)) (g.fr p h e)⟩
theorem Grow.new {H0 H : Hp} {p : Addr} {o : HO} (h : Same H0 H) (hp : H p = none) : Grow H0 H (upd H0 p o) (upd H p o) := by
  refine ⟨Same.new (h.free hp), Same.new hp, fun b x e => ?_, fun q hq e => ?_⟩
  · by_cases hb : b = p
    · subst hb
      rw [upd_same] at e ⊢
      exact e
    · rw [upd_ne hb] at e ⊢
      exact h b x e
  · have hb : q ≠ p := fun z => hq (by rw [z]; exact hp)
    rw [upd_ne hb]
    exact e
theorem Grow.keep {H0 H H' : Hp} (h : Same H0 H) (k : Same H H') : Grow H0 H H0 H' := ⟨Same.refl _, k, h.trans k, fun _ _ e => e⟩
/-- the fields of an instance of one's own: lists of one's own -/
inductive RepL (K : PySem.W.Frag) (H0 H : Hp) : List (Str × V) → List (Str × List D) → Prop
  | nil : RepL K H0 H [] []
  | cons {n : Str} {q : Addr} {ws : List V} {ds : List D} {vs : List (Str × V)} {fs : List (Str × List D)} : H q = some (.lst ws) → H0 q = none → Reps K H0 ws ds → (∀ m, (m, V.ref q) ∉ vs) → RepL K H0 H vs fs → RepL K H0 H ((n, .ref q) :: vs) ((n, ds) :: fs)
section
variable {K : PySem.W.Frag} {H0 H H0' H' : Hp} {vs : List (Str × V)} {fs : List (Str × List D)}
theorem RepL.mem (r : RepL K H0 H vs fs) : ∀ {n : Str} {q : Addr}, (n, V.ref q) ∈ vs → (∃ ws, H q = some (.lst ws)) ∧ H0 q = none := by
  induction r with
  | nil => intro n q h; cases h
  | cons h1 h2 h3 h4 _ ih =>
    intro n q h
    rcases List.mem_cons.mp h with e | h
    · cases e
      exact ⟨⟨_, h1⟩, h2⟩
    · exact ih h
theorem RepL.grow (r : RepL K H0 H vs fs) (g : Grow H0 H H0' H') : RepL K H0' H' vs fs := by
  induction r with
  | nil => exact .nil
  | cons h1 h2 h3 h4 _ ih => exact .cons (g.s _ _ h1) (g.fr _ (by rw [h1]; exact fun z => nomatch z) h2) (h3.mono g.s0) h4 ih
theorem RepL.heap (r : RepL K H0 H vs fs) (k : ∀ n q, (n, V.ref q) ∈ vs → H' q = H q) : RepL K H0 H' vs fs := by
  induction r with
  | nil => exact .nil
  | cons h1 h2 h3 h4 _ ih => exact .cons ((k _ _ List.mem_cons_self).trans h1) h2 h3 h4 (ih fun n q h => k n q (List.mem_cons_of_mem _ h))
theorem RepL.known (r : RepL K H0 H vs fs) (s : Same H0 H0') (k : ∀ n q, (n, V.ref q) ∈ vs → H0' q = none) : RepL K H0' H vs fs := by
  induction r with
  | nil => exact .nil
  | cons h1 h2 h3 h4 _ ih => exact .cons h1 (k _ _ List.mem_cons_self) (h3.mono s) h4 (ih fun n q h => k n q (List.mem_cons_of_mem _ h))
end
/-- the slots σ and the heap H (its known part H0) stand for env -/
structure ER (K : PySem.W.Frag) (σ : L2.St) (H0 H : Hp) (env : Env) : Prop where
  sub : Same H0 H
  len : env.length = σ.length
  sh : ∀ (i : Nat) (d : D), env[i]? = some (.sh d) → ∃ v, σ[i]? = some (some v) ∧ Rep K H0 v d
  ow : ∀ (i : Nat) (ds : List D), env[i]? = some (.ow ds) → ∃ p vs, σ[i]? = some (some (.ref p)) ∧ H p = some (.lst vs) ∧ H0 p = none ∧ Reps K H0 vs ds
  ap : ∀ (i j : Nat) (ds es : List D) (p : Addr), env[i]? = some (.ow ds) → env[j]? = some (.ow es) → σ[i]? = some (some (.ref p)) → σ[j]? = some (some (.ref p)) → i = j
  oi : ∀ (i : Nat) (C : Addr) (fs : List (Str × List D)), env[i]? = some (.oi C fs) → ∃ x dx vfs, σ[i]? = some (some (.ref x)) ∧ H x = some (.ins C dx vfs) ∧ H0 x = none ∧ RepL K H0 H vfs fs ∧
    ∀ (j : Nat) (ds : List D) (n : Str) (q : Addr), env[j]? = some (.ow ds) → (n, V.ref q) ∈ vfs → σ[j]? ≠ some (some (.ref q))
  o1 : ∀ (i j : Nat) (C C' : Addr) (fs fs' : List (Str × List D)), env[i]? = some (.oi C fs) → env[j]? = some (.oi C' fs') → i = j
section
variable {K : PySem.W.Frag} {σ : L2.St} {H0 H H0' H' : Hp} {env : Env}
theorem ER.grow (r : ER K σ H0 H env) (g : Grow H0 H H0' H') : ER K σ H0' H' env where
  sub := g.sub
  len := r.len
  sh := fun i d e => let ⟨v, h1, h2⟩ := r.sh i d e; ⟨v, h1, h2.mono g.s0⟩
  ow := fun i ds e => by
    obtain ⟨p, vs, h1, h2, h3, h4⟩ := r.ow i ds e
    exact ⟨p, vs, h1, g.s _ _ h2, g.fr p (by rw [h2]; exact fun z => nomatch z) h3, h4.mono g.s0⟩
  ap := r.ap
  oi := fun i C fs e => by
    obtain ⟨x, dx, vfs, h1, h2, h3, h4, h5⟩ := r.oi i C fs e
    exact ⟨x, dx, vfs, h1, g.s _ _ h2, g.fr x (by rw [h2]; exact fun z => nomatch z) h3, h4.grow g, h5⟩
  o1 := r.o1
theorem set_some {α : Type} {l : List α} {i j : Nat} {x y : α} (h : (l.set i x)[j]? = some y) : (i = j ∧ y = x) ∨ (i ≠ j ∧ l[j]? = some y) := by
  by_cases e : i = j
  · subst e
    by_cases hl : i < l.length
    · rw [List.getElem?_set_self hl] at h
      exact .inl ⟨rfl, (Option.some.inj h).symm⟩
    · rw [List.getElem?_eq_none (by simpa using hl)] at h
      cases h
  · rw [List.getElem?_set_ne e] at h
    exact .inr ⟨e, h⟩
theorem ER.set {i : Nat} {v : V} {d : D} (r : ER K σ H0 H env) (h : Rep K H0 v d) : ER K (σ.set i (some v)) H0 H (env.set i (.sh d)) where
  sub := r.sub
  len := by rw [List.length_set, List.length_set, r.len]
  sh := fun j d' e => by
    rcases set_some e with ⟨rfl, e2⟩ | ⟨hj, e2⟩
    · cases e2
      refine ⟨v, ?_, h⟩
      have hl : i < env.length := by
        by_cases hl : i < env.length
        · exact hl
        · rw [List.getElem?_eq_none (by simpa using hl)] at e
          cases e
      rw [List.getElem?_set_self (by rw [← r.len]; exact hl)]
    · obtain ⟨w, h1, h2⟩ := r.sh j d' e2
      exact ⟨w, by rw [List.getElem?_set_ne hj]; exact h1, h2⟩
  ow := fun j ds e => by
    rcases set_some e with ⟨rfl, e2⟩ | ⟨hj, e2⟩
    · cases e2
    · obtain ⟨p, vs, h1, h2⟩ := r.ow j ds e2
      exact ⟨p, vs, by rw [List.getElem?_set_ne hj]; exact h1, h2⟩
  ap := fun j k ds es p e1 e2 e3 e4 => by
    rcases set_some e1 with ⟨rfl, z⟩ | ⟨hj, z⟩
    · cases z
    · rcases set_some e2 with ⟨rfl, z2⟩ | ⟨hk, z2⟩
      · cases z2
      · rw [List.getElem?_set_ne hj] at e3
        rw [List.getElem?_set_ne hk] at e4
        exact r.ap j k ds es p z z2 e3 e4
  oi := fun j C fs e => by
    rcases set_some e with ⟨rfl, e2⟩ | ⟨hj, e2⟩
    · cases e2
    · obtain ⟨x, dx, vfs, h1, h2, h3, h4, h5⟩ := r.oi j C fs e2
      refine ⟨x, dx, vfs, by rw [List.getElem?_set_ne hj]; exact h1, h2, h3, h4, fun k ds n q e3 hq => ?_⟩
      rcases set_some e3 with ⟨rfl, z⟩ | ⟨hk, z⟩
      · cases z
      · rw [List.getElem?_set_ne hk]
        exact h5 k ds n q z hq
  o1 := fun j k C C' fs fs' e1 e2 => by
    rcases set_some e1 with ⟨rfl, z⟩ | ⟨hj, z⟩
    · cases z
    · rcases set_some e2 with ⟨rfl, z2⟩ | ⟨hk, z2⟩
      · cases z2
      · exact r.o1 j k C C' fs fs' z z2
/-- a slot forgotten -/
theorem ER.forget {i : Nat} {o : Option V} (r : ER K σ H0 H env) : ER K (σ.set i o) H0 H (env.set i .no) where
  sub := r.sub
  len := by rw [List.length_set, List.length_set, r.len]
  sh := fun j d' e => by
    rcases set_some e with ⟨rfl, e2⟩ | ⟨hj, e2⟩
    · cases e2
    · obtain ⟨w, h1, h2⟩ := r.sh j d' e2
      exact ⟨w, by rw [List.getElem?_set_ne hj]; exact h1, h2⟩
  ow := fun j ds e => by
    rcases set_some e with ⟨rfl, e2⟩ | ⟨hj, e2⟩
    · cases e2
    · obtain ⟨p, vs, h1, h2⟩ := r.ow j ds e2
      exact ⟨p, vs, by rw [List.getElem?_set_ne hj]; exact h1, h2⟩
  ap := fun j k ds es p e1 e2 e3 e4 => by
    rcases set_some e1 with ⟨rfl, z⟩ | ⟨hj, z⟩
    · cases z
    · rcases set_some e2 with ⟨rfl, z2⟩ | ⟨hk, z2⟩
      · cases z2
      · rw [List.getElem?_set_ne hj] at e3
        rw [List.getElem?_set_ne hk] at e4
        exact r.ap j k ds es p z z2 e3 e4
  oi := fun j C fs e => by
    rcases set_some e with ⟨rfl, e2⟩ | ⟨hj, e2⟩
    · cases e2
    · obtain ⟨x, dx, vfs, h1, h2, h3, h4, h5⟩ := r.oi j C fs e2
      refine ⟨x, dx, vfs, by rw [List.getElem?_set_ne hj]; exact h1, h2, h3, h4, fun k ds n q e3 hq => ?_⟩
      rcases set_some e3 with ⟨rfl, z⟩ | ⟨hk, z⟩
      · cases z
      · rw [List.getElem?_set_ne hk]
        exact h5 k ds n q z hq
  o1 := fun j k C C' fs fs' e1 e2 => by
    rcases set_some e1 with ⟨rfl, z⟩ | ⟨hj, z⟩
    · cases z
    · rcases set_some e2 with ⟨rfl, z2⟩ | ⟨hk, z2⟩
      · cases z2
      · exact r.o1 j k C C' fs fs' z z2
def wipeE (env : Env) : List Nat → Env
  | [] => env
  | v :: vs => (wipeE env vs).set v .no
theorem ER.wipe (r : ER K σ H0 H env) : ∀ vs : List Nat, ER K (L2.wipe σ vs) H0 H (wipeE env vs)
  | [] => r
  | _ :: vs => (ER.wipe r vs).forget
/-- a new list of one's own -/
theorem ER.setO {i : Nat} {p : Addr} {vs : List V} {ds : List D} (r : ER K σ H0 H env) (hp : H p = some (.lst vs)) (h0 : H0 p = none) (hr : Reps K H0 vs ds)
    (new : ∀ (j : Nat) (es : List D), env[j]? = some (.ow es) → σ[j]? ≠ some (some (.ref p)))
    (newo : ∀ (j : Nat) (C : Addr) (fs : List (Str × List D)) (x C' dx : Addr) (vfs : List (Str × V)) (n : Str), env[j]? = some (.oi C fs) → σ[j]? = some (some (.ref x)) → H x = some (.ins C' dx vfs) → (n, V.ref p) ∉ vfs) : ER K (σ.set i (some (.ref p))) H0 H (env.set i (.ow ds)) where
  sub := r.sub
  len := by rw [List.length_set, List.length_set, r.len]
  sh := fun j d' e => by
    rcases set_some e with ⟨rfl, e2⟩ | ⟨hj, e2⟩
    · cases e2
    · obtain ⟨w, h1, h2⟩ := r.sh j d' e2
      exact ⟨w, by rw [List.getElem?_set_ne hj]; exact h1, h2⟩
  ow := fun j es e => by
    rcases set_some e with ⟨rfl, e2⟩ | ⟨hj, e2⟩
    · cases e2
      have hl : i < env.length := by
        by_cases hl : i < env.length
        · exact hl
        · rw [List.getElem?_eq_none (by simpa using hl)] at e
          cases e
      exact ⟨p, vs, by rw [List.getElem?_set_self (by rw [← r.len]; exact hl)], hp, h0, hr⟩
    · obtain ⟨p, vs, h1, h2⟩ := r.ow j es e2
      exact ⟨p, vs, by rw [List.getElem?_set_ne hj]; exact h1, h2⟩
  ap := fun j k d1 d2 q e1 e2 e3 e4 => by
    rcases set_some e1 with ⟨rfl, z⟩ | ⟨hj, z⟩
    · rcases set_some e2 with ⟨rfl, z2⟩ | ⟨hk, z2⟩
      · rfl
      · rw [List.getElem?_set_ne hk] at e4
        rcases set_some e3 with ⟨_, w⟩ | ⟨hi, _⟩
        · cases w
          exact absurd e4 (new k d2 z2)
        · exact absurd rfl hi
    · rcases set_some e2 with ⟨rfl, z2⟩ | ⟨hk, z2⟩
      · rw [List.getElem?_set_ne hj] at e3
        rcases set_some e4 with ⟨_, w⟩ | ⟨hi, _⟩
        · cases w
          exact absurd e3 (new j d1 z)
        · exact absurd rfl hi
      · rw [List.getElem?_set_ne hj] at e3
        rw [List.getElem?_set_ne hk] at e4
        exact r.ap j k d1 d2 q z z2 e3 e4
  oi := fun j C fs e => by
    rcases set_some e with ⟨rfl, e2⟩ | ⟨hj, e2⟩
    · cases e2
    · obtain ⟨x, dx, vfs, h1, h2, h3, h4, h5⟩ := r.oi j C fs e2
      refine ⟨x, dx, vfs, by rw [List.getElem?_set_ne hj]; exact h1, h2, h3, h4, fun k ds' n q e3 hq e4 => ?_⟩
      rcases set_some e3 with ⟨rfl, z⟩ | ⟨hk, z⟩
      · rcases set_some e4 with ⟨_, w⟩ | ⟨hi, _⟩
        · cases w
          exact newo j C fs x C dx vfs n e2 h1 h2 hq
        · exact hi rfl
      · rw [List.getElem?_set_ne hk] at e4
        exact h5 k ds' n q z hq e4
  o1 := fun j k C C' fs fs' e1 e2 => by
    rcases set_some e1 with ⟨rfl, z⟩ | ⟨hj, z⟩
    · cases z
    · rcases set_some e2 with ⟨rfl, z2⟩ | ⟨hk, z2⟩
      · cases z2
      · exact r.o1 j k C C' fs fs' z z2
/-- an own list is written -/
theorem ER.put {i : Nat} {p : Addr} {vs : List V} {ds es : List D} (r : ER K σ H0 H env) (hi : env[i]? = some (.ow es)) (hσ : σ[i]? = some (some (.ref p))) (hr : Reps K H0 vs ds) :
    ER K σ H0 (upd H p (.lst vs)) (env.set i (.ow ds)) := by
  have h0 : H0 p = none := by
    obtain ⟨q, ws, h1, h2, h3, h4⟩ := r.ow i es hi
    rw [hσ] at h1
    cases h1
    exact h3
  have hp : ∃ ws, H p = some (.lst ws) := by
    obtain ⟨q, ws, h1, h2, h3, h4⟩ := r.ow i es hi
    rw [hσ] at h1
    cases h1
    exact ⟨ws, h2⟩
  refine ⟨fun b o e => ?_, by rw [List.length_set, r.len], fun j d' e => ?_, fun j fs e => ?_, fun j k d1 d2 q e1 e2 e3 e4 => ?_, fun j C fs e => ?_, fun j k C C' fs fs' e1 e2 => ?_⟩
  · rw [upd_ne (ne_of_none e h0)]
    exact r.sub b o e
  · rcases set_some e with ⟨rfl, e2⟩ | ⟨hj, e2⟩
    · cases e2
    · exact r.sh j d' e2
  · rcases set_some e with ⟨rfl, e2⟩ | ⟨hj, e2⟩
    · cases e2
      exact ⟨p, vs, hσ, upd_same, h0, hr⟩
    · obtain ⟨q, ws, h1, h2, h3⟩ := r.ow j fs e2
      have ne : q ≠ p := fun z => by
        subst z
        exact hj (r.ap i j es fs q hi e2 hσ h1)
      exact ⟨q, ws, h1, by rw [upd_ne ne]; exact h2, h3⟩
  · have old : ∀ (j : Nat) (d1 : List D), (env.set i (.ow ds))[j]? = some (.ow d1) → ∃ d, env[j]? = some (.ow d) := fun j d1 e => by
      rcases set_some e with ⟨rfl, e2⟩ | ⟨hj, e2⟩
      · exact ⟨_, hi⟩
      · exact ⟨_, e2⟩
    obtain ⟨f1, z1⟩ := old j d1 e1
    obtain ⟨f2, z2⟩ := old k d2 e2
    exact r.ap j k f1 f2 q z1 z2 e3 e4
  · rcases set_some e with ⟨rfl, e2⟩ | ⟨hj, e2⟩
    · cases e2
    · obtain ⟨x, dx, vfs, h1, h2, h3, h4, h5⟩ := r.oi j C fs e2
      obtain ⟨ws, hp⟩ := hp
      have xp : x ≠ p := fun z => by
        rw [z, hp] at h2
        cases h2
      refine ⟨x, dx, vfs, h1, by rw [upd_ne xp]; exact h2, h3, h4.heap fun n q hq => ?_, fun k ds' n q e3 hq => ?_⟩
      · have qp : q ≠ p := fun z => h5 i es n q hi hq (by rw [z]; exact hσ)
        rw [upd_ne qp]
      · rcases set_some e3 with ⟨rfl, z⟩ | ⟨hk, z⟩
        · exact h5 i es n q hi hq
        · exact h5 k ds' n q z hq
  · rcases set_some e1 with ⟨rfl, z⟩ | ⟨hj, z⟩
    · cases z
    · rcases set_some e2 with ⟨rfl, z2⟩ | ⟨hk, z2⟩
      · cases z2
      · exact r.o1 j k C C' fs fs' z z2
/-- an own list becomes known -/
theorem ER.freeze {i : Nat} {es : List D} (r : ER K σ H0 H env) (hi : env[i]? = some (.ow es)) : ∃ p vs, H p = some (.lst vs) ∧ H0 p = none ∧ σ[i]? = some (some (.ref p)) ∧ Reps K H0 vs es ∧ ER K σ (upd H0 p (.lst vs)) H (env.set i (.sh (.lst es))) := by
  obtain ⟨p, vs, h1, h2, h3, h4⟩ := r.ow i es hi
  have sm : Same H0 (upd H0 p (.lst vs)) := Same.new h3
  refine ⟨p, vs, h2, h3, h1, h4, fun b o e => ?_, by rw [List.length_set, r.len], fun j d' e => ?_, fun j fs e => ?_, fun j k d1 d2 q e1 e2 e3 e4 => ?_, fun j C fs e => ?_, fun j k C C' fs fs' e1 e2 => ?_⟩
  · by_cases hb : b = p
    · subst hb
      rw [upd_same] at e
      cases e
      exact h2
    · rw [upd_ne hb] at e
      exact r.sub b o e
  · rcases set_some e with ⟨rfl, e2⟩ | ⟨hj, e2⟩
    · cases e2
      exact ⟨_, h1, .lst (SqL.of upd_same) (h4.mono sm)⟩
    · obtain ⟨w, h5, h6⟩ := r.sh j d' e2
      exact ⟨w, h5, h6.mono sm⟩
  · rcases set_some e with ⟨rfl, e2⟩ | ⟨hj, e2⟩
    · cases e2
    · obtain ⟨q, ws, g1, g2, g3, g4⟩ := r.ow j fs e2
      have ne : q ≠ p := fun z => by
        subst z
        exact hj (r.ap i j es fs q hi e2 h1 g1)
      exact ⟨q, ws, g1, g2, by rw [upd_ne ne]; exact g3, g4.mono sm⟩
  · rcases set_some e1 with ⟨rfl, z⟩ | ⟨hj, z⟩
    · cases z
    · rcases set_some e2 with ⟨rfl, z2⟩ | ⟨hk, z2⟩
      · cases z2
      · exact r.ap j k d1 d2 q z z2 e3 e4
  · rcases set_some e with ⟨rfl, e2⟩ | ⟨hj, e2⟩
    · cases e2
    · obtain ⟨x, dx, vfs, g1, g2, g3, g4, g5⟩ := r.oi j C fs e2
      have xp : x ≠ p := fun z => by
        rw [z, h2] at g2
        cases g2
      refine ⟨x, dx, vfs, g1, g2, by rw [upd_ne xp]; exact g3, g4.known sm fun n q hq => ?_, fun k ds' n q e3 hq => ?_⟩
      · have qp : q ≠ p := fun z => g5 i es n q hi hq (by rw [z]; exact h1)
        rw [upd_ne qp]
        exact (g4.mem hq).2
      · rcases set_some e3 with ⟨rfl, z⟩ | ⟨hk, z⟩
        · cases z
        · exact g5 k ds' n q z hq
  · rcases set_some e1 with ⟨rfl, z⟩ | ⟨hj, z⟩
    · cases z
    · rcases set_some e2 with ⟨rfl, z2⟩ | ⟨hk, z2⟩
      · cases z2
      · exact r.o1 j k C C' fs fs' z z2
end
/-! ### readings -/
/-- what is wanted of a result -/
def Kt {α β : Type} (R : Hp → β → α → Prop) (W : WX) (σ : L2.St) (H0 H : Hp) (r : Res α) (Q : β → Hp → Prop) : Prop := match r with
  | .no => False
  | .ex C => ∀ H0' H', Grow H0 H H0' H' → W (.ref C) none σ H'
  | .ok a => ∀ x H0' H', Grow H0 H H0' H' → R H0' x a → Q x H'
def tR {α β : Type} (K : PySem.W.Frag) (R : Hp → β → α → Prop) (W : WX) (f : Env → Res α) : L2.St → Hp → (β → Hp → Prop) → Prop := fun σ H Q => ∃ H0 env, ER K σ H0 H env ∧ Kt R W σ H0 H (f env) Q
abbrev rD (K : PySem.W.Frag) : Hp → V → D → Prop := fun H v d => Rep K H v d
abbrev rDs (K : PySem.W.Frag) : Hp → List V → List D → Prop := fun H v d => Reps K H v d
abbrev rV {α : Type} : Hp → α → α → Prop := fun _ a b => a = b
abbrev tD (K : PySem.W.Frag) (W : WX) (f : Env → Res D) : TE := tR K (rD K) W f
abbrev tDs (K : PySem.W.Frag) (W : WX) (f : Env → Res (List D)) : TA := tR K (rDs K) W f
abbrev tDB (K : PySem.W.Frag) (W : WX) (f : Env → Res Bool) : TT := tR K rV W f
abbrev tDO (K : PySem.W.Frag) (W : WX) (f : Env → Res (Option Int)) : TO := tR K rV W f
section
variable {K : PySem.W.Frag} {σ : L2.St} {H0 H H0' H' : Hp} {env : Env} {W : WX} {α β γ δ : Type} {R : Hp → β → α → Prop} {R' : Hp → δ → γ → Prop}
theorem Kt.shift {r : Res α} {Q : β → Hp → Prop} (g : Grow H0 H H0' H') (k : Kt R W σ H0 H r Q) : Kt R W σ H0' H' r Q := by
  cases r with
  | no => exact k
  | ex C => exact fun A B h => k A B (g.trans h)
  | ok a => exact fun x A B h q => k x A B (g.trans h) q
theorem Kt.seq {r : Res α} {g : α → Res γ} {P : β → Hp → Prop} {Q : δ → Hp → Prop} (er : ER K σ H0 H env) (k : Kt R' W σ H0 H (r.bind g) Q)
    (p : ∀ x a H0' H', Grow H0 H H0' H' → ER K σ H0' H' env → R H0' x a → Kt R' W σ H0' H' (g a) Q → P x H') : Kt R W σ H0 H r P := by
  cases r with
  | no => exact k
  | ex C => exact k
  | ok a => exact fun x A B h q => p x a A B h (er.grow h) q (Kt.shift h k)
theorem Kt.ok {a : α} {Q : β → Hp → Prop} {x : β} (k : Kt R W σ H0 H (.ok a) Q) (g : Grow H0 H H0' H') (h : R H0' x a) : Q x H' := k x _ _ g h
end
theorem PE.imp {X : Cx} {e : Expr} {t t' : TE} (h : PE X e t) (i : ∀ σ H Q, t' σ H Q → t σ H Q) : PE X e t' := ⟨fun pins s σ H Q I w => h.run pins s σ H Q I (i σ H Q w)⟩
theorem PT.imp {X : Cx} {e : Expr} {t t' : TT} (h : PT X e t) (i : ∀ σ H Q, t' σ H Q → t σ H Q) : PT X e t' := ⟨fun pins s σ H Q I w => h.run pins s σ H Q I (i σ H Q w)⟩
theorem PA.imp {X : Cx} {e : List Expr} {t t' : TA} (h : PA X e t) (i : ∀ σ H Q, t' σ H Q → t σ H Q) : PA X e t' := ⟨fun pos pins s σ H Q I w => h.run pos pins s σ H Q I (i σ H Q w)⟩
theorem PO.imp {X : Cx} {e : Option Expr} {t t' : TO} (h : PO X e t) (i : ∀ σ H Q, t' σ H Q → t σ H Q) : PO X e t' := ⟨fun pins s σ H Q I w => h.run pins s σ H Q I (i σ H Q w)⟩
theorem PS.imp {X : Cx} {e : Stmt} {t t' : TS} (h : PS X e t) (i : ∀ D σ H, t' D σ H → t D σ H) : PS X e t' := ⟨fun pins s σ H Q I w => h.run pins s σ H Q I (i Q σ H w)⟩
theorem PSs.imp {X : Cx} {e : List Stmt} {t t' : TS} (h : PSs X e t) (i : ∀ D σ H, t' D σ H → t D σ H) : PSs X e t' := ⟨fun pins s σ H Q I w => h.run pins s σ H Q I (i Q σ H w)⟩
end Dt
namespace Dt
open PySem PySem.Spec PyProof.Rows L2
/-! ## expressions -/
def eVar (i : Nat) : Env → Res D := fun env => match env[i]? with
  | some (.sh d) => .ok d
  | _ => .no
def eC (d : D) : Env → Res D := fun _ => .ok d
def eOp (g : D → D → Option D) (fa fb : Env → Res D) : Env → Res D := fun env => (fa env).bind fun a => (fb env).bind fun b => ofO (g a b)
def eUn (g : D → Option D) (fa : Env → Res D) : Env → Res D := fun env => (fa env).bind fun a => ofO (g a)
def toB : D → Res Bool
  | .bl b => .ok b
  | _ => .no
def bV (fa : Env → Res D) : Env → Res Bool := fun env => (fa env).bind toB
def bAnd (fa fb : Env → Res Bool) : Env → Res Bool := fun env => (fa env).bind fun a => if a = true then fb env else .ok false
def bOr (fa fb : Env → Res Bool) : Env → Res Bool := fun env => (fa env).bind fun a => if a = true then .ok true else fb env
def bNot (fa : Env → Res Bool) : Env → Res Bool := fun env => (fa env).bind fun a => .ok (!a)
/-- a truth as a value -/
def eB (fa : Env → Res Bool) : Env → Res D := fun env => (fa env).bind fun a => .ok (.bl a)
def eIf (fc : Env → Res Bool) (fa fb : Env → Res D) : Env → Res D := fun env => (fc env).bind fun c => if c = true then fa env else fb env
def aNil : Env → Res (List D) := fun _ => .ok []
def aCons (fa : Env → Res D) (fr : Env → Res (List D)) : Env → Res (List D) := fun env => (fa env).bind fun a => (fr env).bind fun r => .ok (a :: r)
def eFn (g : List D → Option D) (fa : Env → Res (List D)) : Env → Res D := fun env => (fa env).bind fun a => ofO (g a)
def eCall (g : List D → Res D) (fa : Env → Res (List D)) : Env → Res D := fun env => (fa env).bind fun a => g a
def eTup (fa : Env → Res (List D)) : Env → Res D := fun env => (fa env).bind fun a => .ok (.tup a)
def eLst (fa : Env → Res (List D)) : Env → Res D := fun env => (fa env).bind fun a => .ok (.lst a)
/-- a method of a built-in type -/
def eMt (t : D → Bool) (g : D → List D → Option D) (fo : Env → Res D) (fa : Env → Res (List D)) : Env → Res D := fun env => (fo env).bind fun o => if t o = true then (fa env).bind fun a => ofO (g o a) else .no
def eChain (g g' : D → D → Option D) (fa fb fc : Env → Res D) : Env → Res D := fun env => (fa env).bind fun a => (fb env).bind fun b => (ofO (g a b)).bind fun z => (toB z).bind fun k => if k = true then (fc env).bind fun c => ofO (g' b c) else .ok (.bl false)
def oNone : Env → Res (Option Int) := fun _ => .ok none
def toI : D → Res Int
  | .int i => .ok i
  | _ => .no
def oSome (fa : Env → Res D) : Env → Res (Option Int) := fun env => (fa env).bind fun a => (toI a).bind fun i => .ok (some i)
/-- what a rule on values must do -/
def Good2 (K : PySem.W.Frag) (r : R2) (g : D → D → Option D) : Prop := ∀ H0 H x y a b d (Q : VK), Same H0 H → Rep K H0 x a → Rep K H0 y b → g a b = some d → (∀ v H0' H', Grow H0 H H0' H' → Rep K H0' v d → Q v H') → r x y H Q
def Good1 (K : PySem.W.Frag) (r : V → Hp → VK → Prop) (g : D → Option D) : Prop := ∀ H0 H x a d (Q : VK), Same H0 H → Rep K H0 x a → g a = some d → (∀ v H0' H', Grow H0 H H0' H' → Rep K H0' v d → Q v H') → r x H Q
def GoodN (K : PySem.W.Frag) (r : List V → Hp → VK → Prop) (g : List D → Option D) : Prop := ∀ H0 H xs as d (Q : VK), Same H0 H → Reps K H0 xs as → g as = some d → (∀ v H0' H', Grow H0 H H0' H' → Rep K H0' v d → Q v H') → r xs H Q
def GoodM (K : PySem.W.Frag) (r : V → List V → Hp → VK → Prop) (g : D → List D → Option D) : Prop := ∀ H0 H x xs a as d (Q : VK), Same H0 H → Rep K H0 x a → Reps K H0 xs as → g a as = some d → (∀ v H0' H', Grow H0 H H0' H' → Rep K H0' v d → Q v H') → r x xs H Q
section
variable {K : PySem.W.Frag} {W : WX} {σ : L2.St} {H : Hp} {fa fb fc : Env → Res D} {ta tb tc : Env → Res Bool} {fl fr : Env → Res (List D)}
theorem t_var {i : Nat} {Q : VK} (h : tD K W (eVar i) σ H Q) : tVar i σ H Q := by
  obtain ⟨H0, env, er, k⟩ := h
  unfold eVar at k
  cases e : env[i]? with
  | none => rw [e] at k; exact k.elim
  | some s =>
    rw [e] at k
    cases s with
    | no => exact k.elim
    | ow ds => exact k.elim
    | oi C fs => exact k.elim
    | sh d =>
      obtain ⟨v, h1, h2⟩ := er.sh i d e
      exact ⟨v, h1, k v H0 H (Grow.refl er.sub) h2⟩
theorem t_c {v : V} {d : D} {Q : VK} (r : ∀ H, Rep K H v d) (h : tD K W (eC d) σ H Q) : tC v σ H Q := by
  obtain ⟨H0, env, er, k⟩ := h
  exact k v H0 H (Grow.refl er.sub) (r H0)
theorem kt_ofO {H0 : Hp} {o : Option D} {Q : VK} (s : Same H0 H) (k : Kt (rD K) W σ H0 H (ofO o) Q) : ∃ d, o = some d ∧ ∀ v H0' H', Grow H0 H H0' H' → Rep K H0' v d → Q v H' := by
  cases o with
  | none => exact k.elim
  | some d => exact ⟨d, rfl, k⟩
theorem t_op {r : R2} {g : D → D → Option D} {Q : VK} (hg : Good2 K r g) (h : tD K W (eOp g fa fb) σ H Q) : tOp r (tD K W fa) (tD K W fb) σ H Q := by
  obtain ⟨H0, env, er, k⟩ := h
  refine ⟨H0, env, er, Kt.seq er k fun x a A B gr er' rx k' => ⟨A, env, er', Kt.seq er' k' fun y b A' B' gr' er'' ry k'' => ?_⟩⟩
  obtain ⟨d, e, q⟩ := kt_ofO er''.sub k''
  exact hg A' B' x y a b d Q er''.sub (rx.mono gr'.s0) ry e q
theorem t_un {r : V → Hp → VK → Prop} {g : D → Option D} {Q : VK} (hg : Good1 K r g) (h : tD K W (eUn g fa) σ H Q) : tUn r (tD K W fa) σ H Q := by
  obtain ⟨H0, env, er, k⟩ := h
  refine ⟨H0, env, er, Kt.seq er k fun x a A B gr er' rx k' => ?_⟩
  obtain ⟨d, e, q⟩ := kt_ofO er'.sub k'
  exact hg A B x a d Q er'.sub rx e q
theorem t_nil {Q : List V → Hp → Prop} (h : tDs K W aNil σ H Q) : tNil σ H Q := by
  obtain ⟨H0, env, er, k⟩ := h
  exact k [] H0 H (Grow.refl er.sub) .nil
theorem t_cons {Q : List V → Hp → Prop} (h : tDs K W (aCons fa fl) σ H Q) : tCons (tD K W fa) (tDs K W fl) σ H Q := by
  obtain ⟨H0, env, er, k⟩ := h
  refine ⟨H0, env, er, Kt.seq er k fun x a A B gr er' rx k' => ⟨A, env, er', Kt.seq er' k' fun y b A' B' gr' er'' ry k'' => ?_⟩⟩
  exact k'' _ A' B' (Grow.refl er''.sub) (.cons (rx.mono gr'.s0) ry)
theorem t_fn {r : List V → Hp → VK → Prop} {g : List D → Option D} {Q : VK} (hg : GoodN K r g) (h : tD K W (eFn g fl) σ H Q) : tCB r (tDs K W fl) σ H Q := by
  obtain ⟨H0, env, er, k⟩ := h
  refine ⟨H0, env, er, Kt.seq er k fun x a A B gr er' rx k' => ?_⟩
  obtain ⟨d, e, q⟩ := kt_ofO er'.sub k'
  exact hg A B x a d Q er'.sub rx e q
theorem t_mt {t : D → Bool} {P : V → Hp → Prop} {r : V → List V → Hp → VK → Prop} {g : D → List D → Option D} {Q : VK} (hg : GoodM K r g) (hP : ∀ H0 H x a, Same H0 H → Rep K H0 x a → t a = true → P x H) (h : tD K W (eMt t g fa fl) σ H Q) : (tD K W fa) σ H fun x H1 => P x H1 ∧ tDs K W fl σ H1 fun xs H2 => r x xs H2 Q := by
  obtain ⟨H0, env, er, k⟩ := h
  refine ⟨H0, env, er, Kt.seq er k fun x a A B gr er' rx k' => ?_⟩
  cases e : t a with
  | false => rw [e] at k'; exact k'.elim
  | true =>
    rw [e] at k'
    refine ⟨hP A B x a er'.sub rx e, A, env, er', Kt.seq er' k' fun y b A' B' gr' er'' ry k'' => ?_⟩
    obtain ⟨d, e, q⟩ := kt_ofO er''.sub k''
    exact hg A' B' x y a b d Q er''.sub (rx.mono gr'.s0) ry e q
/-- a reading is monotone in what is wanted -/
theorem tR_mono {α β : Type} {R : Hp → β → α → Prop} {f : Env → Res α} {Q Q' : β → Hp → Prop} (h : tR K R W f σ H Q) (i : ∀ x H', Same H H' → Q x H' → Q' x H') : tR K R W f σ H Q' := by
  obtain ⟨H0, env, er, k⟩ := h
  refine ⟨H0, env, er, ?_⟩
  cases e : f env with
  | no => rw [e] at k; exact k
  | ex C => rw [e] at k; exact k
  | ok a => rw [e] at k; exact fun x A B g r => i x B g.s (k x A B g r)
theorem t_tup {n : Nat} {Q : VK} (hn : ∀ env ds, fl env = .ok ds → ds.length ≤ n) (hz : n ≤ sizeLine) (h : tD K W (eTup fl) σ H Q) : tTup (tDs K W fl) σ H Q := by
  obtain ⟨H0, env, er, k⟩ := h
  refine ⟨H0, env, er, ?_⟩
  have hl := hn env
  cases e : fl env with
  | no => unfold eTup at k; rw [e] at k; exact k
  | ex C => unfold eTup at k; rw [e] at k; exact k
  | ok ds =>
    unfold eTup at k; rw [e] at k
    intro xs A B g r
    refine ⟨by rw [r.length]; exact Nat.le_trans (hl ds e) hz, fun p hp => ?_⟩
    have g2 := Grow.new (o := .tup xs) g.sub hp
    exact k _ _ _ (g.trans g2) (.tup (SqT.of upd_same) (r.mono g2.s0))
theorem t_lst {n : Nat} {Q : VK} (hn : ∀ env ds, fl env = .ok ds → ds.length ≤ n) (hz : n ≤ sizeLine) (h : tD K W (eLst fl) σ H Q) : tLst (tDs K W fl) σ H Q := by
  obtain ⟨H0, env, er, k⟩ := h
  refine ⟨H0, env, er, ?_⟩
  have hl := hn env
  cases e : fl env with
  | no => unfold eLst at k; rw [e] at k; exact k
  | ex C => unfold eLst at k; rw [e] at k; exact k
  | ok ds =>
    unfold eLst at k; rw [e] at k
    intro xs A B g r
    refine ⟨by rw [r.length]; exact Nat.le_trans (hl ds e) hz, fun p hp => ?_⟩
    have g2 := Grow.new (o := .lst xs) g.sub hp
    exact k _ _ _ (g.trans g2) (.lst (SqL.of upd_same) (r.mono g2.s0))
theorem kt_toB {H0 : Hp} {a : D} {x : V} {Q : Bool → Hp → Prop} (r : Rep K H0 x a) (s : Same H0 H) (k : Kt rV W σ H0 H (toB a) Q) : ∃ c, x = .bl c ∧ Q c H := by
  cases a with
  | bl b =>
    cases r
    exact ⟨b, rfl, k b H0 H (Grow.refl s) rfl⟩
  | _ => exact k.elim
theorem t_bV {Q : Bool → Hp → Prop} (h : tDB K W (bV fa) σ H Q) : tB (tD K W fa) σ H Q := by
  obtain ⟨H0, env, er, k⟩ := h
  refine ⟨H0, env, er, Kt.seq er k fun x a A B gr er' rx k' => ?_⟩
  exact kt_toB rx er'.sub k'
theorem t_and {Q : Bool → Hp → Prop} (h : tDB K W (bAnd ta tb) σ H Q) : tAnd (tDB K W ta) (tDB K W tb) σ H Q := by
  obtain ⟨H0, env, er, k⟩ := h
  refine ⟨H0, env, er, Kt.seq er k fun x a A B gr er' rx k' => ?_⟩
  cases (show x = a from rx)
  cases x with
  | true => exact iteT ⟨A, env, er', k'⟩
  | false => exact iteF (k' false A B (Grow.refl er'.sub) rfl)
theorem t_or {Q : Bool → Hp → Prop} (h : tDB K W (bOr ta tb) σ H Q) : tOr (tDB K W ta) (tDB K W tb) σ H Q := by
  obtain ⟨H0, env, er, k⟩ := h
  refine ⟨H0, env, er, Kt.seq er k fun x a A B gr er' rx k' => ?_⟩
  cases (show x = a from rx)
  cases x with
  | true => exact iteT (k' true A B (Grow.refl er'.sub) rfl)
  | false => exact iteF ⟨A, env, er', k'⟩
theorem t_not {Q : Bool → Hp → Prop} (h : tDB K W (bNot ta) σ H Q) : tNot (tDB K W ta) σ H Q := by
  obtain ⟨H0, env, er, k⟩ := h
  refine ⟨H0, env, er, Kt.seq er k fun x a A B gr er' rx k' => ?_⟩
  cases (show x = a from rx)
  exact k' _ A B (Grow.refl er'.sub) rfl
theorem t_if {Q : VK} (h : tD K W (eIf tc fa fb) σ H Q) : tIf (tDB K W tc) (tD K W fa) (tD K W fb) σ H Q := by
  obtain ⟨H0, env, er, k⟩ := h
  refine ⟨H0, env, er, Kt.seq er k fun x a A B gr er' rx k' => ?_⟩
  cases (show x = a from rx)
  cases x with
  | true => exact iteT ⟨A, env, er', k'⟩
  | false => exact iteF ⟨A, env, er', k'⟩
/-- x and y, x or y, not x of truths as values -/
theorem t_andV {Q : VK} (h : tD K W (eB (bAnd ta tb)) σ H Q) : tAndV (tD K W (eB ta)) (tD K W (eB tb)) σ H Q := by
  obtain ⟨H0, env, er, k⟩ := h
  refine ⟨H0, env, er, ?_⟩
  unfold eB bAnd at k
  unfold eB
  cases e : ta env with
  | no => rw [e] at k; exact k
  | ex C => rw [e] at k; exact k
  | ok a =>
    rw [e] at k
    intro x A B g r
    cases r
    refine ⟨a, rfl, ?_⟩
    cases a with
    | true => exact iteT ⟨A, env, er.grow g, Kt.shift g k⟩
    | false => exact iteF (k _ A B g (.bl false))
theorem t_orV {Q : VK} (h : tD K W (eB (bOr ta tb)) σ H Q) : tOrV (tD K W (eB ta)) (tD K W (eB tb)) σ H Q := by
  obtain ⟨H0, env, er, k⟩ := h
  refine ⟨H0, env, er, ?_⟩
  unfold eB bOr at k
  unfold eB
  cases e : ta env with
  | no => rw [e] at k; exact k
  | ex C => rw [e] at k; exact k
  | ok a =>
    rw [e] at k
    intro x A B g r
    cases r
    refine ⟨a, rfl, ?_⟩
    cases a with
    | true => exact iteT (k _ A B g (.bl true))
    | false => exact iteF ⟨A, env, er.grow g, Kt.shift g k⟩
theorem t_notV {Q : VK} (h : tD K W (eB (bNot ta)) σ H Q) : tNotV (tD K W (eB ta)) σ H Q := by
  obtain ⟨H0, env, er, k⟩ := h
  refine ⟨H0, env, er, ?_⟩
  unfold eB bNot at k
  unfold eB
  cases e : ta env with
  | no => rw [e] at k; exact k
  | ex C => rw [e] at k; exact k
  | ok a =>
    rw [e] at k
    intro x A B g r
    cases r
    exact ⟨a, rfl, k _ A B g (.bl _)⟩
/-- a value that is a truth, as eB of its truth -/
theorem t_eBV {Q : VK} (h : tD K W (eB (bV fa)) σ H Q) : tD K W fa σ H Q := by
  obtain ⟨H0, env, er, k⟩ := h
  refine ⟨H0, env, er, ?_⟩
  unfold eB bV at k
  cases e : fa env with
  | no => rw [e] at k; exact k
  | ex C => rw [e] at k; exact k
  | ok a =>
    rw [e] at k
    cases a with
    | bl b => exact k
    | _ => exact k.elim
theorem t_chain {r r' : R2} {g g' : D → D → Option D} {Q : VK} (hg : Good2 K r g) (hg' : Good2 K r' g') (h : tD K W (eChain g g' fa fb fc) σ H Q) : tChain r r' (tD K W fa) (tD K W fb) (tD K W fc) σ H Q := by
  obtain ⟨H0, env, er, k⟩ := h
  refine ⟨H0, env, er, Kt.seq er k fun x a A B gr er' rx k' => ⟨A, env, er', Kt.seq er' k' fun y b A' B' gr' er'' ry k'' => ?_⟩⟩
  cases e : g a b with
  | none => rw [e] at k''; exact k''.elim
  | some z =>
    rw [e] at k''
    refine hg A' B' x y a b z _ er''.sub (rx.mono gr'.s0) ry e fun v A3 B3 g3 rv => ?_
    cases z with
    | bl c =>
      cases rv
      refine ⟨c, rfl, ?_⟩
      have k3 := Kt.shift g3 k''
      cases c with
      | true =>
        refine iteT ⟨A3, env, er''.grow g3, Kt.seq (er''.grow g3) k3 fun w c' A4 B4 g4 er4 rw4 k4 => ?_⟩
        obtain ⟨d, e4, q⟩ := kt_ofO er4.sub k4
        exact hg' A4 B4 y w b c' d Q er4.sub ((ry.mono g3.s0).mono g4.s0) rw4 e4 q
      | false => exact iteF (k3 _ A3 B3 (Grow.refl g3.sub) (.bl false))
    | _ => exact k''.elim
theorem t_oNone {Q : Option Int → Hp → Prop} (h : tDO K W oNone σ H Q) : tNoPart σ H Q := by
  obtain ⟨H0, env, er, k⟩ := h
  exact k none H0 H (Grow.refl er.sub) rfl
theorem t_oSome {Q : Option Int → Hp → Prop} (h : tDO K W (oSome fa) σ H Q) : tPart (tD K W fa) σ H Q := by
  obtain ⟨H0, env, er, k⟩ := h
  refine ⟨H0, env, er, Kt.seq er k fun x a A B gr er' rx k' => ?_⟩
  cases a with
  | int i =>
    cases rx
    exact ⟨i, rfl, k' _ A B (Grow.refl er'.sub) rfl⟩
  | _ => exact k'.elim
end
/-! ### the rules -/
section
variable {X : Cx} {W : WX} {e a b c : Expr} {es rest : List Expr} {pos p pos' : Pos} {fa fb fc : Env → Res D} {ta tb tc : Env → Res Bool} {fl : Env → Res (List D)}
theorem pd_var (i : Nat) {x : Str} (hN : X.N[i]? = some x := by rfl) (hv : Vis X.env.scope x := by first | exact Or.inl rfl | exact Or.inr (Or.inl rfl) | exact Or.inr (Or.inr rfl)) (hd : (x == ("__debug__" : Str)) = false := by decide)
    (hcd : (x == ("__classdict__" : Str)) = false := by decide) : PE X (.Name x pos) (tD X.K W (eVar i)) := PE.imp (pe_var hN hv hd hcd) fun _ _ _ h => t_var h
theorem pd_int {i : Int} {j pos} : PE X (.Constant (.int i) j pos) (tD X.K W (eC (.int i))) := PE.imp pe_int fun _ _ _ h => t_c (fun _ => .int i) h
theorem pd_bl {i : Bool} {j pos} : PE X (.Constant (.bool i) j pos) (tD X.K W (eC (.bl i))) := PE.imp pe_bl fun _ _ _ h => t_c (fun _ => .bl i) h
theorem pd_non {j pos} : PE X (.Constant .none j pos) (tD X.K W (eC .non)) := PE.imp pe_non fun _ _ _ h => t_c (fun _ => .non) h
theorem pd_str {i : Str} {j pos} : PE X (.Constant (.str i) j pos) (tD X.K W (eC (.str i))) := PE.imp pe_str fun _ _ _ h => t_c (fun _ => .str i) h
/-- a module's constant -/
theorem pd_glob {x : Str} {v : V} {u : Value} {d : D} (hg : Gl X x) (hm : X.mg x = some u) (r : RelV v u) (h : ∀ H, Rep X.K H v d) (hd : (x == ("__debug__" : Str)) = false := by decide) : PE X (.Name x pos) (tD X.K W (eC d)) :=
  PE.imp (pe_glob hg hm r hd) fun _ _ _ q => t_c h q
/-- a built-in class's name as a value -/
theorem pd_bty {x : Str} {n : String} (hg : Gl X x) (hm : X.mg x = none) (hv : bootBuiltins x = some (.type n)) (hn : x ≠ "__name__" := by decide) (hd : (x == ("__debug__" : Str)) = false := by decide) : PE X (.Name x pos) (tD X.K W (eC (.ty n))) :=
  PE.imp (pe_bltn (v := .ty n) hg hm hv rfl hn hd) fun _ _ _ q => t_c (fun _ => .ty n) q
theorem pd_op {op : Operator} {r : R2} {g : D → D → Option D} (ho : OpR X (binaryOp op) r) (hg : Good2 X.K r g) (ha : PE X a (tD X.K W fa)) (hb : PE X b (tD X.K W fb)) : PE X (.BinOp a op b pos) (tD X.K W (eOp g fa fb)) :=
  PE.imp (pe_op ho ha hb) fun _ _ _ h => t_op hg h
theorem pd_un {op : UnaryOp} {r : V → Hp → VK → Prop} {g : D → Option D} (ho : UnR X (unaryOp op) r) (hg : Good1 X.K r g) (ha : PE X a (tD X.K W fa)) : PE X (.UnaryOp op a pos) (tD X.K W (eUn g fa)) :=
  PE.imp (pe_un ho ha) fun _ _ _ h => t_un hg h
theorem pd_cmp {op : CmpOp} {r : R2} {g : D → D → Option D} (ho : OpR X (compareOp op) r) (hg : Good2 X.K r g) (ha : PE X a (tD X.K W fa)) (hb : PE X b (tD X.K W fb)) (hm : behindInMarks op b = false := by first | exact nomark _ | rfl) : PE X (.Compare a [op] [b] pos) (tD X.K W (eOp g fa fb)) :=
  PE.imp (pe_cmpR ho ha hb hm) fun _ _ _ h => t_op hg h
theorem pt_cmp' {op : CmpOp} {r : R2} {g : D → D → Option D} (ho : OpR X (compareOp op) r) (hg : Good2 X.K r g) (ha : PE X a (tD X.K W fa)) (hb : PE X b (tD X.K W fb)) (hm : behindInMarks op b = false := by first | exact nomark _ | rfl) : PT X (.Compare a [op] [b] pos) (tDB X.K W (bV (eOp g fa fb))) :=
  PT.imp (pt_cmpR ho ha hb hm) fun σ H Q h => by
    obtain ⟨H0, env, er, k⟩ := h
    unfold bV at k
    refine t_op hg ⟨H0, env, er, Kt.seq er k fun x a A B gr er' rx k' => ?_⟩
    exact kt_toB rx er'.sub k'
theorem pd_chain {op op' : CmpOp} {r r' : R2} {g g' : D → D → Option D} (ho : OpR X (compareOp op) r) (hg : Good2 X.K r g) (ho' : OpR X (compareOp op') r') (hg' : Good2 X.K r' g') (ha : PE X a (tD X.K W fa)) (hb : PE X b (tD X.K W fb)) (hc : PE X c (tD X.K W fc))
    (hm : lastMarks [op, op'] [b, c] = false := by with_unfolding_all rfl) : PE X (.Compare a [op, op'] [b, c] pos) (tD X.K W (eChain g g' fa fb fc)) := PE.imp (pe_chain ho ho' ha hb hc hm) fun _ _ _ h => t_chain hg hg' h
theorem pt_chain' {op op' : CmpOp} {r r' : R2} {g g' : D → D → Option D} (ho : OpR X (compareOp op) r) (hg : Good2 X.K r g) (ho' : OpR X (compareOp op') r') (hg' : Good2 X.K r' g') (ha : PE X a (tD X.K W fa)) (hb : PE X b (tD X.K W fb)) (hc : PE X c (tD X.K W fc))
    (hm : lastMarks [op, op'] [b, c] = false := by with_unfolding_all rfl) : PT X (.Compare a [op, op'] [b, c] pos) (tDB X.K W (bV (eChain g g' fa fb fc))) := PT.imp (pt_chain ho ho' ha hb hc hm) fun σ H Q h => by
    obtain ⟨H0, env, er, k⟩ := h
    refine t_chain hg hg' ⟨H0, env, er, Kt.seq er k fun x a A B gr er' rx k' => ?_⟩
    exact kt_toB rx er'.sub k'
theorem pt_v (ha : PE X e (tD X.K W fa)) (he : ∀ whole, isTrue e X.env whole = (do let v ← whole; standAt e.pos; holding [v] (truthy v)) := by intro _; rfl) : PT X e (tDB X.K W (bV fa)) :=
  PT.imp (pt_val ha he) fun _ _ _ h => t_bV h
theorem pwd_and1 (ha : PT X a (tDB X.K W ta)) : PW X (.BoolOp .And [a] pos) (tDB X.K W ta) := pw_and1 ha
theorem pwd_or1 (ha : PT X a (tDB X.K W ta)) : PW X (.BoolOp .Or [a] pos) (tDB X.K W ta) := pw_or1 ha
theorem pwd_and (ha : PT X a (tDB X.K W ta)) (hb : PW X (.BoolOp .And (b :: rest) pos) (tDB X.K W tb)) : PW X (.BoolOp .And (a :: b :: rest) pos) (tDB X.K W (bAnd ta tb)) :=
  ⟨fun whole pins s σ H Q I h => (pw_and ha hb).run whole pins s σ H Q I (t_and h)⟩
theorem pwd_or (ha : PT X a (tDB X.K W ta)) (hb : PW X (.BoolOp .Or (b :: rest) pos) (tDB X.K W tb)) : PW X (.BoolOp .Or (a :: b :: rest) pos) (tDB X.K W (bOr ta tb)) :=
  ⟨fun whole pins s σ H Q I h => (pw_or ha hb).run whole pins s σ H Q I (t_or h)⟩
theorem ptd_not (ha : PT X a (tDB X.K W ta)) : PT X (.UnaryOp .Not a pos) (tDB X.K W (bNot ta)) := PT.imp (pt_not ha) fun _ _ _ h => t_not h
/-- truths as values -/
theorem pd_eB (h : PE X e (tD X.K W fa)) : PE X e (tD X.K W (eB (bV fa))) := PE.imp h fun _ _ _ q => t_eBV q
theorem pd_one {op} (h : PE X a (tD X.K W (eB ta))) : PE X (.BoolOp op [a] pos) (tD X.K W (eB ta)) := pe_one h
theorem pd_and (ha : PE X a (tD X.K W (eB ta))) (hb : PE X (.BoolOp .And (b :: rest) pos) (tD X.K W (eB tb))) : PE X (.BoolOp .And (a :: b :: rest) pos) (tD X.K W (eB (bAnd ta tb))) := PE.imp (pe_and ha hb) fun _ _ _ h => t_andV h
theorem pd_or (ha : PE X a (tD X.K W (eB ta))) (hb : PE X (.BoolOp .Or (b :: rest) pos) (tD X.K W (eB tb))) : PE X (.BoolOp .Or (a :: b :: rest) pos) (tD X.K W (eB (bOr ta tb))) := PE.imp (pe_or ha hb) fun _ _ _ h => t_orV h
theorem pd_not (ha : PE X a (tD X.K W (eB ta))) : PE X (.UnaryOp .Not a pos) (tD X.K W (eB (bNot ta))) := PE.imp (pe_not ha) fun _ _ _ h => t_notV h
theorem pd_if {c : Expr} (hc : PT X c (tDB X.K W tc)) (ha : PE X a (tD X.K W fa)) (hb : PE X b (tD X.K W fb)) : PE X (.IfExp c a b pos) (tD X.K W (eIf tc fa fb)) := PE.imp (pe_ifExp hc ha hb) fun _ _ _ h => t_if h
theorem pad_nil : PA X [] (tDs X.K W aNil) := PA.imp pa_nil fun _ _ _ h => t_nil h
theorem pad_cons (ha : PE X e (tD X.K W fa)) (hr : PA X es (tDs X.K W fl)) (hs : starEach (e :: es) X.env = (false, eval e X.env) :: starEach es X.env := by rfl) : PA X (e :: es) (tDs X.K W (aCons fa fl)) := PA.imp (pa_cons ha hr hs) fun _ _ _ h => t_cons h
/-- how many are written -/
def ArgN (n : Nat) (f : Env → Res (List D)) : Prop := ∀ env ds, f env = .ok ds → ds.length ≤ n
theorem arg_nil : ArgN 0 aNil := fun env ds h => by
  cases h
  exact Nat.le_refl _
theorem arg_cons {n : Nat} (h : ArgN n fl) : ArgN (n + 1) (aCons fa fl) := fun env ds e => by
  unfold aCons at e
  cases e1 : fa env with
  | no => rw [e1] at e; cases e
  | ex C => rw [e1] at e; cases e
  | ok a =>
    rw [e1] at e
    cases e2 : fl env with
    | no => rw [e2] at e; cases e
    | ex C => rw [e2] at e; cases e
    | ok r =>
      rw [e2] at e
      cases e
      rw [List.length_cons]
      exact Nat.succ_le_succ (h env r e2)
theorem pd_tup {n x1 : Nat} (h : PA X es (tDs X.K W fl)) (hn : ArgN n fl) (hz : n ≤ sizeLine := by decide) : PE X (.Tuple es x1 pos) (tD X.K W (eTup fl)) := PE.imp (pe_tup h) fun _ _ _ q => t_tup hn hz q
theorem pd_lst {n : Nat} (h : PA X es (tDs X.K W fl)) (hn : ArgN n fl) (hz : n ≤ sizeLine := by decide) : PE X (.List es pos) (tD X.K W (eLst fl)) := PE.imp (pe_lst h) fun _ _ _ q => t_lst hn hz q
theorem pd_ix {r : R2} {g : D → D → Option D} (hr : IxR X r) (hg : Good2 X.K r g) (ha : PE X a (tD X.K W fa)) (hb : PE X b (tD X.K W fb)) (hs : PlainIx b := by exact fun _ _ => rfl) : PE X (.Subscript a b pos) (tD X.K W (eOp g fa fb)) :=
  PE.imp (pe_ix hr ha hb hs) fun _ _ _ h => t_op hg h
theorem pd_fnB {x : Str} {id : String} {r : List V → Hp → VK → Prop} {g : List D → Option D} (hc : CallR X (.builtin id) r) (hgd : GoodN X.K r g) (hv : bootBuiltins x = some (.builtin id)) (hg : Gl X x) (hm : X.mg x = none) (ha : PA X (e :: es) (tDs X.K W fl)) (hn : x ≠ "__name__" := by decide) (hdb : (x == ("__debug__" : Str)) = false := by decide)
    (he : starEach (e :: es) X.env = (false, eval e X.env) :: starEach es X.env := by rfl) (hpl : (backTo pos (starEach es X.env)).any (·.1) = false := by rfl) : PE X (.Call (.Name x p) (e :: es) [] pos) (tD X.K W (eFn g fl)) :=
  PE.imp (pe_callB hc hg hm hv ha hn hdb he hpl) fun _ _ _ h => t_fn hgd h
theorem pd_fnT {x : Str} {T : String} {r : List V → Hp → VK → Prop} {g : List D → Option D} (hc : CallR X (.type T) r) (hgd : GoodN X.K r g) (hv : bootBuiltins x = some (.type T)) (hg : Gl X x) (hm : X.mg x = none) (ha : PA X (e :: es) (tDs X.K W fl)) (hn : x ≠ "__name__" := by decide) (hdb : (x == ("__debug__" : Str)) = false := by decide)
    (he : starEach (e :: es) X.env = (false, eval e X.env) :: starEach es X.env := by rfl) (hpl : (backTo pos (starEach es X.env)).any (·.1) = false := by rfl) : PE X (.Call (.Name x p) (e :: es) [] pos) (tD X.K W (eFn g fl)) :=
  PE.imp (pe_callTy hc hg hm hv ha hn hdb he hpl) fun _ _ _ h => t_fn hgd h
def isLst : D → Bool
  | .lst _ => true
  | _ => false
def isStr : D → Bool
  | .str _ => true
  | _ => false
theorem ty_lst {K : PySem.W.Frag} {H0 H : Hp} {x : V} {a : D} (s : Same H0 H) (r : Rep K H0 x a) (h : isLst a = true) : tyV K "list" x H := by
  cases a with
  | lst ds =>
    cases r with
    | lst q _ => exact .inl ⟨rfl, _, Same.seq s q⟩
  | _ => exact absurd (show false = true from h) Bool.false_ne_true
theorem pd_mtL {id : String} {name : Str} {r : V → List V → Hp → VK → Prop} {g : D → List D → Option D} {o : Expr} {apos : Pos} (slot : Slot "list" name id) (hty : typeOf (.builtin id) = pure (.type "method_descriptor")) (hm : MtR X id r) (hg : GoodM X.K r g)
    (ho : PE X o (tD X.K W fa)) (ha : PA X (e :: es) (tDs X.K W fl))
    (hbase : attributeBase o name X.env (eval o X.env) = eval o X.env := by rfl)
    (hfew : ((backTo pos (starEach (e :: es) X.env)).all (fun x => !x.1) && (backToKw pos (keywordEach [] X.env)).all (fun x => x.1.isSome)
      && decide ((e :: es).length + ([] : List Keyword).length + (if ([] : List Keyword).isEmpty then 0 else 1) < 30)) = true := by rfl)
    (hline : (apos.endLine == pos.line) = true := by rfl) (hs : starEach (e :: es) X.env = (false, eval e X.env) :: starEach es X.env := by rfl) (hplain : (backTo pos (starEach es X.env)).any (·.1) = false := by rfl) :
    PE X (.Call (.Attribute o name apos) (e :: es) [] pos) (tD X.K W (eMt isLst g fa fl)) :=
  PE.imp (pe_bm PySem.F.plainAttrs_list slot hty hm ho ha hbase hfew hline hs hplain) fun _ _ _ h => t_mt hg (fun _ _ _ _ s r e => ty_lst s r e) h
theorem po_n : PO X none (tDO X.K W oNone) := PO.imp po_none fun _ _ _ h => t_oNone h
theorem po_s (h : PE X e (tD X.K W fa)) : PO X (some e) (tDO X.K W (oSome fa)) := PO.imp (po_some h) fun _ _ _ q => t_oSome q
end
end Dt
namespace Dt
open PySem PySem.Spec PyProof.Rows L2
theorem sz_le {n : Nat} (h : n ≤ 1000000) : n ≤ sizeLine := Nat.le_trans h (by decide)
theorem sz_lt {n : Nat} (h : n < 1000000) : n < sizeLine := Nat.lt_of_lt_of_le h (by decide)
section
variable {K : PySem.W.Frag}
theorem Good2.or {r r' : R2} {g : D → D → Option D} (h : ∀ H0 H x y a b d (Q : VK), Same H0 H → Rep K H0 x a → Rep K H0 y b → g a b = some d → (∀ v H0' H', Grow H0 H H0' H' → Rep K H0' v d → Q v H') → r x y H Q ∨ r' x y H Q) : Good2 K (fun x y H Q => r x y H Q ∨ r' x y H Q) g := h
theorem OpR.or {X : Cx} {f : Value → Value → Sem Value} {r r' : R2} (h : OpR X f r) (h' : OpR X f r') : OpR X f (fun x y H Q => r x y H Q ∨ r' x y H Q) := by
  intro pins s σ H x y v u Q I rx ry q
  rcases q with q | q
  · exact h pins s σ H x y v u Q I rx ry q
  · exact h' pins s σ H x y v u Q I rx ry q
end
/-! ### ints -/
@[irreducible] def lim : Nat := 2 ^ 9000
def intOp (C : Int → Int → Bool) (f : Int → Int → Int) : D → D → Option D
  | .int i, .int j => if C i j = true then some (.int (f i j)) else none
  | _, _ => none
def intCmp (f : Int → Int → Bool) : D → D → Option D
  | .int i, .int j => some (.bl (f i j))
  | _, _ => none
theorem good_int {K : PySem.W.Frag} {C : Int → Int → Prop} {B : Int → Int → Bool} {f : Int → Int → Int} (h : ∀ i j, B i j = true → C i j) : Good2 K (L2.rI C fun i j => .int (f i j)) (intOp B f) := by
  intro H0 H x y a b d Q s rx ry e q
  cases a with
  | int i =>
    cases b with
    | int j =>
      cases rx
      cases ry
      have e : (if B i j = true then some (D.int (f i j)) else none) = some d := e
      by_cases c : B i j = true
      · rw [if_pos c] at e
        cases e
        exact ⟨i, j, rfl, rfl, h i j c, q _ _ _ (Grow.refl s) (.int _)⟩
      · rw [if_neg c] at e
        cases e
    | _ => cases e
  | _ => cases e
theorem good_int0 {K : PySem.W.Frag} {f : Int → Int → Int} : Good2 K (rI0 fun i j => .int (f i j)) (intOp (fun _ _ => true) f) := by
  intro H0 H x y a b d Q s rx ry e q
  cases a with
  | int i =>
    cases b with
    | int j =>
      cases rx
      cases ry
      cases e
      exact ⟨i, j, rfl, rfl, q _ _ _ (Grow.refl s) (.int _)⟩
    | _ => cases e
  | _ => cases e
theorem good_cmp {K : PySem.W.Frag} {f : Int → Int → Bool} : Good2 K (rI0 fun i j => .bl (f i j)) (intCmp f) := by
  intro H0 H x y a b d Q s rx ry e q
  cases a with
  | int i =>
    cases b with
    | int j =>
      cases rx
      cases ry
      cases e
      exact ⟨i, j, rfl, rfl, q _ _ _ (Grow.refl s) (.bl _)⟩
    | _ => cases e
  | _ => cases e
abbrev ltD := intCmp fun i j => decide (i < j)
abbrev leD := intCmp fun i j => decide (i ≤ j)
abbrev gtD := intCmp fun i j => decide (j < i)
abbrev geD := intCmp fun i j => decide (j ≤ i)
abbrev subD := intOp (fun _ _ => true) fun i j => i - j
abbrev divD := intOp (fun _ j => decide (0 < j) && decide (j.natAbs < lim)) fun i j => i / j
abbrev modD := intOp (fun _ j => decide (0 < j)) fun i j => i % j
abbrev powD := intOp (fun i j => decide (0 ≤ j) && decide (j ≤ 1000) && decide (i.natAbs < 2 ^ 60)) fun i j => i ^ j.toNat
def mulOk (i j : Int) : Bool := decide (i.natAbs < 2 ^ 60) || decide (j.natAbs < 2 ^ 60) || (decide (i.natAbs < lim) && decide (j.natAbs < lim))
def CMulX (i j : Int) : Prop := CMul i j ∨ CMulW i j
theorem op_mulX {X : Cx} : OpR X (binaryOp .Mult) (L2.rI CMulX fun i j => .int (i * j)) := opI fun _ _ _ _ _ _ _ hc q => mul_int q (by
  rcases hc with h | h
  · exact h.ok
  · exact h.ok)
theorem lim_lt {i : Int} (h : i.natAbs < lim) : i.natAbs < 2 ^ 9000 := by
  unfold lim at h
  exact h
theorem mulOk_ok {i j : Int} (h : mulOk i j = true) : CMulX i j := by
  unfold mulOk at h
  simp only [Bool.or_eq_true, Bool.and_eq_true, decide_eq_true_eq] at h
  rcases h with (h | h) | ⟨h1, h2⟩
  · exact .inl (.inl ⟨by omega, by omega⟩)
  · exact .inl (.inr ⟨by omega, by omega⟩)
  · exact .inr (wide_mul (lim_lt h1) (lim_lt h2) (by decide) (by decide) (by decide))
abbrev mulI := intOp mulOk fun i j => i * j
section
variable {X : Cx} {W : WX} {a b : Expr} {pos : Pos} {fa fb : Env → Res D}
theorem pd_sub (ha : PE X a (tD X.K W fa)) (hb : PE X b (tD X.K W fb)) : PE X (.BinOp a .Sub b pos) (tD X.K W (eOp subD fa fb)) := pd_op op_sub good_int0 ha hb
theorem pd_div (ha : PE X a (tD X.K W fa)) (hb : PE X b (tD X.K W fb)) : PE X (.BinOp a .FloorDiv b pos) (tD X.K W (eOp divD fa fb)) := pd_op op_fdivW (good_int fun i j h => by
  simp only [Bool.and_eq_true, decide_eq_true_eq] at h
  exact wide_div h.1 (lim_lt h.2) (by decide) (by decide)) ha hb
theorem pd_mod (ha : PE X a (tD X.K W fa)) (hb : PE X b (tD X.K W fb)) : PE X (.BinOp a .Mod b pos) (tD X.K W (eOp modD fa fb)) := pd_op op_mod (good_int fun i j h => of_decide_eq_true h) ha hb
theorem pd_pow (ha : PE X a (tD X.K W fa)) (hb : PE X b (tD X.K W fb)) : PE X (.BinOp a .Pow b pos) (tD X.K W (eOp powD fa fb)) := pd_op op_pow (good_int fun i j h => by
  simp only [Bool.and_eq_true, decide_eq_true_eq] at h
  exact ⟨h.1.1, by have := h.1.2; omega, by have := h.2; omega⟩) ha hb
theorem pd_lt (ha : PE X a (tD X.K W fa)) (hb : PE X b (tD X.K W fb)) : PE X (.Compare a [.Lt] [b] pos) (tD X.K W (eOp ltD fa fb)) := pd_cmp op_lt good_cmp ha hb
theorem pd_le (ha : PE X a (tD X.K W fa)) (hb : PE X b (tD X.K W fb)) : PE X (.Compare a [.LtE] [b] pos) (tD X.K W (eOp leD fa fb)) := pd_cmp op_le good_cmp ha hb
theorem pd_gt (ha : PE X a (tD X.K W fa)) (hb : PE X b (tD X.K W fb)) : PE X (.Compare a [.Gt] [b] pos) (tD X.K W (eOp gtD fa fb)) := pd_cmp op_gt good_cmp ha hb
theorem pd_ge (ha : PE X a (tD X.K W fa)) (hb : PE X b (tD X.K W fb)) : PE X (.Compare a [.GtE] [b] pos) (tD X.K W (eOp geD fa fb)) := pd_cmp op_ge good_cmp ha hb
theorem pt_lt (ha : PE X a (tD X.K W fa)) (hb : PE X b (tD X.K W fb)) : PT X (.Compare a [.Lt] [b] pos) (tDB X.K W (bV (eOp ltD fa fb))) := pt_cmp' op_lt good_cmp ha hb
theorem pt_le (ha : PE X a (tD X.K W fa)) (hb : PE X b (tD X.K W fb)) : PT X (.Compare a [.LtE] [b] pos) (tDB X.K W (bV (eOp leD fa fb))) := pt_cmp' op_le good_cmp ha hb
theorem pt_gt (ha : PE X a (tD X.K W fa)) (hb : PE X b (tD X.K W fb)) : PT X (.Compare a [.Gt] [b] pos) (tDB X.K W (bV (eOp gtD fa fb))) := pt_cmp' op_gt good_cmp ha hb
theorem pt_ge (ha : PE X a (tD X.K W fa)) (hb : PE X b (tD X.K W fb)) : PT X (.Compare a [.GtE] [b] pos) (tDB X.K W (bV (eOp geD fa fb))) := pt_cmp' op_ge good_cmp ha hb
theorem pd_chLL {c : Expr} {fc : Env → Res D} (ha : PE X a (tD X.K W fa)) (hb : PE X b (tD X.K W fb)) (hc : PE X c (tD X.K W fc)) (hm : lastMarks [.LtE, .Lt] [b, c] = false := by with_unfolding_all rfl) : PE X (.Compare a [.LtE, .Lt] [b, c] pos) (tD X.K W (eChain leD ltD fa fb fc)) := pd_chain op_le good_cmp op_lt good_cmp ha hb hc hm
theorem pt_chLL {c : Expr} {fc : Env → Res D} (ha : PE X a (tD X.K W fa)) (hb : PE X b (tD X.K W fb)) (hc : PE X c (tD X.K W fc)) (hm : lastMarks [.LtE, .Lt] [b, c] = false := by with_unfolding_all rfl) : PT X (.Compare a [.LtE, .Lt] [b, c] pos) (tDB X.K W (bV (eChain leD ltD fa fb fc))) := pt_chain' op_le good_cmp op_lt good_cmp ha hb hc hm
theorem pd_chEE {c : Expr} {fc : Env → Res D} (ha : PE X a (tD X.K W fa)) (hb : PE X b (tD X.K W fb)) (hc : PE X c (tD X.K W fc)) (hm : lastMarks [.LtE, .LtE] [b, c] = false := by with_unfolding_all rfl) : PE X (.Compare a [.LtE, .LtE] [b, c] pos) (tD X.K W (eChain leD leD fa fb fc)) := pd_chain op_le good_cmp op_le good_cmp ha hb hc hm
theorem pt_chEE {c : Expr} {fc : Env → Res D} (ha : PE X a (tD X.K W fa)) (hb : PE X b (tD X.K W fb)) (hc : PE X c (tD X.K W fc)) (hm : lastMarks [.LtE, .LtE] [b, c] = false := by with_unfolding_all rfl) : PT X (.Compare a [.LtE, .LtE] [b, c] pos) (tDB X.K W (bV (eChain leD leD fa fb fc))) := pt_chain' op_le good_cmp op_le good_cmp ha hb hc hm
theorem pt_chTT {c : Expr} {fc : Env → Res D} (ha : PE X a (tD X.K W fa)) (hb : PE X b (tD X.K W fb)) (hc : PE X c (tD X.K W fc)) (hm : lastMarks [.Lt, .Lt] [b, c] = false := by with_unfolding_all rfl) : PT X (.Compare a [.Lt, .Lt] [b, c] pos) (tDB X.K W (bV (eChain ltD ltD fa fb fc))) := pt_chain' op_lt good_cmp op_lt good_cmp ha hb hc hm
end
def negD : D → Option D
  | .int i => some (.int (-i))
  | _ => none
theorem pd_neg {X : Cx} {W : WX} {a : Expr} {pos : Pos} {fa : Env → Res D} (ha : PE X a (tD X.K W fa)) : PE X (.UnaryOp .USub a pos) (tD X.K W (eUn negD fa)) := pd_un un_neg (fun H0 H x a d Q s rx e q => by
  cases a with
  | int i =>
    cases rx
    cases e
    exact ⟨i, rfl, q _ _ _ (Grow.refl s) (.int _)⟩
  | _ => cases e) ha
/-! ### + of ints, lists, texts -/
def addD : D → D → Option D
  | .int i, .int j => some (.int (i + j))
  | .lst a, .lst b => if a.length + b.length ≤ 1000000 then some (.lst (a ++ b)) else none
  | .str a, .str b => if a.length + b.length ≤ 1000000 then some (.str (a ++ b)) else none
  | _, _ => none
/-- list + list, either may be locked -/
def rCatR (K : PySem.W.Frag) : R2 := fun x y H Q => ∃ l b xs zs, x = .ref l ∧ y = .ref b ∧ SqL K H l xs ∧ SqL K H b zs ∧ xs.length + zs.length ≤ sizeLine ∧ ∀ p, H p = none → Q (.ref p) (upd H p (.lst (xs ++ zs)))
theorem op_catR {X : Cx} : OpR X (binaryOp .Add) (rCatR X.K) := by
  intro pins s σ H x y v u Q I rx ry h
  obtain ⟨l, b, xs, zs, rfl, rfl, hH, hB, hz, q⟩ := h
  cases rx
  cases ry
  obtain ⟨its, r, ⟨⟨cls, dd, data, sl⟩, n, ho, hc, hdn, hd⟩, z⟩ := I.list hH
  obtain ⟨its2, r2, ⟨⟨cls2, dd2, data2, sl2⟩, n2, ho2, hc2, hdn2, hd2⟩, z2⟩ := I.list hB
  simp only at hc hd hc2 hd2
  subst hc hd hc2 hd2
  have hl := r.length
  have hl2 := r2.length
  have e : its.toArray ++ its2.toArray = (its ++ its2).toArray := by simp
  refine concat_meets ⟨_, ho, rfl⟩ ⟨_, ho2, rfl⟩ noFill_list_add seq_list_add PySem.F.slot_list_add PySem.F.entry_list_add (PySem.F.args_list_add_2 _ _) (list_addW l b its.toArray its2.toArray n n2 dd dd2 sl sl2 (by rw [List.size_toArray, List.size_toArray]; omega)) ⟨ho, ho2, ?_⟩
  rw [e]
  exact ⟨.ref _, _, I.lnew (t' := s.toks) (r.append r2) (by rw [List.length_append]; omega), rfl, q _ I.fresh⟩
def rAdd3 (K : PySem.W.Frag) : R2 := fun x y H Q => (rI0 (fun i j => .int (i + j)) x y H Q ∨ rCatR K x y H Q) ∨ (∃ i j, x = .str i ∧ y = .str j ∧ i.length + j.length ≤ sizeLine ∧ Q (.str (i ++ j)) H)
theorem op_add3 {X : Cx} : OpR X (binaryOp .Add) (rAdd3 X.K) := OpR.or (OpR.or op_add op_catR) op_add_str
theorem good_add {K : PySem.W.Frag} : Good2 K (rAdd3 K) addD := by
  intro H0 H x y a b d Q s rx ry e q
  cases a with
  | int i =>
    cases b with
    | int j =>
      cases rx
      cases ry
      cases e
      exact .inl (.inl ⟨i, j, rfl, rfl, q _ _ _ (Grow.refl s) (.int _)⟩)
    | _ => cases e
  | lst xs =>
    cases b with
    | lst ys =>
      cases rx with
      | lst h1 r1 =>
      cases ry with
      | lst h2 r2 =>
        have e : (if xs.length + ys.length ≤ 1000000 then some (D.lst (xs ++ ys)) else none) = some d := e
        by_cases c : xs.length + ys.length ≤ 1000000
        · rw [if_pos c] at e
          cases e
          refine .inl (.inr ⟨_, _, _, _, rfl, rfl, Same.seq s h1, Same.seq s h2, ?_, fun p hp => ?_⟩)
          · rw [r1.length, r2.length]
            exact sz_le c
          · exact q _ _ _ (Grow.new s hp) (.lst (SqL.of upd_same) ((r1.append r2).mono (Grow.new s hp).s0))
        · rw [if_neg c] at e
          cases e
    | _ => cases e
  | str xs =>
    cases b with
    | str ys =>
      cases rx
      cases ry
      have e : (if xs.length + ys.length ≤ 1000000 then some (D.str (xs ++ ys)) else none) = some d := e
      by_cases c : xs.length + ys.length ≤ 1000000
      · rw [if_pos c] at e
        cases e
        exact .inr ⟨xs, ys, rfl, rfl, sz_le c, q _ _ _ (Grow.refl s) (.str _)⟩
      · rw [if_neg c] at e
        cases e
    | _ => cases e
  | _ => cases b <;> cases e
theorem pd_add {X : Cx} {W : WX} {a b : Expr} {pos : Pos} {fa fb : Env → Res D} (ha : PE X a (tD X.K W fa)) (hb : PE X b (tD X.K W fb)) : PE X (.BinOp a .Add b pos) (tD X.K W (eOp addD fa fb)) := pd_op op_add3 good_add ha hb
/-! ### * of ints; of a text by an int -/
def mulD : D → D → Option D := mulI
theorem pd_mul {X : Cx} {W : WX} {a b : Expr} {pos : Pos} {fa fb : Env → Res D} (ha : PE X a (tD X.K W fa)) (hb : PE X b (tD X.K W fb)) : PE X (.BinOp a .Mult b pos) (tD X.K W (eOp mulD fa fb)) := pd_op op_mulX (good_int fun _ _ h => mulOk_ok h) ha hb
/-! ### ==, != -/
def scV : D → Option V
  | .non => some .non | .bl b => some (.bl b) | .int i => some (.int i) | .str s => some (.str s)
  | _ => none
mutual
def toPy : D → Option PyData
  | .non => some .none | .bl b => some (.bool b) | .int i => some (.int i) | .str s => some (.str s)
  | .lst xs => (toPys xs).map .list
  | .tup xs => (toPys xs).map .tuple
  | .ty _ => none | .ins _ _ => none | .cls _ => none | .dic => none | .err _ _ => none
def toPys : List D → Option (List PyData)
  | [] => some []
  | x :: xs => match toPy x, toPys xs with
    | some a, some b => some (a :: b)
    | _, _ => none
end
def eqB (a b : D) : Option Bool := match scV a, scV b with
  | some x, some y => if scal x y = true then some (decide (x = y)) else none
  | _, _ => match toPy a, toPy b with
    | some x, some y => if (SeqAt.shaped x && SeqAt.shaped y) = true then some (PyData.eqv x y) else none
    | _, _ => none
def eqD (a b : D) : Option D := (eqB a b).map .bl
def neD (a b : D) : Option D := (eqB a b).map fun c => .bl (!c)
section
variable {K : PySem.W.Frag} {H : Hp}
mutual
theorem Rep.dp : ∀ {d : D} {v : V} {p : PyData}, Rep K H v d → toPy d = some p → Dp K H v p
  | .non, _, _, .non, e => by cases e; exact .non
  | .bl b, _, _, .bl _, e => by cases e; exact .bl b
  | .int b, _, _, .int _, e => by cases e; exact .int b
  | .str b, _, _, .str _, e => by cases e; exact .str b
  | .lst xs, _, _, .lst h r, e => by
    unfold toPy at e
    cases e1 : toPys xs with
    | none => rw [e1] at e; cases e
    | some ps => rw [e1] at e; cases e; exact .lst h (Reps.dp r e1)
  | .tup xs, _, _, .tup h r, e => by
    unfold toPy at e
    cases e1 : toPys xs with
    | none => rw [e1] at e; cases e
    | some ps => rw [e1] at e; cases e; exact .tup h (Reps.dp r e1)
  | .ty _, _, _, _, e => by cases e
  | .ins _ _, _, _, _, e => by cases e
  | .cls _, _, _, _, e => by cases e
  | .dic, _, _, _, e => by cases e
  | .err _ _, _, _, _, e => by cases e
theorem Reps.dp : ∀ {ds : List D} {vs : List V} {ps : List PyData}, Reps K H vs ds → toPys ds = some ps → DpAll K H vs ps
  | [], _, _, .nil, e => by cases e; exact .nil
  | x :: xs, _, _, .cons r t, e => by
    unfold toPys at e
    cases e1 : toPy x with
    | none => rw [e1] at e; cases e
    | some a =>
      cases e2 : toPys xs with
      | none => rw [e1, e2] at e; cases e
      | some b => rw [e1, e2] at e; cases e; exact .cons (Rep.dp r e1) (Reps.dp t e2)
end
theorem Rep.sc {d : D} {v x : V} (r : Rep K H v d) (e : scV d = some x) : v = x := by
  cases d <;> cases e <;> cases r <;> rfl
mutual
theorem Dp.mono {H H' : Hp} (s : Same H H') : ∀ {v : V} {d : PyData}, Dp K H v d → Dp K H' v d
  | _, _, .non => .non
  | _, _, .bl b => .bl b
  | _, _, .int i => .int i
  | _, _, .str x => .str x
  | _, _, .lst h r => .lst (Same.seq s h) (DpAll.mono s r)
  | _, _, .tup h r => .tup (Same.seqT s h) (DpAll.mono s r)
theorem DpAll.mono {H H' : Hp} (s : Same H H') : ∀ {v : List V} {d : List PyData}, DpAll K H v d → DpAll K H' v d
  | _, _, .nil => .nil
  | _, _, .cons r t => .cons (Dp.mono s r) (DpAll.mono s t)
end
end
theorem good_eq {K : PySem.W.Frag} : Good2 K (fun x y H Q => rEq x y H Q ∨ rEqD K x y H Q) eqD := by
  intro H0 H x y a b d Q s rx ry e q
  unfold eqD eqB at e
  cases e1 : scV a with
  | some x1 =>
    cases e2 : scV b with
    | some y1 =>
      rw [e1, e2] at e
      rw [rx.sc e1, ry.sc e2]
      by_cases c : scal x1 y1 = true
      · simp only [if_pos c, Option.map] at e
        cases e
        exact .inl ⟨c, q _ _ _ (Grow.refl s) (.bl _)⟩
      · simp only [if_neg c, Option.map] at e
        cases e
    | none =>
      rw [e1, e2] at e
      cases e3 : toPy a with
      | none => simp only [e3, Option.map] at e; cases e
      | some p =>
        cases e4 : toPy b with
        | none => simp only [e3, e4, Option.map] at e; cases e
        | some p2 =>
          simp only [e3, e4, Option.map] at e
          by_cases c : (SeqAt.shaped p && SeqAt.shaped p2) = true
          · rw [if_pos c] at e
            cases e
            obtain ⟨c1, c2⟩ := Bool.and_eq_true_iff.mp c
            exact .inr ⟨p, p2, Dt.Dp.mono s (rx.dp e3), Dt.Dp.mono s (ry.dp e4), c1, c2, q _ _ _ (Grow.refl s) (.bl _)⟩
          · rw [if_neg c] at e
            cases e
  | none =>
    rw [e1] at e
    cases e3 : toPy a with
    | none => simp only [e3, Option.map] at e; cases e
    | some p =>
      cases e4 : toPy b with
      | none => simp only [e3, e4, Option.map] at e; cases e
      | some p2 =>
        simp only [e3, e4, Option.map] at e
        by_cases c : (SeqAt.shaped p && SeqAt.shaped p2) = true
        · rw [if_pos c] at e
          cases e
          obtain ⟨c1, c2⟩ := Bool.and_eq_true_iff.mp c
          exact .inr ⟨p, p2, Dt.Dp.mono s (rx.dp e3), Dt.Dp.mono s (ry.dp e4), c1, c2, q _ _ _ (Grow.refl s) (.bl _)⟩
        · rw [if_neg c] at e
          cases e
theorem good_ne {K : PySem.W.Frag} : Good2 K (fun x y H Q => rNe x y H Q ∨ rNeD K x y H Q) neD := by
  intro H0 H x y a b d Q s rx ry e q
  unfold neD eqB at e
  cases e1 : scV a with
  | some x1 =>
    cases e2 : scV b with
    | some y1 =>
      rw [e1, e2] at e
      rw [rx.sc e1, ry.sc e2]
      by_cases c : scal x1 y1 = true
      · simp only [if_pos c, Option.map] at e
        cases e
        exact .inl ⟨c, q _ _ _ (Grow.refl s) (.bl _)⟩
      · simp only [if_neg c, Option.map] at e
        cases e
    | none =>
      rw [e1, e2] at e
      cases e3 : toPy a with
      | none => simp only [e3, Option.map] at e; cases e
      | some p =>
        cases e4 : toPy b with
        | none => simp only [e3, e4, Option.map] at e; cases e
        | some p2 =>
          simp only [e3, e4, Option.map] at e
          by_cases c : (SeqAt.shaped p && SeqAt.shaped p2) = true
          · rw [if_pos c] at e
            cases e
            obtain ⟨c1, c2⟩ := Bool.and_eq_true_iff.mp c
            exact .inr ⟨p, p2, Dt.Dp.mono s (rx.dp e3), Dt.Dp.mono s (ry.dp e4), c1, c2, q _ _ _ (Grow.refl s) (.bl _)⟩
          · rw [if_neg c] at e
            cases e
  | none =>
    rw [e1] at e
    cases e3 : toPy a with
    | none => simp only [e3, Option.map] at e; cases e
    | some p =>
      cases e4 : toPy b with
      | none => simp only [e3, e4, Option.map] at e; cases e
      | some p2 =>
        simp only [e3, e4, Option.map] at e
        by_cases c : (SeqAt.shaped p && SeqAt.shaped p2) = true
        · rw [if_pos c] at e
          cases e
          obtain ⟨c1, c2⟩ := Bool.and_eq_true_iff.mp c
          exact .inr ⟨p, p2, Dt.Dp.mono s (rx.dp e3), Dt.Dp.mono s (ry.dp e4), c1, c2, q _ _ _ (Grow.refl s) (.bl _)⟩
        · rw [if_neg c] at e
          cases e
section
variable {X : Cx} {W : WX} {a b : Expr} {pos : Pos} {fa fb : Env → Res D}
theorem pd_eq (hu : X.A.units + 64 < cLine) (ha : PE X a (tD X.K W fa)) (hb : PE X b (tD X.K W fb)) : PE X (.Compare a [.Eq] [b] pos) (tD X.K W (eOp eqD fa fb)) := pd_cmp (OpR.or op_eq (op_eqD hu)) good_eq ha hb
theorem pd_ne (hu : X.A.units + 64 < cLine) (ha : PE X a (tD X.K W fa)) (hb : PE X b (tD X.K W fb)) : PE X (.Compare a [.NotEq] [b] pos) (tD X.K W (eOp neD fa fb)) := pd_cmp (OpR.or op_ne (op_neD hu)) good_ne ha hb
theorem pt_eq (hu : X.A.units + 64 < cLine) (ha : PE X a (tD X.K W fa)) (hb : PE X b (tD X.K W fb)) : PT X (.Compare a [.Eq] [b] pos) (tDB X.K W (bV (eOp eqD fa fb))) := pt_cmp' (OpR.or op_eq (op_eqD hu)) good_eq ha hb
theorem pt_ne (hu : X.A.units + 64 < cLine) (ha : PE X a (tD X.K W fa)) (hb : PE X b (tD X.K W fb)) : PT X (.Compare a [.NotEq] [b] pos) (tDB X.K W (bV (eOp neD fa fb))) := pt_cmp' (OpR.or op_ne (op_neD hu)) good_ne ha hb
end
/-! ### is, is not: None, True, False on the right -/
def isB : D → D → Option Bool
  | .bl a, .bl b => some (decide (a = b))
  | .non, .non => some true
  | .bl _, .non => some false
  | .int _, .non => some false
  | .str _, .non => some false
  | .lst _, .non => some false
  | .tup _, .non => some false
  | .ins _ _, .non => some false
  | _, _ => none
def isD (a b : D) : Option D := (isB a b).map .bl
def isnD (a b : D) : Option D := (isB a b).map fun c => .bl (!c)
theorem good_is {K : PySem.W.Frag} : Good2 K (fun x y H Q => (y = .non ∧ Q (.bl (decide (x = .non))) H) ∨ rIsB x y H Q) isD := by
  intro H0 H x y a b d Q s rx ry e q
  cases b with
  | non =>
    cases ry
    cases a <;> cases e <;> cases rx <;> exact .inl ⟨rfl, q _ _ _ (Grow.refl s) (.bl _)⟩
  | bl c =>
    cases ry
    cases a with
    | bl z =>
      cases rx
      cases e
      exact .inr ⟨_, _, rfl, rfl, q _ _ _ (Grow.refl s) (.bl _)⟩
    | _ => cases e
  | _ => cases a <;> cases e
theorem good_isn {K : PySem.W.Frag} : Good2 K (fun x y H Q => (y = .non ∧ Q (.bl (!decide (x = .non))) H) ∨ rNotB x y H Q) isnD := by
  intro H0 H x y a b d Q s rx ry e q
  cases b with
  | non =>
    cases ry
    cases a <;> cases e <;> cases rx <;> exact .inl ⟨rfl, q _ _ _ (Grow.refl s) (.bl _)⟩
  | bl c =>
    cases ry
    cases a with
    | bl z =>
      cases rx
      cases e
      exact .inr ⟨_, _, rfl, rfl, q _ _ _ (Grow.refl s) (.bl _)⟩
    | _ => cases e
  | _ => cases a <;> cases e
section
variable {X : Cx} {W : WX} {a b : Expr} {pos : Pos} {fa fb : Env → Res D}
theorem pd_is (ha : PE X a (tD X.K W fa)) (hb : PE X b (tD X.K W fb)) : PE X (.Compare a [.Is] [b] pos) (tD X.K W (eOp isD fa fb)) := pd_cmp (OpR.or op_isN op_isBl) good_is ha hb
theorem pd_isn (ha : PE X a (tD X.K W fa)) (hb : PE X b (tD X.K W fb)) : PE X (.Compare a [.IsNot] [b] pos) (tD X.K W (eOp isnD fa fb)) := pd_cmp (OpR.or op_notN op_notBl) good_isn ha hb
theorem pt_is (ha : PE X a (tD X.K W fa)) (hb : PE X b (tD X.K W fb)) : PT X (.Compare a [.Is] [b] pos) (tDB X.K W (bV (eOp isD fa fb))) := pt_cmp' (OpR.or op_isN op_isBl) good_is ha hb
theorem pt_isn (ha : PE X a (tD X.K W fa)) (hb : PE X b (tD X.K W fb)) : PT X (.Compare a [.IsNot] [b] pos) (tDB X.K W (bV (eOp isnD fa fb))) := pt_cmp' (OpR.or op_notN op_notBl) good_isn ha hb
end
end Dt
namespace Dt
open PySem PySem.Spec PyProof.Rows L2
/-! ### subscripts -/
def ixD : D → D → Option D
  | .lst xs, .int i => atI xs i
  | .tup xs, .int i => atI xs i
  | .str z, .int i => if z.length ≤ 1000000 then (atI z.cps.toList i).map fun c => .str ⟨#[c]⟩ else none
  | _, _ => none
theorem Reps.atI {K : PySem.W.Frag} {H : Hp} {vs : List V} {ds : List D} {i : Int} {d : D} (r : Reps K H vs ds) (h : L2.atI ds i = some d) : ∃ v, L2.atI vs i = some v ∧ Rep K H v d := by
  unfold L2.atI at h ⊢
  rw [r.length]
  cases e : ixN ds.length i with
  | none => rw [e] at h; cases h
  | some j =>
    rw [e] at h
    exact r.get (i := j) h
theorem good_ix {K : PySem.W.Frag} : Good2 K (rIx K) ixD := by
  intro H0 H x y a b d Q s rx ry e q
  cases b with
  | int i =>
    cases ry
    cases a with
    | lst xs =>
      cases rx with
      | lst h r =>
      obtain ⟨v, h1, h2⟩ := r.atI (i := i) (d := d) e
      exact .inl ⟨_, _, i, v, rfl, rfl, Same.seq s h, h1, q _ _ _ (Grow.refl s) h2⟩
    | tup xs =>
      cases rx with
      | tup h r =>
      obtain ⟨v, h1, h2⟩ := r.atI (i := i) (d := d) e
      exact .inr (.inl ⟨_, _, i, v, rfl, rfl, Same.seqT s h, h1, q _ _ _ (Grow.refl s) h2⟩)
    | str z =>
      cases rx
      have e : (if z.length ≤ 1000000 then (L2.atI z.cps.toList i).map fun c => D.str ⟨#[c]⟩ else none) = some d := e
      by_cases c : z.length ≤ 1000000
      · rw [if_pos c] at e
        cases e1 : L2.atI z.cps.toList i with
        | none => rw [e1] at e; cases e
        | some k =>
          rw [e1] at e
          cases e
          exact .inr (.inr ⟨z, i, k, rfl, rfl, sz_le c, e1, q _ _ _ (Grow.refl s) (.str _)⟩)
      · rw [if_neg c] at e
        cases e
    | _ => cases e
  | _ => cases a <;> cases e
theorem pd_sub' {X : Cx} {W : WX} {a b : Expr} {pos : Pos} {fa fb : Env → Res D} (ha : PE X a (tD X.K W fa)) (hb : PE X b (tD X.K W fb)) (hs : PlainIx b := by exact fun _ _ => rfl) : PE X (.Subscript a b pos) (tD X.K W (eOp ixD fa fb)) := pd_ix ix_seq good_ix ha hb hs
/-! ### slices -/
def cutG {α : Type} (xs : List α) (lo hi : Option Int) : List α := (xs.drop (HT.sIx xs.length 0 lo)).take (HT.sIx xs.length xs.length hi - HT.sIx xs.length 0 lo)
def slD (lo hi : Option Int) : D → Option D
  | .lst xs => some (.lst (cutG xs lo hi))
  | .str z => if z.length ≤ 1000000 then some (.str (cutS z lo hi)) else none
  | _ => none
def eSl (fa : Env → Res D) (fl fh : Env → Res (Option Int)) : Env → Res D := fun env => (fa env).bind fun a => (fl env).bind fun l => (fh env).bind fun h => ofO (slD l h a)
def pickG {α : Type} (xs : List α) (lo hi : Option Int) (st : Int) : List α := (sliceRange (sliceBounds lo hi (some st) xs.length).1 (sliceBounds lo hi (some st) xs.length).2.1 (sliceBounds lo hi (some st) xs.length).2.2).filterMap (xs[·]?)
def slStD (lo hi st : Option Int) : D → Option D
  | .lst xs => match st with
    | some k => if k ≠ 0 ∧ xs.length ≤ 1000000 then some (.lst (pickG xs lo hi k)) else none
    | none => none
  | _ => none
def eSlSt (fa : Env → Res D) (fl fh fs : Env → Res (Option Int)) : Env → Res D := fun env => (fa env).bind fun a => (fl env).bind fun l => (fh env).bind fun h => (fs env).bind fun st => ofO (slStD l h st a)
theorem Reps.cutG {K : PySem.W.Frag} {H : Hp} {vs : List V} {ds : List D} (r : Reps K H vs ds) (lo hi : Option Int) : Reps K H (Dt.cutG vs lo hi) (Dt.cutG ds lo hi) := by
  unfold Dt.cutG
  rw [r.length]
  exact (r.drop _).take _
theorem Reps.pick {K : PySem.W.Frag} {H : Hp} {vs : List V} {ds : List D} (r : Reps K H vs ds) : ∀ is : List Nat, Reps K H (is.filterMap (vs[·]?)) (is.filterMap (ds[·]?))
  | [] => .nil
  | i :: is => by
    rw [List.filterMap_cons, List.filterMap_cons]
    cases e : ds[i]? with
    | none =>
      have e2 : vs[i]? = none := by
        rw [List.getElem?_eq_none_iff] at e ⊢
        rw [r.length]
        exact e
      rw [e2]
      exact Reps.pick r is
    | some d =>
      obtain ⟨v, h1, h2⟩ := r.get e
      rw [h1]
      exact .cons h2 (Reps.pick r is)
theorem Vals.pick {vs : List V} {us : List Value} (r : Vals vs us) : ∀ is : List Nat, Vals (is.filterMap (vs[·]?)) (is.filterMap (us[·]?))
  | [] => .nil
  | i :: is => by
    rw [List.filterMap_cons, List.filterMap_cons]
    cases e : vs[i]? with
    | none =>
      rw [Vals.none_of r e]
      exact Vals.pick r is
    | some d =>
      obtain ⟨v, h1, h2⟩ := r.get e
      rw [h1]
      exact .cons h2 (Vals.pick r is)
theorem Reps.pickG {K : PySem.W.Frag} {H : Hp} {vs : List V} {ds : List D} (r : Reps K H vs ds) (lo hi : Option Int) (st : Int) : Reps K H (Dt.pickG vs lo hi st) (Dt.pickG ds lo hi st) := by
  unfold Dt.pickG
  rw [r.length]
  exact r.pick _
section
variable {K : PySem.W.Frag} {W : WX} {σ : L2.St} {H : Hp} {fa : Env → Res D} {fl fh fs : Env → Res (Option Int)}
def rSl2 (K : PySem.W.Frag) : V → Option Int → Option Int → Hp → VK → Prop := fun x lo hi H Q => rSlL K x lo hi H Q ∨ rSlS x lo hi H Q
theorem t_sl {Q : VK} (h : tD K W (eSl fa fl fh) σ H Q) : tSl (rSl2 K) (tD K W fa) (tDO K W fl) (tDO K W fh) σ H Q := by
  obtain ⟨H0, env, er, k⟩ := h
  refine ⟨H0, env, er, Kt.seq er k fun x a A B gr er' rx k' => ⟨A, env, er', Kt.seq er' k' fun l l' A' B' gr' er'' rl k'' => ⟨A', env, er'', Kt.seq er'' k'' fun u u' A3 B3 g3 er3 ru k3 => ?_⟩⟩⟩
  cases (show l = l' from rl)
  cases (show u = u' from ru)
  obtain ⟨d, e, q⟩ := kt_ofO er3.sub k3
  have rx3 := (rx.mono gr'.s0).mono g3.s0
  cases a with
  | lst xs =>
    cases rx3 with
    | lst h r =>
    cases e
    refine .inl ⟨_, _, rfl, Same.seq er3.sub h, fun p hp => ?_⟩
    exact q _ _ _ (Grow.new er3.sub hp) (.lst (SqL.of upd_same) ((r.cutG l u).mono (Grow.new (o := .lst _) er3.sub hp).s0))
  | str z =>
    cases rx3
    have e : (if z.length ≤ 1000000 then some (D.str (cutS z l u)) else none) = some d := e
    by_cases c : z.length ≤ 1000000
    · rw [if_pos c] at e
      cases e
      exact .inr ⟨z, rfl, sz_le c, q _ _ _ (Grow.refl er3.sub) (.str _)⟩
    · rw [if_neg c] at e
      cases e
  | _ => cases e
/-- xs[lo:hi:st] -/
def tSlSt (K : PySem.W.Frag) (te : TE) (tl th ts : TO) : TE := fun σ H Q => te σ H fun x H1 => tl σ H1 fun l H2 => th σ H2 fun u H3 => ts σ H3 fun st H4 => ∃ a xs k, x = .ref a ∧ SqL K H4 a xs ∧ st = some k ∧ k ≠ 0 ∧ ∀ p, H4 p = none → Q (.ref p) (upd H4 p (.lst (pickG xs l u k)))
theorem t_slSt {Q : VK} (h : tD K W (eSlSt fa fl fh fs) σ H Q) : tSlSt K (tD K W fa) (tDO K W fl) (tDO K W fh) (tDO K W fs) σ H Q := by
  obtain ⟨H0, env, er, k⟩ := h
  refine ⟨H0, env, er, Kt.seq er k fun x a A B gr er' rx k' => ⟨A, env, er', Kt.seq er' k' fun l l' A' B' gr' er'' rl k'' => ⟨A', env, er'', Kt.seq er'' k'' fun u u' A3 B3 g3 er3 ru k3 => ⟨A3, env, er3, Kt.seq er3 k3 fun w w' A4 B4 g4 er4 rw4 k4 => ?_⟩⟩⟩⟩
  cases (show l = l' from rl)
  cases (show u = u' from ru)
  cases (show w = w' from rw4)
  obtain ⟨d, e, q⟩ := kt_ofO er4.sub k4
  have rx3 := ((rx.mono gr'.s0).mono g3.s0).mono g4.s0
  cases a with
  | lst xs =>
    cases rx3 with
    | lst h r =>
    cases w with
    | none => cases e
    | some n =>
      have e : (if n ≠ 0 ∧ xs.length ≤ 1000000 then some (D.lst (pickG xs l u n)) else none) = some d := e
      by_cases c : n ≠ 0 ∧ xs.length ≤ 1000000
      · rw [if_pos c] at e
        cases e
        refine ⟨_, _, n, rfl, Same.seq er4.sub h, rfl, c.1, fun p hp => ?_⟩
        exact q _ _ _ (Grow.new er4.sub hp) (.lst (SqL.of upd_same) ((r.pickG l u n).mono (Grow.new (o := .lst _) er4.sub hp).s0))
      · rw [if_neg c] at e
        cases e
  | _ => cases e
end
theorem filterMap_len {α β : Type} (f : α → Option β) : ∀ l : List α, (l.filterMap f).length ≤ l.length
  | [] => Nat.le_refl _
  | x :: l => by
    rw [List.filterMap_cons]
    cases f x with
    | none => exact Nat.le_succ_of_le (filterMap_len f l)
    | some y => exact Nat.succ_le_succ (filterMap_len f l)
theorem pickG_len {α : Type} (xs : List α) (lo hi : Option Int) (k : Int) (h : k ≠ 0) : (pickG xs lo hi k).length ≤ xs.length := by
  refine Nat.le_trans (filterMap_len _ _) ?_
  refine sliceRange_length_le _ _ _ _ (fun c => ?_) (fun c => ?_)
  · unfold sliceBounds at *
    simp only [Option.getD_some] at *
    have c' : k > 0 := c
    cases lo <;> cases hi <;> simp only [c', if_true] <;> constructor <;> (try split) <;> omega
  · unfold sliceBounds at *
    simp only [Option.getD_some] at *
    have c' : ¬ k > 0 := c
    cases lo <;> cases hi <;> simp only [c', if_false] <;> constructor <;> (try split) <;> omega
section
variable {X : Cx} {W : WX} {e : Expr} {lo hi : Option Expr} {st : Expr} {fa : Env → Res D} {fl fh fs : Env → Res (Option Int)} {pos p2 : Pos}
theorem pd_sl (he : PE X e (tD X.K W fa)) (hl : PO X lo (tDO X.K W fl)) (hu : PO X hi (tDO X.K W fh)) : PE X (.Subscript e (.Slice lo hi none p2) pos) (tD X.K W (eSl fa fl fh)) :=
  PE.imp (pe_slice (SlR.or sl_list sl_str) he hl hu) fun _ _ _ h => t_sl h
theorem pe_slSt {te : TE} {tl th ts : TO} (he : PE X e te) (hl : PO X lo tl) (hu : PO X hi th) (hs : PO X (some st) ts)
    (hsub : ∀ o i, subscripted (.Slice lo hi (some st) p2) false o i = operate [o, i] (getItem o i) := by intro _ _; with_unfolding_all rfl) : PE X (.Subscript e (.Slice lo hi (some st) p2) pos) (tSlSt X.K te tl th ts) := by
  refine ⟨fun pins s σ H Q I h => ?_⟩
  refine Subscript_ (thn (he.run pins s σ H _ I h) fun v s1 ⟨x, H1, I1, r1, q1⟩ => ?_)
  refine wpAny_Slice (thn (hl.run pins s1 σ H1 _ I1 q1) fun vl s2 ⟨l, H2, I2, pl, q2⟩ => thn (hu.run pins s2 σ H2 _ I2 q2) fun vu s3 ⟨u, H3, I3, pu, q3⟩ => thn (hs.run pins s3 σ H3 _ I3 q3) fun vs s4 ⟨w, H4, I4, ps, q4⟩ => ?_)
  obtain ⟨a, xs, k, ex, hx, ew, hk, q⟩ := q4
  subst ex ew
  cases r1
  have I5 : Inv X pins σ H4 { s4 with heap := s4.heap.push { cls := .type "slice", data := .fields #[vl, vu, vs] } } := I4.kept (t' := s4.toks) fun b ob q => Heap.get?_push_of_some _ q
  obtain ⟨its, r, ht, hz⟩ := I5.list hx
  have hlen := r.length
  show wpAny (model X.prog X.w) X.A (subscriptTail e (.Slice lo hi (some st) p2) (.ref a) (.ref s4.heap.objs.size)) (EP X pins σ Q) X.xe { s4 with heap := s4.heap.push { cls := .type "slice", data := .fields #[vl, vu, vs] } }
  refine tail_any (ops := [.ref a, .ref s4.heap.objs.size]) ht.isList.typeIs (PySem.slot_list_getitem.lookup) ?_ (hsub _ _)
  refine wpAny_getItem_list_slice ht.isList (Heap.IsSliceOf.new _ vl vu vs) pl pu ps (fun z => hk (Option.some.inj z)) ?_ (by rw [List.size_toArray]; omega)
  have ep : slicePick its.toArray l u (some k) = (pickG its l u k).toArray := by
    unfold slicePick pickG
    simp only [List.size_toArray, List.getElem?_toArray]
  rw [ep]
  have rp : Vals (pickG xs l u k) (pickG its l u k) := by
    unfold pickG
    rw [← hlen]
    exact Dt.Vals.pick r _
  refine ⟨.ref _, _, I5.laid (t' := s4.toks) (o := .lst (pickG xs l u k)) (fun b ob q => Heap.get?_push_of_some _ q) (Nat.le_refl _) ?_, rfl, q _ (I5.hok.fresh (Nat.le_refl _))⟩
  exact ⟨Nat.le_trans (pickG_len xs l u k hk) hz, _, 0, rp, Heap.get?_push_size _ rfl⟩
theorem pd_slSt (he : PE X e (tD X.K W fa)) (hl : PO X lo (tDO X.K W fl)) (hu : PO X hi (tDO X.K W fh)) (hs : PO X (some st) (tDO X.K W fs))
    (hsub : ∀ o i, subscripted (.Slice lo hi (some st) p2) false o i = operate [o, i] (getItem o i) := by intro _ _; with_unfolding_all rfl) : PE X (.Subscript e (.Slice lo hi (some st) p2) pos) (tD X.K W (eSlSt fa fl fh fs)) :=
  PE.imp (pe_slSt he hl hu hs hsub) fun _ _ _ h => t_slSt h
end
/-! ### built-ins -/
def toInts : List D → Option (List Int)
  | [] => some []
  | .int i :: r => (toInts r).map (i :: ·)
  | _ :: _ => none
theorem toInts_eq : ∀ {ds : List D} {ns : List Int}, toInts ds = some ns → ds = ns.map D.int
  | [], ns, e => by cases e; rfl
  | d :: r, ns, e => by
    cases d with
    | int i =>
      have e : (toInts r).map (i :: ·) = some ns := e
      cases e1 : toInts r with
      | none => rw [e1] at e; cases e
      | some ms =>
        rw [e1] at e
        cases e
        rw [toInts_eq e1]
        rfl
    | _ => cases e
@[simp] theorem toInts_map : ∀ ns : List Int, toInts (ns.map D.int) = some ns
  | [] => rfl
  | n :: ns => by
    show (toInts (ns.map D.int)).map (n :: ·) = _
    rw [toInts_map ns]
    rfl
def toBls : List D → Option (List Bool)
  | [] => some []
  | .bl i :: r => (toBls r).map (i :: ·)
  | _ :: _ => none
theorem toBls_eq : ∀ {ds : List D} {ns : List Bool}, toBls ds = some ns → ds = ns.map D.bl
  | [], ns, e => by cases e; rfl
  | d :: r, ns, e => by
    cases d with
    | bl i =>
      have e : (toBls r).map (i :: ·) = some ns := e
      cases e1 : toBls r with
      | none => rw [e1] at e; cases e
      | some ms =>
        rw [e1] at e
        cases e
        rw [toBls_eq e1]
        rfl
    | _ => cases e
@[simp] theorem toBls_map : ∀ ns : List Bool, toBls (ns.map D.bl) = some ns
  | [] => rfl
  | n :: ns => by
    show (toBls (ns.map D.bl)).map (n :: ·) = _
    rw [toBls_map ns]
    rfl
def lenD : List D → Option D
  | [.lst xs] => some (.int xs.length)
  | [.tup xs] => some (.int xs.length)
  | [.str z] => if z.length ≤ 1000000 then some (.int z.length) else none
  | _ => none
def allD : List D → Option D
  | [.lst xs] => (toBls xs).map fun bs => .bl (bs.all id)
  | _ => none
def anyD : List D → Option D
  | [.lst xs] => (toBls xs).map fun bs => .bl (bs.any id)
  | _ => none
def sumD : List D → Option D
  | [.lst xs] => (toInts xs).map fun ns => .int ns.sum
  | _ => none
def minL : List Int → Int
  | [] => 0
  | x :: xs => xs.foldl min x
def maxL : List Int → Int
  | [] => 0
  | x :: xs => xs.foldl max x
def minD : List D → Option D
  | [.lst xs] => match toInts xs with
    | some (n :: ns) => some (.int (minL (n :: ns)))
    | _ => none
  | [.int i, .int j] => some (.int (min i j))
  | _ => none
def maxD : List D → Option D
  | [.lst xs] => match toInts xs with
    | some (n :: ns) => some (.int (maxL (n :: ns)))
    | _ => none
  | [.int i, .int j] => some (.int (max i j))
  | _ => none
def listD : List D → Option D
  | [.lst xs] => some (.lst xs)
  | [.tup xs] => some (.lst xs)
  | _ => none
theorem foldl_min (xs : List Int) : ∀ x : Int, (xs.foldl min x ≤ x ∧ ∀ y ∈ xs, xs.foldl min x ≤ y) ∧ (xs.foldl min x = x ∨ xs.foldl min x ∈ xs) := by
  induction xs with
  | nil => exact fun x => ⟨⟨Int.le_refl _, fun y hy => nomatch hy⟩, .inl rfl⟩
  | cons z zs ih =>
    intro x
    obtain ⟨⟨h1, h2⟩, h3⟩ := ih (min x z)
    refine ⟨⟨?_, fun y hy => ?_⟩, ?_⟩
    · show zs.foldl min (min x z) ≤ x
      omega
    · show zs.foldl min (min x z) ≤ y
      rcases List.mem_cons.mp hy with e | hy
      · subst e; omega
      · exact h2 y hy
    · show zs.foldl min (min x z) = x ∨ zs.foldl min (min x z) ∈ z :: zs
      rcases h3 with e | e
      · by_cases c : x ≤ z
        · left; omega
        · right; rw [List.mem_cons]; left; omega
      · exact .inr (List.mem_cons_of_mem _ e)
theorem foldl_max (xs : List Int) : ∀ x : Int, (x ≤ xs.foldl max x ∧ ∀ y ∈ xs, y ≤ xs.foldl max x) ∧ (xs.foldl max x = x ∨ xs.foldl max x ∈ xs) := by
  induction xs with
  | nil => exact fun x => ⟨⟨Int.le_refl _, fun y hy => nomatch hy⟩, .inl rfl⟩
  | cons z zs ih =>
    intro x
    obtain ⟨⟨h1, h2⟩, h3⟩ := ih (max x z)
    refine ⟨⟨?_, fun y hy => ?_⟩, ?_⟩
    · show x ≤ zs.foldl max (max x z)
      omega
    · show y ≤ zs.foldl max (max x z)
      rcases List.mem_cons.mp hy with e | hy
      · subst e; omega
      · exact h2 y hy
    · show zs.foldl max (max x z) = x ∨ zs.foldl max (max x z) ∈ z :: zs
      rcases h3 with e | e
      · by_cases c : z ≤ x
        · left; omega
        · right; rw [List.mem_cons]; left; omega
      · exact .inr (List.mem_cons_of_mem _ e)
theorem minL_spec {n : Int} {ns : List Int} : (minL (n :: ns) ∈ n :: ns) ∧ ∀ y ∈ n :: ns, minL (n :: ns) ≤ y := by
  obtain ⟨⟨h1, h2⟩, h3⟩ := foldl_min ns n
  refine ⟨?_, fun y hy => ?_⟩
  · rcases h3 with e | e
    · rw [List.mem_cons]; exact .inl e
    · exact List.mem_cons_of_mem _ e
  · rcases List.mem_cons.mp hy with e | hy
    · subst e; exact h1
    · exact h2 y hy
theorem maxL_spec {n : Int} {ns : List Int} : (maxL (n :: ns) ∈ n :: ns) ∧ ∀ y ∈ n :: ns, y ≤ maxL (n :: ns) := by
  obtain ⟨⟨h1, h2⟩, h3⟩ := foldl_max ns n
  refine ⟨?_, fun y hy => ?_⟩
  · rcases h3 with e | e
    · rw [List.mem_cons]; exact .inl e
    · exact List.mem_cons_of_mem _ e
  · rcases List.mem_cons.mp hy with e | hy
    · subst e; exact h1
    · exact h2 y hy
theorem reps1 {K : PySem.W.Frag} {H : Hp} {vs : List V} {d : D} (r : Reps K H vs [d]) : ∃ v, vs = [v] ∧ Rep K H v d := by
  cases r with
  | cons r t =>
    cases t
    exact ⟨_, rfl, r⟩
theorem reps2 {K : PySem.W.Frag} {H : Hp} {vs : List V} {d e : D} (r : Reps K H vs [d, e]) : ∃ v w, vs = [v, w] ∧ Rep K H v d ∧ Rep K H w e := by
  cases r with
  | cons r t =>
    obtain ⟨w, rfl, h⟩ := reps1 t
    exact ⟨_, w, rfl, r, h⟩
theorem good_len {K : PySem.W.Frag} : GoodN K (fun xs H Q => ∃ x n, xs = [x] ∧ LenV K x H n ∧ Q (.int n) H) lenD := by
  intro H0 H xs as d Q s r e q
  match as, e with
  | [.lst ys], e =>
    obtain ⟨v, rfl, rv⟩ := reps1 r
    cases rv with
    | lst h rr =>
    cases e
    refine ⟨_, ys.length, rfl, .inl ⟨_, Same.seq s h, rr.length.symm⟩, q _ _ _ (Grow.refl s) (.int _)⟩
  | [.tup ys], e =>
    obtain ⟨v, rfl, rv⟩ := reps1 r
    cases rv with
    | tup h rr =>
    cases e
    refine ⟨_, ys.length, rfl, .inr ⟨_, Same.seqT s h, rr.length.symm⟩, q _ _ _ (Grow.refl s) (.int _)⟩
  | [.str z], e =>
    obtain ⟨v, rfl, rv⟩ := reps1 r
    cases rv
    have e : (if z.length ≤ 1000000 then some (D.int z.length) else none) = some d := e
    by_cases c : z.length ≤ 1000000
    · rw [if_pos c] at e
      cases e
      exact ⟨_, z.length, rfl, ⟨sz_le c, rfl⟩, q _ _ _ (Grow.refl s) (.int _)⟩
    · rw [if_neg c] at e
      cases e
theorem good_all {K : PySem.W.Frag} : GoodN K (rAll K) allD := by
  intro H0 H xs as d Q s r e q
  match as, e with
  | [.lst ys], e =>
    obtain ⟨v, rfl, rv⟩ := reps1 r
    cases rv with
    | lst h rr =>
    have e : (toBls ys).map (fun bs => D.bl (bs.all id)) = some d := e
    cases e1 : toBls ys with
    | none => rw [e1] at e; cases e
    | some bs =>
      rw [e1] at e
      cases e
      rw [toBls_eq e1] at rr
      rw [rr.bls] at h
      exact ⟨_, bs, rfl, Same.seq s h, q _ _ _ (Grow.refl s) (.bl _)⟩
theorem good_any {K : PySem.W.Frag} : GoodN K (rAny K) anyD := by
  intro H0 H xs as d Q s r e q
  match as, e with
  | [.lst ys], e =>
    obtain ⟨v, rfl, rv⟩ := reps1 r
    cases rv with
    | lst h rr =>
    have e : (toBls ys).map (fun bs => D.bl (bs.any id)) = some d := e
    cases e1 : toBls ys with
    | none => rw [e1] at e; cases e
    | some bs =>
      rw [e1] at e
      cases e
      rw [toBls_eq e1] at rr
      rw [rr.bls] at h
      exact ⟨_, bs, rfl, Same.seq s h, q _ _ _ (Grow.refl s) (.bl _)⟩
theorem good_sum {K : PySem.W.Frag} : GoodN K (rSum K) sumD := by
  intro H0 H xs as d Q s r e q
  match as, e with
  | [.lst ys], e =>
    obtain ⟨v, rfl, rv⟩ := reps1 r
    cases rv with
    | lst h rr =>
    have e : (toInts ys).map (fun bs => D.int bs.sum) = some d := e
    cases e1 : toInts ys with
    | none => rw [e1] at e; cases e
    | some bs =>
      rw [e1] at e
      cases e
      rw [toInts_eq e1] at rr
      rw [rr.ints] at h
      exact ⟨_, bs, rfl, Same.seq s h, q _ _ _ (Grow.refl s) (.int _)⟩
theorem good_min {K : PySem.W.Frag} : GoodN K (fun xs H Q => rMin K xs H Q ∨ ∃ i j, xs = [.int i, .int j] ∧ Q (.int (if j < i then j else i)) H) minD := by
  intro H0 H xs as d Q s r e q
  match as, e with
  | [.lst ys], e =>
    obtain ⟨v, rfl, rv⟩ := reps1 r
    cases rv with
    | lst h rr =>
    cases e1 : toInts ys with
    | none => simp only [minD, e1] at e; cases e
    | some bs =>
      cases bs with
      | nil => simp only [minD, e1] at e; cases e
      | cons n ns =>
        simp only [minD, e1] at e
        cases e
        rw [toInts_eq e1] at rr
        rw [rr.ints] at h
        refine .inl ⟨_, n :: ns, rfl, Same.seq s h, Nat.succ_pos _, fun m h1 h2 => ?_⟩
        have sp := minL_spec (n := n) (ns := ns)
        have em : m = minL (n :: ns) := Int.le_antisymm (h2 _ sp.1) (sp.2 m h1)
        rw [em]
        exact q _ _ _ (Grow.refl s) (.int _)
  | [.int i, .int j], e =>
    obtain ⟨v, w, rfl, rv, rw'⟩ := reps2 r
    cases rv
    cases rw'
    cases e
    refine .inr ⟨i, j, rfl, ?_⟩
    have em : (if j < i then j else i) = min i j := by
      by_cases c : j < i
      · rw [if_pos c]; omega
      · rw [if_neg c]; omega
    rw [em]
    exact q _ _ _ (Grow.refl s) (.int _)
theorem good_max {K : PySem.W.Frag} : GoodN K (fun xs H Q => rMax K xs H Q ∨ ∃ i j, xs = [.int i, .int j] ∧ Q (.int (if j > i then j else i)) H) maxD := by
  intro H0 H xs as d Q s r e q
  match as, e with
  | [.lst ys], e =>
    obtain ⟨v, rfl, rv⟩ := reps1 r
    cases rv with
    | lst h rr =>
    cases e1 : toInts ys with
    | none => simp only [maxD, e1] at e; cases e
    | some bs =>
      cases bs with
      | nil => simp only [maxD, e1] at e; cases e
      | cons n ns =>
        simp only [maxD, e1] at e
        cases e
        rw [toInts_eq e1] at rr
        rw [rr.ints] at h
        refine .inl ⟨_, n :: ns, rfl, Same.seq s h, Nat.succ_pos _, fun m h1 h2 => ?_⟩
        have sp := maxL_spec (n := n) (ns := ns)
        have em : m = maxL (n :: ns) := Int.le_antisymm (sp.2 m h1) (h2 _ sp.1)
        rw [em]
        exact q _ _ _ (Grow.refl s) (.int _)
  | [.int i, .int j], e =>
    obtain ⟨v, w, rfl, rv, rw'⟩ := reps2 r
    cases rv
    cases rw'
    cases e
    refine .inr ⟨i, j, rfl, ?_⟩
    have em : (if j > i then j else i) = max i j := by
      by_cases c : j > i
      · rw [if_pos c]; omega
      · rw [if_neg c]; omega
    rw [em]
    exact q _ _ _ (Grow.refl s) (.int _)
theorem good_list {K : PySem.W.Frag} : GoodN K (fun xs H Q => ∃ p ys, xs = [.ref p] ∧ (SqL K H p ys ∨ SqT K H p ys) ∧ ∀ l, H l = none → Q (.ref l) (upd H l (.lst ys))) listD := by
  intro H0 H xs as d Q s r e q
  match as, e with
  | [.lst ys], e =>
    obtain ⟨v, rfl, rv⟩ := reps1 r
    cases rv with
    | lst h rr =>
    cases e
    exact ⟨_, _, rfl, .inl (Same.seq s h), fun l hl => q _ _ _ (Grow.new s hl) (.lst (SqL.of upd_same) (rr.mono (Grow.new (o := .lst _) s hl).s0))⟩
  | [.tup ys], e =>
    obtain ⟨v, rfl, rv⟩ := reps1 r
    cases rv with
    | tup h rr =>
    cases e
    exact ⟨_, _, rfl, .inr (Same.seqT s h), fun l hl => q _ _ _ (Grow.new s hl) (.lst (SqL.of upd_same) (rr.mono (Grow.new (o := .lst _) s hl).s0))⟩
section
variable {X : Cx} {W : WX} {e : Expr} {es : List Expr} {pos p : Pos} {fl : Env → Res (List D)}
theorem pd_len (hg : Gl X "len") (hm : X.mg "len" = none) (ha : PA X (e :: es) (tDs X.K W fl)) (he : starEach (e :: es) X.env = (false, eval e X.env) :: starEach es X.env := by rfl) (hpl : (backTo pos (starEach es X.env)).any (·.1) = false := by rfl) :
    PE X (.Call (.Name "len" p) (e :: es) [] pos) (tD X.K W (eFn lenD fl)) := pd_fnB call_len good_len PySem.boot_len hg hm ha (by decide) (by decide) he hpl
theorem pd_all (hc : X.calm = true) (hg : Gl X "all") (hm : X.mg "all" = none) (ha : PA X (e :: es) (tDs X.K W fl)) (he : starEach (e :: es) X.env = (false, eval e X.env) :: starEach es X.env := by rfl) (hpl : (backTo pos (starEach es X.env)).any (·.1) = false := by rfl) :
    PE X (.Call (.Name "all" p) (e :: es) [] pos) (tD X.K W (eFn allD fl)) := pd_fnB (cr_all hc) good_all (by decide +kernel) hg hm ha (by decide) (by decide) he hpl
theorem pd_any (hc : X.calm = true) (hg : Gl X "any") (hm : X.mg "any" = none) (ha : PA X (e :: es) (tDs X.K W fl)) (he : starEach (e :: es) X.env = (false, eval e X.env) :: starEach es X.env := by rfl) (hpl : (backTo pos (starEach es X.env)).any (·.1) = false := by rfl) :
    PE X (.Call (.Name "any" p) (e :: es) [] pos) (tD X.K W (eFn anyD fl)) := pd_fnB (cr_any hc) good_any (by decide +kernel) hg hm ha (by decide) (by decide) he hpl
theorem pd_sum (hc : X.calm = true) (hg : Gl X "sum") (hm : X.mg "sum" = none) (ha : PA X (e :: es) (tDs X.K W fl)) (he : starEach (e :: es) X.env = (false, eval e X.env) :: starEach es X.env := by rfl) (hpl : (backTo pos (starEach es X.env)).any (·.1) = false := by rfl) :
    PE X (.Call (.Name "sum" p) (e :: es) [] pos) (tD X.K W (eFn sumD fl)) := pd_fnB (cr_sum hc) good_sum (by decide +kernel) hg hm ha (by decide) (by decide) he hpl
theorem pd_min (hc : X.calm = true) (hg : Gl X "min") (hm : X.mg "min" = none) (ha : PA X (e :: es) (tDs X.K W fl)) (he : starEach (e :: es) X.env = (false, eval e X.env) :: starEach es X.env := by rfl) (hpl : (backTo pos (starEach es X.env)).any (·.1) = false := by rfl) :
    PE X (.Call (.Name "min" p) (e :: es) [] pos) (tD X.K W (eFn minD fl)) := pd_fnB (CallR.or (cr_min hc) (call_min2 hc)) good_min (by decide +kernel) hg hm ha (by decide) (by decide) he hpl
theorem pd_max (hc : X.calm = true) (hg : Gl X "max") (hm : X.mg "max" = none) (ha : PA X (e :: es) (tDs X.K W fl)) (he : starEach (e :: es) X.env = (false, eval e X.env) :: starEach es X.env := by rfl) (hpl : (backTo pos (starEach es X.env)).any (·.1) = false := by rfl) :
    PE X (.Call (.Name "max" p) (e :: es) [] pos) (tD X.K W (eFn maxD fl)) := pd_fnB (CallR.or (cr_max hc) (call_max2 hc)) good_max (by decide +kernel) hg hm ha (by decide) (by decide) he hpl
theorem pd_list (hg : Gl X "list") (hm : X.mg "list" = none) (ha : PA X (e :: es) (tDs X.K W fl)) (he : starEach (e :: es) X.env = (false, eval e X.env) :: starEach es X.env := by rfl) (hpl : (backTo pos (starEach es X.env)).any (·.1) = false := by rfl) :
    PE X (.Call (.Name "list" p) (e :: es) [] pos) (tD X.K W (eFn listD fl)) := pd_fnT call_list_of good_list (by decide +kernel) hg hm ha (by decide) (by decide) he hpl
end
end Dt
namespace Dt
open PySem PySem.Spec PyProof.Rows L2
/-! ### isinstance -/
/-- what isinstance asks of an own class -/
structure CI (K : PySem.W.Frag) (C : Addr) : Prop where
  cl : Cls K C
  ha : PySem.W.findIn K (.ref C) "__class__" = some (some (.builtin "object.__class__"))
  hn : PySem.W.specialIn K (.builtin "object.__class__") "__get__" = some (some (.builtin "getset_descriptor.__get__"))
  htk : PySem.W.takesIn K (.builtin "object.__class__") = some true
  hm : PySem.W.mroIn K C (.type "object") = some true
def tyD (Cs : List Addr) : D → Option Value
  | .non => some (.type "NoneType") | .bl _ => some (.type "bool") | .int _ => some (.type "int") | .str _ => some (.type "str")
  | .lst _ => some (.type "list") | .tup _ => some (.type "tuple") | .dic => some (.type "dict")
  | .ins C _ => if C ∈ Cs then some (.ref C) else none
  | _ => none
def clsD : D → Option Value
  | .ty n => some (.type n) | .cls a => some (.ref a)
  | _ => none
def isiD (K : PySem.W.Frag) (Cs : List Addr) : List D → Option D
  | [x, c] => match tyD Cs x, clsD c with
    | some t, some u => (PySem.W.kitOne K t u).map .bl
    | _, _ => none
  | _ => none
theorem tyD_ok {K : PySem.W.Frag} {Cs : List Addr} (hC : ∀ C ∈ Cs, CI K C) {H0 H : Hp} {x : V} {d : D} {t : Value} (s : Same H0 H) (r : Rep K H0 x d) (e : tyD Cs d = some t) : TyX K H x t := by
  cases d with
  | non => cases r; cases e; exact .base .non
  | bl b => cases r; cases e; exact .base (.bl b)
  | int b => cases r; cases e; exact .base (.int b)
  | str b => cases r; cases e; exact .base (.str b)
  | lst xs =>
    cases e
    cases r with
    | lst h _ =>
    rcases Same.seq s h with (h | ⟨o, h⟩) | ⟨o, its, n, h1, h2, _⟩
    · exact .base (.lst h)
    · exact .base (.frz h)
    · exact .kList h1 h2
  | tup xs =>
    cases e
    cases r with
    | tup h _ =>
    rcases Same.seqT s h with (h | ⟨o, h⟩) | ⟨o, its, n, h1, h2, _⟩
    · exact .base (.tup h)
    · exact .fTuple h
    · exact .kTuple h1 h2
  | dic =>
    cases e
    cases r with
    | dic h => exact .base (.dK (s _ _ h))
  | ins C fs =>
    have e : (if C ∈ Cs then some (Value.ref C) else none) = some t := e
    by_cases c : C ∈ Cs
    · rw [if_pos c] at e
      cases e
      cases r with
      | ins h _ =>
      have q := hC C c
      exact .base (.ins (s _ _ h) q.cl q.ha q.hn q.htk q.hm)
    · rw [if_neg c] at e
      cases e
  | _ => cases e
theorem clsD_ok {K : PySem.W.Frag} {H0 : Hp} {x : V} {d : D} {u : Value} (r : Rep K H0 x d) (e : clsD d = some u) : ClsV x u := by
  cases d with
  | ty n => cases r; cases e; exact .ty n
  | cls a => cases r; cases e; exact .own a
  | _ => cases e
theorem good_isi {K : PySem.W.Frag} {Cs : List Addr} (hC : ∀ C ∈ Cs, CI K C) : GoodN K (rIsi K) (isiD K Cs) := by
  intro H0 H xs as d Q s r e q
  match as, e with
  | [x, c], e =>
    obtain ⟨v, w, rfl, rv, rw'⟩ := reps2 r
    cases e1 : tyD Cs x with
    | none => simp only [isiD, e1] at e; cases e
    | some t =>
      cases e2 : clsD c with
      | none => simp only [isiD, e1, e2] at e; cases e
      | some u =>
        simp only [isiD, e1, e2] at e
        cases e3 : PySem.W.kitOne K t u with
        | none => rw [e3] at e; cases e
        | some b =>
          rw [e3] at e
          cases e
          exact ⟨v, w, t, u, b, rfl, clsD_ok rw' e2, tyD_ok hC s rv e1, e3, q _ _ _ (Grow.refl s) (.bl _)⟩
theorem pd_isi {X : Cx} {W : WX} {e : Expr} {es : List Expr} {pos p : Pos} {fl : Env → Res (List D)} {Cs : List Addr} (hC : ∀ C ∈ Cs, CI X.K C) (hg : Gl X "isinstance") (hm : X.mg "isinstance" = none) (ha : PA X (e :: es) (tDs X.K W fl)) (he : starEach (e :: es) X.env = (false, eval e X.env) :: starEach es X.env := by rfl) (hpl : (backTo pos (starEach es X.env)).any (·.1) = false := by rfl) :
    PE X (.Call (.Name "isinstance" p) (e :: es) [] pos) (tD X.K W (eFn (isiD X.K Cs) fl)) := pd_fnB call_isi (good_isi hC) (by decide +kernel) hg hm ha (by decide) (by decide) he hpl
/-! ### xs.index(y), ints -/
def indexD : D → List D → Option D
  | .lst xs, [.int i] => match toInts xs with
    | some ns => if i ∈ ns then some (.int (ns.idxOf i)) else none
    | none => none
  | _, _ => none
theorem idxOf_le : ∀ {ns : List Int} {m : Nat} {n : Int}, ns[m]? = some n → ns.idxOf n ≤ m
  | [], m, n, h => by simp at h
  | x :: xs, 0, n, h => by
    simp at h
    subst h
    simp [List.idxOf_cons]
  | x :: xs, m + 1, n, h => by
    have ih := idxOf_le (ns := xs) (m := m) (n := n) (by simpa using h)
    rw [List.idxOf_cons]
    cases (x == n)
    · show xs.idxOf n + 1 ≤ m + 1
      omega
    · exact Nat.zero_le _
theorem good_index {K : PySem.W.Frag} : GoodM K (rIndex K) indexD := by
  intro H0 H x xs a as d Q s rx r e q
  match a, as, e with
  | .lst ys, [.int i], e =>
    obtain ⟨v, rfl, rv⟩ := reps1 r
    cases rv
    cases rx with
    | lst h rr =>
    cases e1 : toInts ys with
    | none => simp only [indexD, e1] at e; cases e
    | some ns =>
      simp only [indexD, e1] at e
      by_cases c : i ∈ ns
      · rw [if_pos c] at e
        cases e
        rw [toInts_eq e1] at rr
        rw [rr.ints] at h
        have hl : ns.idxOf i < ns.length := List.idxOf_lt_length_of_mem c
        refine ⟨_, _, .int i, ns.idxOf i, .int i, rfl, rfl, Same.seq s h, rfl, ?_, ?_, by simp [eqV], fun m z hm hz => ?_, q _ _ _ (Grow.refl s) (.int _)⟩
        · rw [List.all_eq_true]
          intro z hz
          obtain ⟨n, _, rfl⟩ := List.mem_map.mp hz
          rfl
        · rw [List.getElem?_map, List.getElem?_eq_getElem hl]
          simp [List.getElem_idxOf]
        · rw [List.getElem?_map] at hz
          cases en : ns[m]? with
          | none => rw [en] at hz; cases hz
          | some n =>
            rw [en] at hz
            cases hz
            have ne : n ≠ i := fun z => by
              subst z
              have hm2 : m < ns.length := Nat.lt_trans hm hl
              have := idxOf_le en
              omega
            simp [eqV, ne]
      · rw [if_neg c] at e
        cases e
theorem pd_index {X : Cx} {W : WX} {e o : Expr} {es : List Expr} {pos apos : Pos} {fa : Env → Res D} {fl : Env → Res (List D)} (ho : PE X o (tD X.K W fa)) (ha : PA X (e :: es) (tDs X.K W fl))
    (hbase : attributeBase o "index" X.env (eval o X.env) = eval o X.env := by rfl)
    (hfew : ((backTo pos (starEach (e :: es) X.env)).all (fun x => !x.1) && (backToKw pos (keywordEach [] X.env)).all (fun x => x.1.isSome)
      && decide ((e :: es).length + ([] : List Keyword).length + (if ([] : List Keyword).isEmpty then 0 else 1) < 30)) = true := by rfl)
    (hline : (apos.endLine == pos.line) = true := by rfl) (hs : starEach (e :: es) X.env = (false, eval e X.env) :: starEach es X.env := by rfl) (hplain : (backTo pos (starEach es X.env)).any (·.1) = false := by rfl) :
    PE X (.Call (.Attribute o "index" apos) (e :: es) [] pos) (tD X.K W (eMt isLst indexD fa fl)) := pd_mtL PySem.F.slot_list_index PySem.F.type_list_index mt_index good_index ho ha hbase hfew hline hs hplain
end Dt
namespace Dt
open PySem PySem.Spec PyProof.Rows L2
/-! ## targets -/
structure OwnB (B : Addr → Prop) (H : Hp) (σ : L2.St) (env : Env) : Prop where
  l : ∀ (i : Nat) (ds : List D) (p : Addr), env[i]? = some (.ow ds) → σ[i]? = some (some (.ref p)) → B p
  o : ∀ (i : Nat) (C : Addr) (fs : List (Str × List D)) (x C' dx : Addr) (vfs : List (Str × V)) (n : Str) (q : Addr), env[i]? = some (.oi C fs) → σ[i]? = some (some (.ref x)) → H x = some (.ins C' dx vfs) → (n, V.ref q) ∈ vfs → B q
theorem OwnB.set {B : Addr → Prop} {H : Hp} {σ : L2.St} {env : Env} {i : Nat} {v : Option V} {d : D} (o : OwnB B H σ env) : OwnB B H (σ.set i v) (env.set i (.sh d)) := ⟨fun j ds p e1 e2 => by
  rcases set_some e1 with ⟨rfl, z⟩ | ⟨hj, z⟩
  · cases z
  · rw [List.getElem?_set_ne hj] at e2
    exact o.l j ds p z e2, fun j C fs x C' dx vfs n q e1 e2 e3 e4 => by
  rcases set_some e1 with ⟨rfl, z⟩ | ⟨hj, z⟩
  · cases z
  · rw [List.getElem?_set_ne hj] at e2
    exact o.o j C fs x C' dx vfs n q z e2 e3 e4⟩
theorem OwnB.grow {K : PySem.W.Frag} {B : Addr → Prop} {σ : L2.St} {env : Env} {H0 H H' : Hp} (o : OwnB B H σ env) (r : ER K σ H0 H env) (s : Same H H') : OwnB B H' σ env := ⟨o.l, fun i C fs x C' dx vfs n q e1 e2 e3 e4 => by
  obtain ⟨x', dx', vfs', h1, h2, _⟩ := r.oi i C fs e1
  rw [e2] at h1
  cases h1
  have := s _ _ h2
  rw [e3] at this
  cases this
  exact o.o i C fs x C dx vfs n q e1 e2 h2 e4⟩
section
variable {K : PySem.W.Frag} {B : Addr → Prop} {σ : L2.St} {env : Env} {H0 H H' : Hp} {i : Nat} {p : Addr} {vs : List V} {ds es : List D} {d : D}
theorem OwnB.setO (o : OwnB B H σ env) (hp : B p) : OwnB B H (σ.set i (some (.ref p))) (env.set i (.ow ds)) := ⟨fun j fs q e1 e2 => by
  rcases set_some e1 with ⟨rfl, z⟩ | ⟨hj, z⟩
  · rcases set_some e2 with ⟨_, w⟩ | ⟨hi, _⟩
    · cases w
      exact hp
    · exact absurd rfl hi
  · rw [List.getElem?_set_ne hj] at e2
    exact o.l j fs q z e2, fun j C fs x C' dx vfs n q e1 e2 e3 e4 => by
  rcases set_some e1 with ⟨rfl, z⟩ | ⟨hj, z⟩
  · cases z
  · rw [List.getElem?_set_ne hj] at e2
    exact o.o j C fs x C' dx vfs n q z e2 e3 e4⟩
theorem OwnB.frz (o : OwnB B H σ env) : OwnB B H σ (env.set i (.sh d)) := ⟨fun j ds p e1 e2 => by
  rcases set_some e1 with ⟨rfl, z⟩ | ⟨hj, z⟩
  · cases z
  · exact o.l j ds p z e2, fun j C fs x C' dx vfs n q e1 e2 e3 e4 => by
  rcases set_some e1 with ⟨rfl, z⟩ | ⟨hj, z⟩
  · cases z
  · exact o.o j C fs x C' dx vfs n q z e2 e3 e4⟩
theorem OwnB.put (o : OwnB B H σ env) (r : ER K σ H0 H env) (hi : env[i]? = some (.ow es)) (hσ : σ[i]? = some (some (.ref p))) : OwnB B (upd H p (.lst vs)) σ (env.set i (.ow ds)) := ⟨fun j fs q e1 e2 => by
  rcases set_some e1 with ⟨rfl, z⟩ | ⟨hj, z⟩
  · exact o.l i es q hi e2
  · exact o.l j fs q z e2, fun j C fs x C' dx vfs n q e1 e2 e3 e4 => by
  rcases set_some e1 with ⟨rfl, z⟩ | ⟨hj, z⟩
  · cases z
  · obtain ⟨x', dx', vfs', h1, h2, _⟩ := r.oi j C fs z
    rw [e2] at h1
    cases h1
    obtain ⟨p', ws, g1, g2, _⟩ := r.ow i es hi
    rw [hσ] at g1
    cases g1
    have xp : x ≠ p := fun w => by
      rw [w, g2] at h2
      cases h2
    rw [upd_ne xp] at e3
    exact o.o j C fs x C' dx vfs n q z e2 e3 e4⟩
theorem ER.newo (r : ER K σ H0 H env) (s : Same H H') (hp : H p = none) : ∀ (j : Nat) (C : Addr) (fs : List (Str × List D)) (x C' dx : Addr) (vfs : List (Str × V)) (n : Str), env[j]? = some (.oi C fs) → σ[j]? = some (some (.ref x)) → H' x = some (.ins C' dx vfs) → (n, V.ref p) ∉ vfs := fun j C fs x C' dx vfs n e1 e2 e3 e4 => by
  obtain ⟨x', dx', vfs', h1, h2, _, h4, _⟩ := r.oi j C fs e1
  rw [e2] at h1
  cases h1
  have := s _ _ h2
  rw [e3] at this
  cases this
  obtain ⟨⟨ws, h5⟩, _⟩ := h4.mem e4
  rw [hp] at h5
  cases h5
end
theorem wipe_get (σ : L2.St) (j : Nat) : ∀ vs : List Nat, (L2.wipe σ vs)[j]? = if j ∈ vs then (σ[j]?).map (fun _ => none) else σ[j]?
  | [] => by simp [L2.wipe]
  | w :: vs => by
    have ih := wipe_get σ j vs
    show ((L2.wipe σ vs).set w none)[j]? = _
    by_cases e : w = j
    · subst e
      rw [if_pos List.mem_cons_self]
      by_cases hl : w < σ.length
      · rw [List.getElem?_set_self (by rw [L2.wipe_length]; exact hl), List.getElem?_eq_getElem hl]
        rfl
      · rw [List.getElem?_eq_none (by rw [List.length_set, L2.wipe_length]; omega), List.getElem?_eq_none (by omega)]
        rfl
    · rw [List.getElem?_set_ne e, ih]
      by_cases c : j ∈ vs
      · rw [if_pos c, if_pos (List.mem_cons_of_mem _ c)]
      · rw [if_neg c, if_neg (fun z => by
          rcases List.mem_cons.mp z with z | z
          · exact e z.symm
          · exact c z)]
theorem wipe_set {σ : L2.St} {i : Nat} {v : Option V} {vs : List Nat} (h : i ∈ vs) : L2.wipe (σ.set i v) vs = L2.wipe σ vs := by
  apply List.ext_getElem?
  intro j
  rw [wipe_get, wipe_get]
  by_cases c : j ∈ vs
  · rw [if_pos c, if_pos c]
    by_cases e : i = j
    · subst e
      by_cases hl : i < σ.length
      · rw [List.getElem?_set_self hl, List.getElem?_eq_getElem hl]
        rfl
      · rw [List.getElem?_eq_none (by rw [List.length_set]; omega), List.getElem?_eq_none (by omega)]
    · rw [List.getElem?_set_ne e]
  · rw [if_neg c, if_neg c]
    have e : i ≠ j := fun z => c (z ▸ h)
    rw [List.getElem?_set_ne e]
theorem wipe_wipe {σ : L2.St} {vs : List Nat} : L2.wipe (L2.wipe σ vs) vs = L2.wipe σ vs := by
  apply List.ext_getElem?
  intro j
  rw [wipe_get, wipe_get]
  by_cases c : j ∈ vs
  · rw [if_pos c, if_pos c]
    cases σ[j]? <;> rfl
  · rw [if_neg c, if_neg c]
/-- what a target leaves: the slots ts alone are changed -/
structure Tgt (ts : List Nat) (σ σ' : L2.St) (env env' : Env) : Prop where
  wp : ∀ vs : List Nat, (∀ i ∈ ts, i ∈ vs) → L2.wipe σ' vs = L2.wipe σ vs
  ow : ∀ B H, OwnB B H σ env → OwnB B H σ' env'
theorem Tgt.refl {σ : L2.St} {env : Env} : Tgt [] σ σ env env := ⟨fun _ _ => rfl, fun _ _ h => h⟩
theorem Tgt.trans {t u : List Nat} {σ σ1 σ2 : L2.St} {e e1 e2 : Env} (a : Tgt t σ σ1 e e1) (b : Tgt u σ1 σ2 e1 e2) : Tgt (t ++ u) σ σ2 e e2 :=
  ⟨fun vs h => (b.wp vs fun i hi => h i (List.mem_append_right _ hi)).trans (a.wp vs fun i hi => h i (List.mem_append_left _ hi)), fun B H o => b.ow B H (a.ow B H o)⟩
abbrev Bt := D → Env → Res Env
abbrev Bts := List D → Env → Res Env
def bNm (i : Nat) : Bt := fun d env => .ok (env.set i (.sh d))
def bsNil : Bts := fun ds env => match ds with
  | [] => .ok env
  | _ => .no
def bsCons (b : Bt) (r : Bts) : Bts := fun ds env => match ds with
  | d :: ds => (b d env).bind fun e => r ds e
  | [] => .no
def bTup (r : Bts) : Bt := fun d env => match d with
  | .tup ds => r ds env
  | _ => .no
def tG (K : PySem.W.Frag) (ts : List Nat) (b : Bt) : TG := fun v σ H Q => ∃ A env d, ER K σ A H env ∧ Rep K A v d ∧ ∃ env', b d env = .ok env' ∧ ∀ σ', ER K σ' A H env' → Tgt ts σ σ' env env' → Q σ' H
def tGs (K : PySem.W.Frag) (ts : List Nat) (b : Bts) : TGs := fun vs σ H Q => ∃ A env ds, ER K σ A H env ∧ Reps K A vs ds ∧ ∃ env', b ds env = .ok env' ∧ ∀ σ', ER K σ' A H env' → Tgt ts σ σ' env env' → Q σ' H
theorem PG.imp {X : Cx} {e : Expr} {t t' : TG} (h : PG X e t) (i : ∀ v σ H Q, t' v σ H Q → t v σ H Q) : PG X e t' := ⟨fun pins s σ H v u Q I r w => h.run pins s σ H v u Q I r (i v σ H Q w)⟩
theorem PGs.imp {X : Cx} {e : List Expr} {t t' : TGs} (h : PGs X e t) (i : ∀ v σ H Q, t' v σ H Q → t v σ H Q) : PGs X e t' := ⟨fun pins s σ H v u Q I r w => h.run pins s σ H v u Q I r (i v σ H Q w)⟩
section
variable {X : Cx} {pos : Pos} {e : Expr} {es : List Expr} {b : Bt} {r : Bts} {ts us : List Nat}
theorem gd_name {i : Nat} {x : Str} (hN : X.N.Nodup) (hi : X.N[i]? = some x := by rfl) (hx : Loc X.env.scope x := by first | exact Or.inl rfl | exact Or.inr rfl) (hf : X.fn x = true ∨ X.env.scope.names.lookup x = some .local := by first | exact .inl rfl | exact .inr rfl | assumption) : PG X (.Name x pos) (tG X.K [i] (bNm i)) :=
  PG.imp (pg_name hN hi hx hf) fun v σ H Q h => by
    obtain ⟨A, env, d, er, rv, env', e1, k⟩ := h
    cases e1
    exact k _ (er.set rv) ⟨fun vs hv => wipe_set (hv i List.mem_cons_self), fun B H o => o.set⟩
theorem gds_nil : PGs X [] (tGs X.K [] bsNil) := PGs.imp pgs_nil fun v σ H Q h => by
  obtain ⟨A, env, ds, er, rv, env', e1, k⟩ := h
  cases ds with
  | nil =>
    cases rv
    cases e1
    exact ⟨rfl, k _ er Tgt.refl⟩
  | cons d ds => cases e1
theorem gds_cons (h1 : PG X e (tG X.K ts b)) (h2 : PGs X es (tGs X.K us r)) (ha : (assignEach (e :: es) X.env).map (·.2) = assign e X.env :: (assignEach es X.env).map (·.2) := by rfl) : PGs X (e :: es) (tGs X.K (ts ++ us) (bsCons b r)) := PGs.imp (pgs_cons h1 h2 ha) fun v σ H Q h => by
  obtain ⟨A, env, ds, er, rv, env', e1, k⟩ := h
  cases ds with
  | nil => cases e1
  | cons d ds =>
    cases rv with
    | cons rv rt =>
    have e1 : (b d env).bind (fun e => r ds e) = .ok env' := e1
    refine ⟨_, _, rfl, A, env, d, er, rv, ?_⟩
    cases e2 : b d env with
    | no => rw [e2] at e1; cases e1
    | ex C => rw [e2] at e1; cases e1
    | ok env1 =>
      rw [e2] at e1
      exact ⟨env1, rfl, fun σ1 er1 t1 => ⟨A, env1, ds, er1, rt, env', e1, fun σ2 er2 t2 => k σ2 er2 (t1.trans t2)⟩⟩
/-- how many -/
def BtN (n : Nat) (r : Bts) : Prop := ∀ ds env env', r ds env = .ok env' → ds.length = n
theorem btn_nil : BtN 0 bsNil := fun ds env env' h => by
  cases ds with
  | nil => rfl
  | cons d ds => cases h
theorem btn_cons {n : Nat} (h : BtN n r) : BtN (n + 1) (bsCons b r) := fun ds env env' e => by
  cases ds with
  | nil => cases e
  | cons d ds =>
    have e1 : (b d env).bind (fun e => r ds e) = .ok env' := e
    cases e2 : b d env with
    | no => rw [e2] at e1; cases e1
    | ex C => rw [e2] at e1; cases e1
    | ok env1 =>
      rw [e2] at e1
      rw [List.length_cons, h ds env1 env' e1]
theorem gd_tup {k n : Nat} (hc : X.calm = true) (h : PGs X es (tGs X.K ts r)) (hr : BtN n r) (hn : (assignEach es X.env).length = n := by rfl) (hst : (assignEach es X.env).findIdx? (·.1) = none := by rfl) : PG X (.Tuple es k pos) (tG X.K ts (bTup r)) :=
  PG.imp (pg_tup hc h hn hst) fun v σ H Q h => by
    obtain ⟨A, env, d, er, rv, env', e1, k⟩ := h
    cases d with
    | tup ds =>
      cases rv with
      | tup q rr =>
      exact ⟨_, _, rfl, Same.seqT er.sub q, by rw [rr.length]; exact hr _ _ _ e1, A, env, ds, er, rr, env', e1, k⟩
    | _ => cases e1
end
/-! ## what is walked -/
structure Yl (K : PySem.W.Frag) (H0 : Hp) (J : It) (ds : List D) : Prop where
  go : ∀ i A B, Same H0 A → Same A B → i < ds.length → J.go i B
  stop : ∀ A B, Same H0 A → Same A B → J.stop ds.length B
  yld : ∀ i A B x B', Same H0 A → Same A B → i < ds.length → J.yld i B x B' → ∃ d A', ds[i]? = some d ∧ Grow A B A' B' ∧ Rep K A' x d
theorem Yl.mono {K : PySem.W.Frag} {H0 H1 : Hp} {J : It} {ds : List D} (h : Yl K H0 J ds) (s : Same H0 H1) : Yl K H1 J ds :=
  ⟨fun i A B a b => h.go i A B (s.trans a) b, fun A B a b => h.stop A B (s.trans a) b, fun i A B x B' a b => h.yld i A B x B' (s.trans a) b⟩
abbrev tI (K : PySem.W.Frag) (W : WX) (f : Env → Res (List D)) : TI := tR K (fun A (J : It) ds => Yl K A J ds) W f
theorem PI.imp {X : Cx} {tg e : Expr} {t t' : TI} (h : PI X tg e t) (i : ∀ σ H Q, t' σ H Q → t σ H Q) : PI X tg e t' := ⟨fun pins s σ H Q I w => h.run pins s σ H Q I (i σ H Q w)⟩
def toL : D → Res (List D)
  | .lst xs => .ok xs
  | _ => .no
def toT : D → Res (List D)
  | .tup xs => .ok xs
  | _ => .no
def iL (fa : Env → Res D) : Env → Res (List D) := fun env => (fa env).bind toL
def iT (fa : Env → Res D) : Env → Res (List D) := fun env => (fa env).bind toT
def enumFrom : Nat → List D → List D
  | _, [] => []
  | n, d :: ds => .tup [.int (n : Nat), d] :: enumFrom (n + 1) ds
def iE (fl : Env → Res (List D)) : Env → Res (List D) := fun env => (fl env).bind fun as => match as with
  | [.lst xs] => .ok (enumFrom 0 xs)
  | _ => .no
def zipD : List D → List D → List D
  | x :: xs, y :: ys => .tup [x, y] :: zipD xs ys
  | _, _ => []
def iZ (fl : Env → Res (List D)) : Env → Res (List D) := fun env => (fl env).bind fun as => match as with
  | [.lst xs, .lst ys] => .ok (zipD xs ys)
  | _ => .no
def rangeD (lo n : Int) : List D := (List.range (n - lo).toNat).map fun (i : Nat) => .int (lo + i)
def iR1 (fl : Env → Res (List D)) : Env → Res (List D) := fun env => (fl env).bind fun as => match as with
  | [.int n] => if n ≤ 1000000 ∧ -1000000 ≤ n then .ok (rangeD 0 n) else .no
  | _ => .no
def iR2 (fl : Env → Res (List D)) : Env → Res (List D) := fun env => (fl env).bind fun as => match as with
  | [.int lo, .int n] => if (-1000000 ≤ lo ∧ lo ≤ 1000000) ∧ n ≤ 1000000 ∧ -1000000 ≤ n then .ok (rangeD lo n) else .no
  | _ => .no
theorem enumFrom_len : ∀ (n : Nat) (ds : List D), (enumFrom n ds).length = ds.length
  | _, [] => rfl
  | n, d :: ds => by
    show (enumFrom (n + 1) ds).length + 1 = ds.length + 1
    rw [enumFrom_len]
theorem enumFrom_get : ∀ (n : Nat) (ds : List D) (i : Nat), (enumFrom n ds)[i]? = (ds[i]?).map fun d => .tup [.int ((n + i : Nat) : Int), d]
  | _, [], i => by simp [enumFrom]
  | n, d :: ds, 0 => by simp [enumFrom]
  | n, d :: ds, i + 1 => by
    show (enumFrom (n + 1) ds)[i]? = (ds[i]?).map _
    rw [enumFrom_get (n + 1) ds i, show n + 1 + i = n + (i + 1) by omega]
theorem zipD_len : ∀ (xs ys : List D), (zipD xs ys).length = min xs.length ys.length
  | [], ys => by simp [zipD]
  | x :: xs, [] => by simp [zipD]
  | x :: xs, y :: ys => by
    show (zipD xs ys).length + 1 = min (xs.length + 1) (ys.length + 1)
    rw [zipD_len]; omega
theorem zipD_get : ∀ (xs ys : List D) (i : Nat) (x y : D), xs[i]? = some x → ys[i]? = some y → (zipD xs ys)[i]? = some (.tup [x, y])
  | [], ys, i, x, y, h, _ => by simp at h
  | x :: xs, [], i, _, _, _, h => by simp at h
  | x :: xs, y :: ys, 0, a, b, h1, h2 => by
    simp at h1 h2
    subst h1 h2
    rfl
  | x :: xs, y :: ys, i + 1, a, b, h1, h2 => zipD_get xs ys i a b (by simpa using h1) (by simpa using h2)
section
variable {X : Cx} {W : WX} {pos p tpos : Pos} {tg e : Expr} {elts : List Expr} {kk : Nat} {fa : Env → Res D} {fl : Env → Res (List D)}
theorem yl_list {K : PySem.W.Frag} {A : Hp} {a : Addr} {vs : List V} {ds : List D} (h : SqL K A a vs) (r : Reps K A vs ds) : Yl K A (Itl K a) ds := by
  have hl := r.length
  refine ⟨fun i B C s1 s2 hi => ?_, fun B C s1 s2 => ?_, fun i B C x C' s1 s2 hi y => ?_⟩
  · exact walk_list.goes i C (by omega) (Same.seq s2 (Same.seq s1 h))
  · rw [← hl]
    exact walk_list.stops C (Same.seq s2 (Same.seq s1 h))
  · obtain ⟨e1, e2⟩ := walk_list.yields i C x C' (by omega) (Same.seq s2 (Same.seq s1 h)) y
    subst e1
    obtain ⟨d, e3, rd⟩ := r.get' e2
    exact ⟨d, B, e3, Grow.refl s2, rd.mono s1⟩
theorem id_list (h : PE X e (tD X.K W fa)) : PI X tg e (tI X.K W (iL fa)) := PI.imp (pi_list h) fun σ H Q h => by
  obtain ⟨H0, env, er, k⟩ := h
  refine ⟨H0, env, er, Kt.seq er k fun x a A B gr er' rx k' => ?_⟩
  cases a with
  | lst ds =>
    cases rx with
    | lst q r =>
    exact ⟨_, rfl, ⟨_, Same.seq er'.sub q⟩, k' _ A B (Grow.refl er'.sub) (yl_list q r)⟩
  | _ => exact k'.elim
theorem yl_tup {K : PySem.W.Frag} {A : Hp} {a : Addr} {vs : List V} {ds : List D} (h : SqT K A a vs) (r : Reps K A vs ds) : Yl K A (Itt K a) ds := by
  have hl := r.length
  refine ⟨fun i B C s1 s2 hi => ?_, fun B C s1 s2 => ?_, fun i B C x C' s1 s2 hi y => ?_⟩
  · exact walk_tup.goes i C (by omega) (Same.seqT s2 (Same.seqT s1 h))
  · rw [← hl]
    exact walk_tup.stops C (Same.seqT s2 (Same.seqT s1 h))
  · obtain ⟨e1, e2⟩ := walk_tup.yields i C x C' (by omega) (Same.seqT s2 (Same.seqT s1 h)) y
    subst e1
    obtain ⟨d, e3, rd⟩ := r.get' e2
    exact ⟨d, B, e3, Grow.refl s2, rd.mono s1⟩
theorem id_tup (h : PE X e (tD X.K W fa)) : PI X tg e (tI X.K W (iT fa)) := PI.imp (pi_tup h) fun σ H Q h => by
  obtain ⟨H0, env, er, k⟩ := h
  refine ⟨H0, env, er, Kt.seq er k fun x a A B gr er' rx k' => ?_⟩
  cases a with
  | tup ds =>
    cases rx with
    | tup q r =>
    exact ⟨_, rfl, ⟨_, Same.seqT er'.sub q⟩, k' _ A B (Grow.refl er'.sub) (yl_tup q r)⟩
  | _ => exact k'.elim
theorem yl_enum {K : PySem.W.Frag} {A : Hp} {a : Addr} {vs : List V} {ds : List D} (h : SqL K A a vs) (r : Reps K A vs ds) : Yl K A (Ite K a) (enumFrom 0 ds) := by
  have hl := r.length
  refine ⟨fun i B C s1 s2 hi => ?_, fun B C s1 s2 => ?_, fun i B C x C' s1 s2 hi y => ?_⟩
  · rw [enumFrom_len] at hi
    exact walk_enum.goes i C (by omega) (Same.seq s2 (Same.seq s1 h))
  · rw [enumFrom_len, ← hl]
    exact walk_enum.stops C (Same.seq s2 (Same.seq s1 h))
  · rw [enumFrom_len] at hi
    obtain ⟨T, u, v, e1, e2, e3, e4, e5⟩ := walk_enum.yields i C x C' (by omega) (Same.seq s2 (Same.seq s1 h)) y
    subst e1 e3
    cases e4
    obtain ⟨d, e6, rd⟩ := r.get' e5
    refine ⟨.tup [.int (i : Nat), d], upd B T (.tup [.int (i : Nat), v]), ?_, Grow.new s2 e2, .tup (SqT.of upd_same) (.cons (.int _) (.cons ((rd.mono s1).mono (Grow.new (o := .tup _) s2 e2).s0) .nil))⟩
    rw [enumFrom_get, e6, Nat.zero_add]
    rfl
theorem id_enum (hg : Gl X "enumerate") (hm : X.mg "enumerate" = none) (ha : PA X [e] (tDs X.K W fl)) (hs : starEach [e] X.env = [(false, eval e X.env)] := by rfl) : PI X (.Tuple elts kk tpos) (.Call (.Name "enumerate" p) [e] [] pos) (tI X.K W (iE fl)) :=
  PI.imp (pi_enum hg hm ha hs) fun σ H Q h => by
  obtain ⟨H0, env, er, k⟩ := h
  refine ⟨H0, env, er, Kt.seq er k fun x a A B gr er' rx k' => ?_⟩
  match a, k', rx with
  | [.lst ds], k', rx =>
    obtain ⟨v, rfl, rv⟩ := reps1 rx
    cases rv with
    | lst q r =>
    exact ⟨_, _, rfl, Same.seq er'.sub q, k' _ A B (Grow.refl er'.sub) (yl_enum q r)⟩
theorem yl_zip {K : PySem.W.Frag} {A : Hp} {a b : Addr} {vs ws : List V} {ds es : List D} (h : SqL K A a vs) (r : Reps K A vs ds) (h2 : SqL K A b ws) (r2 : Reps K A ws es) : Yl K A (Itz K a b) (zipD ds es) := by
  have hl := r.length
  have hl2 := r2.length
  have w := walk_zip (K := K) (a := a) (b := b) (xs := vs) (ys := ws) rfl
  refine ⟨fun i B C s1 s2 hi => ?_, fun B C s1 s2 => ?_, fun i B C x C' s1 s2 hi y => ?_⟩
  · rw [zipD_len] at hi
    exact w.goes i C (by omega) ⟨Same.seq s2 (Same.seq s1 h), Same.seq s2 (Same.seq s1 h2)⟩
  · rw [zipD_len, ← hl, ← hl2]
    exact w.stops C ⟨Same.seq s2 (Same.seq s1 h), Same.seq s2 (Same.seq s1 h2)⟩
  · rw [zipD_len] at hi
    obtain ⟨T, u, v, e1, e2, e3, e4, e5⟩ := w.yields i C x C' (by omega) ⟨Same.seq s2 (Same.seq s1 h), Same.seq s2 (Same.seq s1 h2)⟩ y
    subst e1 e3
    obtain ⟨d, e6, rd⟩ := r.get' e4
    obtain ⟨d2, e7, rd2⟩ := r2.get' e5
    have s3 := (Grow.new (o := .tup [u, v]) s2 e2).s0
    exact ⟨.tup [d, d2], upd B T (.tup [u, v]), zipD_get _ _ _ _ _ e6 e7, Grow.new s2 e2, .tup (SqT.of upd_same) (.cons ((rd.mono s1).mono s3) (.cons ((rd2.mono s1).mono s3) .nil))⟩
theorem id_zip {e2 : Expr} (hg : Gl X "zip") (hm : X.mg "zip" = none) (ha : PA X [e, e2] (tDs X.K W fl)) (hs : starEach [e, e2] X.env = (false, eval e X.env) :: starEach [e2] X.env := by rfl) (hpl : (backTo pos (starEach [e2] X.env)).any (·.1) = false := by rfl) :
    PI X (.Tuple elts kk tpos) (.Call (.Name "zip" p) [e, e2] [] pos) (tI X.K W (iZ fl)) :=
  PI.imp (pi_zip hg hm ha hs hpl) fun σ H Q h => by
  obtain ⟨H0, env, er, k⟩ := h
  refine ⟨H0, env, er, Kt.seq er k fun x a A B gr er' rx k' => ?_⟩
  match a, k', rx with
  | [.lst ds, .lst es], k', rx =>
    obtain ⟨v, w, rfl, rv, rw'⟩ := reps2 rx
    cases rv with
    | lst q r =>
    cases rw' with
    | lst q2 r2 =>
    exact ⟨_, _, _, _, rfl, Same.seq er'.sub q, Same.seq er'.sub q2, k' _ A B (Grow.refl er'.sub) (yl_zip q r q2 r2)⟩
theorem yl_range {K : PySem.W.Frag} {A : Hp} {lo n : Int} : Yl K A (Itr lo (n - lo).toNat) (rangeD lo n) := by
  have hl : (rangeD lo n).length = (n - lo).toNat := by
    unfold rangeD
    rw [List.length_map, List.length_range]
  refine ⟨fun i B C s1 s2 hi => ?_, fun B C s1 s2 => ?_, fun i B C x C' s1 s2 hi y => ?_⟩
  · rw [hl] at hi
    exact hi
  · rw [hl]
    exact Nat.le_refl _
  · rw [hl] at hi
    obtain ⟨e1, e2⟩ := y
    subst e1 e2
    refine ⟨.int (lo + i), B, ?_, Grow.refl s2, .int _⟩
    unfold rangeD
    rw [List.getElem?_map, List.getElem?_range hi]
    rfl
theorem id_range1 (hg : Gl X "range") (hm : X.mg "range" = none) (ha : PA X [e] (tDs X.K W fl)) (hs : starEach [e] X.env = [(false, eval e X.env)] := by rfl) : PI X tg (.Call (.Name "range" p) [e] [] pos) (tI X.K W (iR1 fl)) :=
  PI.imp (pi_range1 hg hm ha hs) fun σ H Q h => by
  obtain ⟨H0, env, er, k⟩ := h
  refine ⟨H0, env, er, Kt.seq er k fun x a A B gr er' rx k' => ?_⟩
  match a, k', rx with
  | [.int n], k', r =>
    obtain ⟨v, rfl, rv⟩ := reps1 r
    cases rv
    have k : Kt (fun A (J : It) ds => Yl X.K A J ds) W σ A B (if n ≤ 1000000 ∧ -1000000 ≤ n then .ok (rangeD 0 n) else .no) Q := k'
    by_cases c : n ≤ 1000000 ∧ -1000000 ≤ n
    · rw [if_pos c] at k
      refine ⟨n, rfl, by omega, by omega, ?_⟩
      have z := yl_range (K := X.K) (A := A) (lo := 0) (n := n)
      rw [Int.sub_zero] at z
      exact k _ A B (Grow.refl er'.sub) z
    · rw [if_neg c] at k
      exact k.elim
theorem id_range2 {e2 : Expr} (hg : Gl X "range") (hm : X.mg "range" = none) (ha : PA X [e, e2] (tDs X.K W fl)) (hs : starEach [e, e2] X.env = [(false, eval e X.env), (false, eval e2 X.env)] := by rfl) (hs2 : starEach [e2] X.env = [(false, eval e2 X.env)] := by rfl) : PI X tg (.Call (.Name "range" p) [e, e2] [] pos) (tI X.K W (iR2 fl)) :=
  PI.imp (pi_range2 hg hm ha hs hs2) fun σ H Q h => by
  obtain ⟨H0, env, er, k⟩ := h
  refine ⟨H0, env, er, Kt.seq er k fun x a A B gr er' rx k' => ?_⟩
  match a, k', rx with
  | [.int lo, .int n], k', r =>
    obtain ⟨v, w, rfl, rv, rw'⟩ := reps2 r
    cases rv
    cases rw'
    have k : Kt (fun A (J : It) ds => Yl X.K A J ds) W σ A B (if (-1000000 ≤ lo ∧ lo ≤ 1000000) ∧ n ≤ 1000000 ∧ -1000000 ≤ n then .ok (rangeD lo n) else .no) Q := k'
    by_cases c : (-1000000 ≤ lo ∧ lo ≤ 1000000) ∧ n ≤ 1000000 ∧ -1000000 ≤ n
    · rw [if_pos c] at k
      exact ⟨lo, n, rfl, by omega, k _ A B (Grow.refl er'.sub) yl_range⟩
    · rw [if_neg c] at k
      exact k.elim
end
/-! ## list comprehensions -/
def bYes : Env → Res Bool := fun _ => .ok true
def compS (bt : Bt) (ft : Env → Res Bool) (fe : Env → Res D) (env : Env) : List D → Res (List D)
  | [] => .ok []
  | d :: ds => (bt d env).bind fun env1 => (ft env1).bind fun b => if b = true then (fe env1).bind fun y => (compS bt ft fe env ds).bind fun r => .ok (y :: r) else compS bt ft fe env ds
def eLC (vs : List Nat) (bt : Bt) (ft : Env → Res Bool) (fe : Env → Res D) (fi : Env → Res (List D)) : Env → Res D := fun env => (fi env).bind fun ds => if ds.length ≤ 1000000 then (match compS bt ft fe (wipeE env vs) ds with
  | .ok r => .ok (.lst r)
  | _ => .no) else .no
abbrev W0 : WX := fun _ _ _ _ => False
theorem Grow.put {H0 H A B : Hp} {p : Addr} {o : HO} (g : Grow H0 H A B) (hp : H p = none) (ha : A p = none) : Grow H0 H A (upd B p o) where
  s0 := g.s0
  s := fun b x e => by
    rw [upd_ne (ne_of_none e hp)]
    exact g.s b x e
  sub := fun b x e => by
    rw [upd_ne (ne_of_none e ha)]
    exact g.sub b x e
  fr := g.fr
theorem Grow.know {H0 H A B : Hp} {p : Addr} {o : HO} (g : Grow H0 H A B) (hp : H p = none) (ha : A p = none) (hb : B p = some o) : Grow H0 H (upd A p o) B where
  s0 := g.s0.trans (Same.new ha)
  s := g.s
  sub := fun b x e => by
    by_cases hq : b = p
    · subst hq
      rw [upd_same] at e
      cases e
      exact hb
    · rw [upd_ne hq] at e
      exact g.sub b x e
  fr := fun q hq e => by
    have ne : q ≠ p := fun z => hq (by rw [z]; exact hp)
    rw [upd_ne ne]
    exact g.fr q hq e
theorem t_lc {K : PySem.W.Frag} {W : WX} {σ : L2.St} {H : Hp} {Q : VK} {vs ts : List Nat} {bt : Bt} {ft : Env → Res Bool} {fe : Env → Res D} {fi : Env → Res (List D)} (hts : ∀ i ∈ ts, i ∈ vs) (h : tD K W (eLC vs bt ft fe fi) σ H Q) :
    tLc (tI K W fi) (tG K ts bt) (tDB K W0 ft) (tD K W0 fe) vs σ H Q := by
  obtain ⟨H0, env, er, k⟩ := h
  refine ⟨H0, env, er, Kt.seq er k fun J ds A B gr er' yl k' => ?_⟩
  intro P hP
  by_cases hlen : ds.length ≤ 1000000
  · rw [if_pos hlen] at k'
    cases e : compS bt ft fe (wipeE env vs) ds with
    | no => rw [e] at k'; exact k'.elim
    | ex C => rw [e] at k'; exact k'.elim
    | ok tot =>
      rw [e] at k'
      have hA : A P = none := Same.free er'.sub hP
      refine ⟨fun i m H' => m = ds.length - i ∧ i ≤ ds.length ∧ ∃ A' acc ys rest, Grow A B A' H' ∧ H' P = some (.lst acc) ∧ A' P = none ∧ Reps K A' acc ys ∧ compS bt ft fe (wipeE env vs) (ds.drop i) = .ok rest ∧ ys ++ rest = tot ∧ ys.length ≤ i,
        ⟨ds.length, rfl, Nat.zero_le _, A, [], [], tot, (Grow.refl er'.sub).put hP hA, upd_same, hA, .nil, e, rfl, Nat.le_refl _⟩, ?_⟩
      rintro i m H' ⟨rfl, hi, A', acc, ys, rest, g, hp, ha, ra, hc, ht, hy⟩
      by_cases hlt : i < ds.length
      · refine .inr ⟨yl.go i A' H' g.s0 g.sub hlt, _, fun H'' p => ⟨ds.length - (i + 1), by omega, rfl, hlt, p⟩, fun x H'' yd => ?_⟩
        obtain ⟨d, A2, hd, g2, rx⟩ := yl.yld i A' H' x H'' g.s0 g.sub hlt yd
        have ed : ds.drop i = d :: ds.drop (i + 1) := by
          rw [List.drop_eq_getElem_cons hlt]
          rw [List.getElem?_eq_getElem hlt] at hd
          cases hd
          rfl
        rw [ed] at hc
        have hc : (bt d (wipeE env vs)).bind (fun env1 => (ft env1).bind fun b => if b = true then (fe env1).bind fun y => (compS bt ft fe (wipeE env vs) (ds.drop (i + 1))).bind fun r => .ok (y :: r) else compS bt ft fe (wipeE env vs) (ds.drop (i + 1))) = .ok rest := hc
        cases e1 : bt d (wipeE env vs) with
        | no => rw [e1] at hc; cases hc
        | ex C => rw [e1] at hc; cases hc
        | ok env1 =>
          rw [e1] at hc
          have hc : (ft env1).bind (fun b => if b = true then (fe env1).bind fun y => (compS bt ft fe (wipeE env vs) (ds.drop (i + 1))).bind fun r => .ok (y :: r) else compS bt ft fe (wipeE env vs) (ds.drop (i + 1))) = .ok rest := hc
          have hp2 : H'' P = some (.lst acc) := g2.s _ _ hp
          have ha2 : A2 P = none := g2.fr P (by rw [hp]; exact fun z => nomatch z) ha
          refine ⟨A2, wipeE env vs, d, ER.wipe (er'.grow (g.trans g2)) vs, rx, env1, e1, fun σ2 er2 tg => ⟨?_, ?_⟩⟩
          · rw [tg.wp vs hts, wipe_wipe]
          · refine ⟨A2, env1, er2, ?_⟩
            cases e2 : ft env1 with
            | no => rw [e2] at hc; cases hc
            | ex C => rw [e2] at hc; cases hc
            | ok b =>
              rw [e2] at hc
              intro b' A3 H3 g3 eb
              cases (show b' = b from eb)
              have hp3 : H3 P = some (.lst acc) := g3.s _ _ hp2
              have ha3 : A3 P = none := g3.fr P (by rw [hp2]; exact fun z => nomatch z) ha2
              have g13 : Grow A B A3 H3 := (g.trans g2).trans g3
              cases b with
              | false =>
                refine iteF ⟨A3, acc, ys, rest, g13, hp3, ha3, (ra.mono g2.s0).mono g3.s0, hc, ht, Nat.le_succ_of_le hy⟩
              | true =>
                refine iteT ⟨A3, env1, er2.grow g3, ?_⟩
                have hc : (fe env1).bind (fun y => (compS bt ft fe (wipeE env vs) (ds.drop (i + 1))).bind fun r => .ok (y :: r)) = .ok rest := hc
                cases e3 : fe env1 with
                | no => rw [e3] at hc; cases hc
                | ex C => rw [e3] at hc; cases hc
                | ok y =>
                  rw [e3] at hc
                  intro v A4 H4 g4 rv
                  have hp4 : H4 P = some (.lst acc) := g4.s _ _ hp3
                  have ha4 : A4 P = none := g4.fr P (by rw [hp3]; exact fun z => nomatch z) ha3
                  cases e4 : compS bt ft fe (wipeE env vs) (ds.drop (i + 1)) with
                  | no => simp only [e4, Res.bind_ok, Res.bind_no] at hc; cases hc
                  | ex C => simp only [e4, Res.bind_ok, Res.bind_ex] at hc; cases hc
                  | ok rest' =>
                    simp only [e4, Res.bind_ok] at hc
                    cases hc
                    have r4 := ((ra.mono g2.s0).mono g3.s0).mono g4.s0
                    refine ⟨acc, hp4, ?_, A4, acc ++ [v], ys ++ [y], rest', ((g13.trans g4).put hP ha4), upd_same, ha4, r4.append (.cons rv .nil), rfl, ?_, ?_⟩
                    · rw [ra.length]
                      exact sz_lt (by omega)
                    · rw [List.append_assoc]
                      exact ht
                    · rw [List.length_append]
                      exact Nat.succ_le_succ hy
      · have ei : i = ds.length := by omega
        subst ei
        refine .inl ⟨yl.stop A' H' g.s0 g.sub, ?_⟩
        rw [List.drop_length] at hc
        cases hc
        rw [List.append_nil] at ht
        subst ht
        exact k' _ (upd A' P (.lst acc)) H' (g.know hP ha hp) (.lst (SqL.of upd_same) (ra.mono (Same.new ha)))
  · rw [if_neg hlen] at k'
    exact k'.elim
section
variable {X : Cx} {W : WX} {elt tg iter : Expr} {ifs : List Expr} {scope : Scope} {own : List (Str × Nat)} {pos : Pos} {bt : Bt} {ft : Env → Res Bool} {fe : Env → Res D} {fi : Env → Res (List D)} {ts : List Nat}
theorem ptsd_nil {X : Cx} {W : WX} : PTs X [] (tDB X.K W bYes) := ⟨fun pins s σ H Q I h => pts_nil.run pins s σ H Q I (by
  obtain ⟨H0, env, er, k⟩ := h
  exact k true H0 H (Grow.refl er.sub) rfl)⟩
theorem ptsd_one {X : Cx} {W : WX} {c : Expr} {fc : Env → Res Bool} (h : PT X c (tDB X.K W fc)) : PTs X [c] (tDB X.K W fc) := pts_one h
theorem pd_lc (hc : X.calm = true) (hN : X.N.Nodup) (hi : PI X tg iter (tI X.K W fi)) (ok : BlkOk X.N X.env.scope scope own) (hts : ∀ i ∈ ts, i ∈ own.map (·.2))
    (hg : ∀ (s : Shared) (H : Hp) (C : Addr) (cl : List (Str × Addr)) (fp : List Addr), PG (X.blk s H scope (compEnvC scope cl C X.env) fp) tg (tG X.K ts bt)) (ht : ∀ (s : Shared) (H : Hp) (C : Addr) (cl : List (Str × Addr)) (fp : List Addr), PTs (X.blk s H scope (compEnvC scope cl C X.env) fp) ifs (tDB X.K W0 ft))
    (he : ∀ (s : Shared) (H : Hp) (C : Addr) (cl : List (Str × Addr)) (fp : List Addr), PE (X.blk s H scope (compEnvC scope cl C X.env) fp) elt (tD X.K W0 fe)) (hs : ∀ x, foldedSetIterable iter X.env x = pure x := by intro _; rfl) :
    PE X (.ListComp elt [⟨tg, iter, ifs, 0⟩] scope pos) (tD X.K W (eLC (own.map (·.2)) bt ft fe fi)) := PE.imp (pe_lc hc hN hi ok hg ht he hs) fun _ _ _ h => t_lc hts h
end
/-! ## calls of defs -/
def spD (K : PySem.W.Frag) (n : Nat) (φ : List D → Res D) : Sp := fun vs H Q E => ∃ H0 ds, Same H0 H ∧ Reps K H0 vs ds ∧ ds.length = n ∧ Kt (rD K) (fun c d _ H => E c d H) [] H0 H (φ ds) Q
theorem spD_len {K : PySem.W.Frag} {n : Nat} {φ : List D → Res D} {ps : List Str} (h : ps.length = n) : ∀ vs H Q E, spD K n φ vs H Q E → vs.length = ps.length := fun vs H Q E ⟨H0, ds, _, r, l, _⟩ => by
  rw [r.length, l, h]
/-- a promise told by another function of the data -/
theorem spD_imp {K : PySem.W.Frag} {n : Nat} {φ ψ : List D → Res D} (h : ∀ ds, ψ ds = φ ds ∨ ψ ds = .no) : ∀ vs H Q E, spD K n ψ vs H Q E → spD K n φ vs H Q E := fun vs H Q E ⟨H0, ds, s, r, l, k⟩ => ⟨H0, ds, s, r, l, by
  rcases h ds with e | e
  · rw [← e]; exact k
  · rw [e] at k; exact k.elim⟩
theorem t_call {K : PySem.W.Frag} {W : WX} {σ : L2.St} {H : Hp} {Q : VK} {n : Nat} {φ : List D → Res D} {fl : Env → Res (List D)} (hn : ∀ env ds, fl env = .ok ds → ds.length = n) (h : tD K W (eCall φ fl) σ H Q) : tCallS (spD K n φ) (WE W) (tDs K W fl) σ H Q := by
  obtain ⟨H0, env, er, k⟩ := h
  refine ⟨H0, env, er, ?_⟩
  have hl := hn env
  unfold eCall at k
  cases e : fl env with
  | no => rw [e] at k; exact k
  | ex C => rw [e] at k; exact k
  | ok ds =>
    rw [e] at k
    intro xs A B g r
    refine ⟨A, ds, g.sub, r, hl ds e, ?_⟩
    have k2 := Kt.shift g k
    cases e2 : φ ds with
    | no => rw [Res.bind_ok, e2] at k2; exact k2
    | ex C => rw [Res.bind_ok, e2] at k2; exact k2
    | ok d => rw [Res.bind_ok, e2] at k2; exact k2
def ArgE (n : Nat) (f : Env → Res (List D)) : Prop := ∀ env ds, f env = .ok ds → ds.length = n
theorem arge_nil : ArgE 0 aNil := fun env ds h => by
  cases h
  rfl
theorem arge_cons {n : Nat} {fa : Env → Res D} {fl : Env → Res (List D)} (h : ArgE n fl) : ArgE (n + 1) (aCons fa fl) := fun env ds e => by
  unfold aCons at e
  cases e1 : fa env with
  | no => rw [e1] at e; cases e
  | ex C => rw [e1] at e; cases e
  | ok a =>
    rw [e1] at e
    cases e2 : fl env with
    | no => rw [e2] at e; cases e
    | ex C => rw [e2] at e; cases e
    | ok r =>
      rw [e2] at e
      cases e
      rw [List.length_cons, h env r e2]
theorem ArgE.le {n : Nat} {f : Env → Res (List D)} (h : ArgE n f) : ArgN n f := fun env ds e => Nat.le_of_eq (h env ds e)
section
variable {X : Cx} {W : WX} {k n : Nat} {f : Addr} {fd : FuncData} {ps : List Str} {φ : List D → Res D} {x : Str} {p pos : Pos} {e : Expr} {es : List Expr} {fl : Env → Res (List D)}
theorem pd_call (F : FnOk X.prog X.w X.K X.mg X.base (L2N.CX X.prog X.w) k f fd ps (spD X.K n φ)) (hr : Room k X.A) (tk : L2N.Takes X W) (hg : Gl X x) (hm : X.mg x = some (.ref f)) (hk : PySem.W.keepIn X.K (.ref f) = true) (hb : Binds X.K fd ps [])
    (ha : PA X (e :: es) (tDs X.K W fl)) (hn : ArgE n fl) (hdb : (x == ("__debug__" : Str)) = false := by decide) (he : starEach (e :: es) X.env = (false, eval e X.env) :: starEach es X.env := by rfl) (hpl : (backTo pos (starEach es X.env)).any (·.1) = false := by rfl) :
    PE X (.Call (.Name x p) (e :: es) [] pos) (tD X.K W (eCall φ fl)) := PE.imp (pe_callS F hr hg hm hk hb (fun σ => L2N.passAt tk σ) ha hdb he hpl) fun _ _ _ h => t_call hn h
end
end Dt
namespace Dt
open PySem PySem.Spec PyProof.Rows L2
/-! ## statements -/
inductive Fl where
  | nx (e : Env) | rt (d : D) | bk (e : Env) | ct (e : Env)
/-- what holds of the known part and the heap all along; P: of one's own addresses -/
structure Gd (G : Hp → Hp → Prop) (P : Addr → Prop) : Prop where
  grow : ∀ {A H A' H'}, G A H → Grow A H A' H' → G A' H'
  put : ∀ {A H p o}, G A H → A p = none → P p → G A (upd H p o)
  know : ∀ {A H p o}, G A H → A p = none → H p = some o → P p → G (upd A p o) H
  fresh : ∀ {A H p}, G A H → H p = none → P p
structure Stt (K : PySem.W.Frag) (G : Hp → Hp → Prop) (P : Addr → Prop) (σ : L2.St) (A H : Hp) (env : Env) : Prop where
  er : ER K σ A H env
  ow : OwnB P H σ env
  g : G A H
def KS (K : PySem.W.Frag) (W : WX) (G : Hp → Hp → Prop) (P : Addr → Prop) (Dd : Ends) : Res Fl → Prop
  | .no => False
  | .ex C => ∀ σ A H, G A H → W (.ref C) none σ H
  | .ok (.nx env) => ∀ σ A H, Stt K G P σ A H env → Dd.nx σ H
  | .ok (.bk env) => ∀ σ A H, Stt K G P σ A H env → Dd.bk σ H
  | .ok (.ct env) => ∀ σ A H, Stt K G P σ A H env → Dd.ct σ H
  | .ok (.rt d) => ∀ v A H, G A H → Rep K A v d → Dd.rt v H
def tS (K : PySem.W.Frag) (W : WX) (G : Hp → Hp → Prop) (P : Addr → Prop) (g : Env → Res Fl) : TS := fun Dd σ H => ∃ A env, Stt K G P σ A H env ∧ KS K W G P Dd (g env)
def sNil : Env → Res Fl := fun env => .ok (.nx env)
def sSeq (g1 g2 : Env → Res Fl) : Env → Res Fl := fun env => match g1 env with
  | .ok (.nx e) => g2 e
  | r => r
def bOk {α : Type} (r : Res Env) (k : Env → Res α) : Res α := match r with
  | .ok e => k e
  | _ => .no
@[simp] theorem bOk_ok {α : Type} (e : Env) (k : Env → Res α) : bOk (.ok e) k = k e := rfl
def sAsg (fa : Env → Res D) (bt : Bt) : Env → Res Fl := fun env => (fa env).bind fun d => bOk (bt d env) fun e => .ok (.nx e)
def sPar (i j : Nat) (fl : Env → Res (List D)) : Env → Res Fl := fun env => (fl env).bind fun ds => match ds with
  | [a, b] => .ok (.nx ((env.set i (.sh a)).set j (.sh b)))
  | _ => .no
def sRet (fa : Env → Res D) : Env → Res Fl := fun env => (fa env).bind fun d => .ok (.rt d)
def sRetN : Env → Res Fl := fun _ => .ok (.rt .non)
def sDrop (fa : Env → Res D) : Env → Res Fl := fun env => (fa env).bind fun _ => .ok (.nx env)
def sIf (fc : Env → Res Bool) (g1 g2 : Env → Res Fl) : Env → Res Fl := fun env => (fc env).bind fun c => if c = true then g1 env else g2 env
def sNever : Env → Res Fl := fun _ => .no
def sRaise (C : Addr) : Env → Res Fl := fun _ => .ex C
def forS (bt : Bt) (gb : Env → Res Fl) : List D → Env → Res Fl
  | [], env => .ok (.nx env)
  | d :: ds, env => bOk (bt d env) fun e => match gb e with
    | .ok (.nx e2) => forS bt gb ds e2
    | .ok (.ct e2) => forS bt gb ds e2
    | .ok (.bk e2) => .ok (.nx e2)
    | r => r
def sFor (fi : Env → Res (List D)) (bt : Bt) (gb : Env → Res Fl) : Env → Res Fl := fun env => (fi env).bind fun ds => forS bt gb ds env
def whileS (ft : Env → Res Bool) (gb : Env → Res Fl) : Nat → Env → Res Fl
  | 0, _ => .no
  | n + 1, env => (ft env).bind fun b => if b = true then (match gb env with
    | .ok (.nx e2) => whileS ft gb n e2
    | .ok (.ct e2) => whileS ft gb n e2
    | .ok (.bk e2) => .ok (.nx e2)
    | r => r) else .ok (.nx env)
def sWhile (nf : Env → Nat) (ft : Env → Res Bool) (gb : Env → Res Fl) : Env → Res Fl := fun env => whileS ft gb (nf env) env
section
variable {K : PySem.W.Frag} {W : WX} {G : Hp → Hp → Prop} {P : Addr → Prop} {σ : L2.St} {A H A' H' : Hp} {env : Env} {fa : Env → Res D} {Dd : Ends}
theorem Stt.grow (gd : Gd G P) (s : Stt K G P σ A H env) (g : Grow A H A' H') : Stt K G P σ A' H' env := ⟨s.er.grow g, s.ow.grow s.er g.s, gd.grow s.g g⟩
/-- an expression within a statement -/
theorem ks_seq {α β : Type} {R : Hp → β → α → Prop} {f : Env → Res α} {r : α → Res Fl} {Q : β → Hp → Prop} (gd : Gd G P) (s : Stt K G P σ A H env) (k : KS K W G P Dd ((f env).bind r))
    (h : ∀ x a A' H', Stt K G P σ A' H' env → R A' x a → KS K W G P Dd (r a) → Q x H') : tR K R W f σ H Q := by
  refine ⟨A, env, s.er, ?_⟩
  cases e : f env with
  | no => rw [e] at k; exact k
  | ex C =>
    rw [e] at k
    exact fun A' H' g => k σ A' H' (gd.grow s.g g)
  | ok a =>
    rw [e] at k
    exact fun x A' H' g q => h x a A' H' (s.grow gd g) q k
end
section
variable {X : Cx} {W : WX} {G : Hp → Hp → Prop} {P : Addr → Prop} {st : Stmt} {rest body : List Stmt} {g1 g2 gb : Env → Res Fl} {e a b c tg iter : Expr} {pos pos' px py pt : Pos} {fa : Env → Res D} {fc : Env → Res Bool} {fl fi : Env → Res (List D)} {bt : Bt} {ts : List Nat}
theorem sd_nil : PSs X [] (tS X.K W G P sNil) := PSs.imp pss_nil fun Dd σ H h => by
  obtain ⟨A, env, s, k⟩ := h
  exact k σ A H s
theorem sd_one (h : PS X st (tS X.K W G P g1)) : PSs X [st] (tS X.K W G P g1) := pss_one h
theorem sd_cons (h1 : PS X st (tS X.K W G P g1)) (h2 : PSs X rest (tS X.K W G P g2)) : PSs X (st :: rest) (tS X.K W G P (sSeq g1 g2)) := PSs.imp (pss_cons h1 h2) fun Dd σ H h => by
  obtain ⟨A, env, s, k⟩ := h
  refine ⟨A, env, s, ?_⟩
  unfold sSeq at k
  cases e : g1 env with
  | no => rw [e] at k; exact k
  | ex C => rw [e] at k; exact k
  | ok f =>
    rw [e] at k
    cases f with
    | nx e2 => exact fun σ' A' H' s' => ⟨A', e2, s', k⟩
    | rt d => exact k
    | bk e2 => exact k
    | ct e2 => exact k
theorem sd_asg (gd : Gd G P) (he : PE X e (tD X.K W fa)) (hg : PG X tg (tG X.K ts bt)) (hs : swapsWithSole [tg] e pos.line X.env = pure false := by rfl) (hw : swappedStores [tg] e X.env = pure none := by rfl)
    (h1 : (assignEach [tg] X.env).map (·.2) = [assign tg X.env] := by rfl) : PS X (.Assign [tg] e pos) (tS X.K W G P (sAsg fa bt)) := PS.imp (ps_asg he hg hs hw h1) fun Dd σ H h => by
  obtain ⟨A, env, s, k⟩ := h
  refine ks_seq gd s k fun x d A' H' s' rx k' => ⟨A', env, d, s'.er, rx, ?_⟩
  cases e1 : bt d env with
  | no => rw [e1] at k'; exact k'.elim
  | ex C => rw [e1] at k'; exact k'.elim
  | ok env' =>
    rw [e1] at k'
    exact ⟨env', rfl, fun σ' er tgt => k' σ' A' H' ⟨er, tgt.ow P _ s'.ow, s'.g⟩⟩
theorem gn_imp {K : PySem.W.Frag} {i : Nat} {te : TE} {Dd : Ends} {σ : L2.St} {H : Hp} (gd : Gd G P) (ht : ∀ σ H Q, tD K W fa σ H Q → te σ H Q) (h : tS K W G P (sAsg fa (bNm i)) Dd σ H) : tAsg te (gName i) Dd σ H := by
  obtain ⟨A, env, s, k⟩ := h
  exact ht _ _ _ (ks_seq gd s k fun x d A' H' s' rx k' => k' (σ.set i (some x)) A' H' ⟨s'.er.set rx, s'.ow.set, s'.g⟩)
/-- name = e -/
theorem sd_set (gd : Gd G P) {i : Nat} {x : Str} {pos' : Pos} (hN : X.N.Nodup) (he : PE X e (tD X.K W fa)) (hi : X.N[i]? = some x := by rfl) (hx : Loc X.env.scope x := by first | exact Or.inl rfl | exact Or.inr rfl) (hs : swapsWith e (some (.Name x pos')) pos.line X.env = pure false := by rfl) (hf : X.fn x = true ∨ X.env.scope.names.lookup x = some .local := by first | exact .inl rfl | exact .inr rfl | assumption) :
    PS X (.Assign [.Name x pos'] e pos) (tS X.K W G P (sAsg fa (bNm i))) := PS.imp (ps_set hN hi hx he hs hf) fun Dd σ H h => gn_imp gd (fun _ _ _ h => h) h
/-- name = [..] on one line -/
theorem sd_setLc (gd : Gd G P) {i : Nat} {y : Str} {py : Pos} {elt tg iter : Expr} {ifs : List Expr} {scope : Scope} {own : List (Str × Nat)} {pos spos : Pos} {ft : Env → Res Bool} {fe : Env → Res D} (hc : X.calm = true) (hN : X.N.Nodup) (hi : PI X tg iter (tI X.K W fi)) (ok : BlkOk X.N X.env.scope scope own) (hts : ∀ i ∈ ts, i ∈ own.map (·.2))
    (hg : ∀ (s : Shared) (H : Hp) (C : Addr) (cl : List (Str × Addr)) (fp : List Addr), PG (X.blk s H scope (compEnvC scope cl C X.env) fp) tg (tG X.K ts bt)) (ht : ∀ (s : Shared) (H : Hp) (C : Addr) (cl : List (Str × Addr)) (fp : List Addr), PTs (X.blk s H scope (compEnvC scope cl C X.env) fp) ifs (tDB X.K W0 ft))
    (he : ∀ (s : Shared) (H : Hp) (C : Addr) (cl : List (Str × Addr)) (fp : List Addr), PE (X.blk s H scope (compEnvC scope cl C X.env) fp) elt (tD X.K W0 fe))
    (hy : X.N[i]? = some y := by rfl) (hyl : X.env.scope.names.lookup y = some .local := by rfl)
    (hsw : swapsWith (.ListComp elt [⟨tg, iter, ifs, 0⟩] scope pos) (some (.Name y py)) spos.line X.env = pure true := by exact sw_true rfl rfl rfl (by decide +kernel)) (hs : ∀ x, foldedSetIterable iter X.env x = pure x := by intro _; rfl) :
    PS X (.Assign [.Name y py] (.ListComp elt [⟨tg, iter, ifs, 0⟩] scope pos) spos) (tS X.K W G P (sAsg (eLC (own.map (·.2)) bt ft fe fi) (bNm i))) := PS.imp (ps_setLc hc hN hy hyl hsw hi ok hg ht he hs) fun Dd σ H h => gn_imp gd (fun _ _ _ h => t_lc hts h) h
/-- a, b = e1, e2 -/
theorem sd_par (gd : Gd G P) {i j : Nat} {x y : Str} {kt k2 pt2} (hc : X.calm = true) (hN : X.N.Nodup) (ha : PA X [a, b] (tDs X.K W fl)) (hi : X.N[i]? = some x := by rfl) (hj : X.N[j]? = some y := by rfl) (hij : i ≠ j := by decide)
    (hx : X.env.scope.names.lookup x = some .local := by rfl) (hy : X.env.scope.names.lookup y = some .local := by rfl)
    (hw : swappedStores [.Tuple [.Name x px, .Name y py] kt pt] (.Tuple [a, b] k2 pt2) X.env = pure (some [x, y]) := by rfl)
    (hs : swapsWithSole [.Tuple [.Name x px, .Name y py] kt pt] (.Tuple [a, b] k2 pt2) pos.line X.env = pure false := by rfl) :
    PS X (.Assign [.Tuple [.Name x px, .Name y py] kt pt] (.Tuple [a, b] k2 pt2) pos) (tS X.K W G P (sPar i j fl)) := PS.imp (ps_par hc hN hi hj hij hx hy ha hw hs) fun Dd σ H h => by
  obtain ⟨A, env, s, k⟩ := h
  refine ks_seq gd s k fun vs ds A' H' s' r k' => ?_
  match ds, k', r with
  | [d1, d2], k', r =>
    obtain ⟨v, w, rfl, rv, rw'⟩ := reps2 r
    exact ⟨v, w, rfl, k' _ A' H' ⟨(s'.er.set rv).set rw', s'.ow.set.set, s'.g⟩⟩
theorem sd_ret (gd : Gd G P) (he : PE X e (tD X.K W fa)) : PS X (.Return (some e) pos) (tS X.K W G P (sRet fa)) := PS.imp (ps_ret he) fun Dd σ H h => by
  obtain ⟨A, env, s, k⟩ := h
  exact ks_seq gd s k fun x d A' H' s' r k' => k' x A' H' s'.g r
theorem sd_retN (gd : Gd G P) : PS X (.Return none pos) (tS X.K W G P sRetN) := PS.imp ps_retN fun Dd σ H h => by
  obtain ⟨A, env, s, k⟩ := h
  exact k .non A H s.g .non
theorem sd_drop (gd : Gd G P) (he : PE X e (tD X.K W fa)) (hs : swapsWith e none pos.line X.env = pure false := by rfl) : PS X (.Expr e pos) (tS X.K W G P (sDrop fa)) := PS.imp (ps_expr he hs) fun Dd σ H h => by
  obtain ⟨A, env, s, k⟩ := h
  exact ks_seq gd s k fun x d A' H' s' r k' => k' σ A' H' s'
theorem sd_doc {x : Str} {j : Nat} : PS X (.Expr (.Constant (.str x) j pos) pos') (tS X.K W G P sNil) := PS.imp ps_doc fun Dd σ H h => by
  obtain ⟨A, env, s, k⟩ := h
  exact k σ A H s
theorem sd_pass : PS X (.Pass pos) (tS X.K W G P sNil) := PS.imp ps_pass fun Dd σ H h => by
  obtain ⟨A, env, s, k⟩ := h
  exact k σ A H s
theorem sd_if (gd : Gd G P) {c : Expr} {p q : List Stmt} (hc : PT X c (tDB X.K W fc)) (ha : PSs X p (tS X.K W G P g1)) (hb : PSs X q (tS X.K W G P g2)) : PS X (.If c p q pos) (tS X.K W G P (sIf fc g1 g2)) := PS.imp (ps_if hc ha hb) fun Dd σ H h => by
  obtain ⟨A, env, s, k⟩ := h
  refine ks_seq gd s k fun x d A' H' s' r k' => ?_
  cases (show x = d from r)
  cases x with
  | true => exact iteT ⟨A', env, s', k'⟩
  | false => exact iteF ⟨A', env, s', k'⟩
theorem sd_never : PS X st (tS X.K W G P sNever) := PS.imp ps_never fun Dd σ H h => by
  obtain ⟨A, env, s, k⟩ := h
  exact k
theorem sd_raise (hc : X.calm = true) (tk : L2N.Takes X W) {C : Addr} {e : Expr} (hm : L2N.PMk X e (fun _ H Q => Q (.ref C) none H)) : PS X (.Raise (some e) none pos) (tS X.K W G P (sRaise C)) := PS.imp (L2N.ps_raise hc tk hm) fun Dd σ H h => by
  obtain ⟨A, env, s, k⟩ := h
  exact k σ A H s.g
/-- the same with one thing more said of the known part -/
theorem Gd.since (gd : Gd G P) (A0 : Hp) : Gd (fun A H => G A H ∧ Same A0 A) P where
  grow := fun h g => ⟨gd.grow h.1 g, h.2.trans g.s0⟩
  put := fun h ha hp => ⟨gd.put h.1 ha hp, h.2⟩
  know := fun h ha hb hp => ⟨gd.know h.1 ha hb hp, h.2.trans (Same.new ha)⟩
  fresh := fun h hp => gd.fresh h.1 hp
theorem sd_for (gd : Gd G P) (hp : PassesOwn (model X.prog X.w) X.A X.env X.xe) (hc : X.calm = true) (hi : PI X tg iter (tI X.K W fi)) (hg : PG X tg (tG X.K ts bt)) (hb : ∀ G', Gd G' P → PSs X body (tS X.K W G' P gb))
    (hs : ∀ x, foldedSetIterable iter X.env x = pure x := by intro _; rfl) : PS X (.For tg iter body [] pos) (tS X.K W G P (sFor fi bt gb)) := by
  refine ⟨fun pins s σ H Dd I h => ?_⟩
  obtain ⟨A, env, s0, k⟩ := h
  -- the known part at the walk's begin is not told yet: the body's reading says ∃ A0
  have body' : PSs X body (fun Dd σ H => ∃ A0, tS X.K W (fun A H => G A H ∧ Same A0 A) P gb Dd σ H) := ⟨fun pins s σ H Dd I h => by
    obtain ⟨A0, h⟩ := h
    exact (hb _ (gd.since A0)).run pins s σ H Dd I h⟩
  refine (ps_for hp hc hi hg body' hs).run pins s σ H Dd I ?_
  refine ks_seq gd s0 k fun J ds A1 H1 s1 yl k' => ?_
  refine ⟨fun i m σ H => m = ds.length - i ∧ i ≤ ds.length ∧ ∃ A env, Stt X.K (fun A H => G A H ∧ Same A1 A) P σ A H env ∧ KS X.K W G P Dd (forS bt gb (ds.drop i) env), ⟨ds.length, rfl, Nat.zero_le _, A1, env, ⟨s1.er, s1.ow, s1.g, Same.refl _⟩, k'⟩, ?_⟩
  rintro i m σ2 H2 ⟨rfl, hle, A2, env2, s2, k2⟩
  by_cases hlt : i < ds.length
  · refine .inr ⟨yl.go i A2 H2 s2.g.2 s2.er.sub hlt, fun σ' H' => ∃ A env, Stt X.K (fun A H => G A H ∧ Same A1 A) P σ' A H' env ∧ KS X.K W G P Dd (forS bt gb (ds.drop (i + 1)) env), fun σ' H' n => ⟨ds.length - (i + 1), by omega, rfl, hlt, n⟩, fun x H3 yd => ?_⟩
    obtain ⟨d, A3, hd, g3, rx⟩ := yl.yld i A2 H2 x H3 s2.g.2 s2.er.sub hlt yd
    have s3 := s2.grow (gd.since A1) g3
    have ed : ds.drop i = d :: ds.drop (i + 1) := by
      rw [List.drop_eq_getElem_cons hlt]
      rw [List.getElem?_eq_getElem hlt] at hd
      cases hd
      rfl
    rw [ed] at k2
    refine ⟨A3, env2, d, s3.er, rx, ?_⟩
    unfold forS at k2
    cases e1 : bt d env2 with
    | no => rw [e1] at k2; exact k2.elim
    | ex C => rw [e1] at k2; exact k2.elim
    | ok env3 =>
      rw [e1, bOk_ok] at k2
      refine ⟨env3, rfl, fun σ3 er3 tgt => ⟨A1, A3, env3, ⟨er3, tgt.ow P _ s3.ow, s3.g⟩, ?_⟩⟩
      cases e2 : gb env3 with
      | no => rw [e2] at k2; exact k2
      | ex C => rw [e2] at k2; exact fun σ A H g => k2 σ A H g.1
      | ok f =>
        rw [e2] at k2
        cases f with
        | nx e4 => exact fun σ A H s => ⟨A, e4, s, k2⟩
        | ct e4 => exact fun σ A H s => ⟨A, e4, s, k2⟩
        | bk e4 => exact fun σ A H s => k2 σ A H ⟨s.er, s.ow, s.g.1⟩
        | rt d => exact fun v A H g r => k2 v A H g.1 r
  · have ei : i = ds.length := by omega
    subst ei
    rw [List.drop_length] at k2
    exact .inl ⟨yl.stop A2 H2 s2.g.2 s2.er.sub, k2 σ2 A2 H2 ⟨s2.er, s2.ow, s2.g.1⟩⟩
theorem sd_while (gd : Gd G P) {c : Expr} (nf : Env → Nat) (hp : PassesOwn (model X.prog X.w) X.A X.env X.xe) (hc : PT X c (tDB X.K W fc)) (hb : PSs X body (tS X.K W G P gb)) : PS X (.While c body [] pos) (tS X.K W G P (sWhile nf fc gb)) := PS.imp (ps_while hp hc hb) fun Dd σ H h => by
  obtain ⟨A, env, s, k⟩ := h
  refine ⟨fun m σ H => ∃ A env, Stt X.K G P σ A H env ∧ KS X.K W G P Dd (whileS fc gb m env), ⟨nf env, A, env, s, k⟩, ?_⟩
  rintro m σ1 H1 ⟨A1, env1, s1, k1⟩
  cases m with
  | zero => exact k1.elim
  | succ m =>
    refine ks_seq gd s1 k1 fun x d A' H' s' r k' => ?_
    cases (show x = d from r)
    cases x with
    | false => exact iteF (k' σ1 A' H' s')
    | true =>
      have k' : KS X.K W G P Dd (match gb env1 with
        | .ok (.nx e2) => whileS fc gb m e2
        | .ok (.ct e2) => whileS fc gb m e2
        | .ok (.bk e2) => .ok (.nx e2)
        | r => r) := k'
      refine iteT ⟨fun σ H => ∃ A env, Stt X.K G P σ A H env ∧ KS X.K W G P Dd (whileS fc gb m env), fun σ' H' h => ⟨m, Nat.lt_succ_self m, h⟩, A', env1, s', ?_⟩
      cases e2 : gb env1 with
      | no => rw [e2] at k'; exact k'
      | ex C => rw [e2] at k'; exact k'
      | ok f =>
        rw [e2] at k'
        cases f with
        | nx e4 => exact fun σ A H s => ⟨A, e4, s, k'⟩
        | ct e4 => exact fun σ A H s => ⟨A, e4, s, k'⟩
        | bk e4 => exact k'
        | rt d => exact k'
/-! ### lists of one's own -/
def frz (i : Nat) (env : Env) : Env := match env[i]? with
  | some (.ow ds) => env.set i (.sh (.lst ds))
  | _ => env
theorem stt_frz {K : PySem.W.Frag} {σ : L2.St} {A H : Hp} {env : Env} (gd : Gd G P) (i : Nat) (s : Stt K G P σ A H env) : ∃ A', Stt K G P σ A' H (frz i env) := by
  unfold frz
  cases e : env[i]? with
  | none => exact ⟨A, s⟩
  | some sl =>
    cases sl with
    | no => exact ⟨A, s⟩
    | sh d => exact ⟨A, s⟩
    | oi C fs => exact ⟨A, s⟩
    | ow ds =>
      obtain ⟨p, vs, h1, h2, h3, h4, h5⟩ := s.er.freeze e
      exact ⟨_, h5, s.ow.frz, gd.know s.g h2 h1 (s.ow.l i ds p e h3)⟩
theorem sd_frz (gd : Gd G P) (i : Nat) (h : PSs X rest (tS X.K W G P g1)) : PSs X rest (tS X.K W G P fun env => g1 (frz i env)) := PSs.imp h fun Dd σ H h => by
  obtain ⟨A, env, s, k⟩ := h
  obtain ⟨A', s'⟩ := stt_frz gd i s
  exact ⟨A', _, s', k⟩
theorem sd_frz1 (gd : Gd G P) (i : Nat) (h : PS X st (tS X.K W G P g1)) : PS X st (tS X.K W G P fun env => g1 (frz i env)) := PS.imp h fun Dd σ H h => by
  obtain ⟨A, env, s, k⟩ := h
  obtain ⟨A', s'⟩ := stt_frz gd i s
  exact ⟨A', _, s', k⟩
/-- name = a written list: one's own -/
def sAsgO (i : Nat) (fl : Env → Res (List D)) : Env → Res Fl := fun env => (fl env).bind fun ds => .ok (.nx (env.set i (.ow ds)))
theorem stt_new {K : PySem.W.Frag} {σ : L2.St} {A H : Hp} {env : Env} {i : Nat} {p : Addr} {vs : List V} {ds : List D} (gd : Gd G P) (s : Stt K G P σ A H env) (hp : H p = none) (r : Reps K A vs ds) : Stt K G P (σ.set i (some (.ref p))) A (upd H p (.lst vs)) (env.set i (.ow ds)) := by
  have hA : A p = none := Same.free s.er.sub hp
  have g : Grow A H A (upd H p (.lst vs)) := (Grow.refl s.er.sub).put hp hA
  refine ⟨(s.er.grow g).setO upd_same hA r (fun j es e z => ?_) (s.er.newo g.s hp), (s.ow.grow s.er g.s).setO (gd.fresh s.g hp), gd.grow s.g g⟩
  obtain ⟨q, ws, h1, h2, _⟩ := s.er.ow j es e
  rw [z] at h1
  cases h1
  rw [hp] at h2
  cases h2
theorem sd_setO (gd : Gd G P) {i n : Nat} {x : Str} {es : List Expr} {pos' lpos : Pos} (hN : X.N.Nodup) (ha : PA X es (tDs X.K W fl)) (hn : ArgN n fl) (hz : n ≤ sizeLine := by decide) (hi : X.N[i]? = some x := by rfl) (hx : Loc X.env.scope x := by first | exact Or.inl rfl | exact Or.inr rfl) (hs : swapsWith (.List es lpos) (some (.Name x pos')) pos.line X.env = pure false := by rfl) (hf : X.fn x = true ∨ X.env.scope.names.lookup x = some .local := by first | exact .inl rfl | exact .inr rfl | assumption) :
    PS X (.Assign [.Name x pos'] (.List es lpos) pos) (tS X.K W G P (sAsgO i fl)) := PS.imp (ps_set hN hi hx (pe_lst ha) hs hf) fun Dd σ H h => by
  obtain ⟨A, env, s, k⟩ := h
  have hl := hn env
  refine ⟨A, env, s.er, ?_⟩
  unfold sAsgO at k
  cases e : fl env with
  | no => rw [e] at k; exact k
  | ex C => rw [e] at k; exact fun A' H' g => k σ A' H' (gd.grow s.g g)
  | ok ds =>
    rw [e] at k
    intro xs A' H' g r
    refine ⟨by rw [r.length]; exact Nat.le_trans (hl ds e) hz, fun p hp => ?_⟩
    exact k _ A' _ (stt_new gd (s.grow gd g) hp r)
/-- a, b = [..], [..]: two of one's own -/
def sParO (i j : Nat) (f1 f2 : Env → Res (List D)) : Env → Res Fl := fun env => (f1 env).bind fun a => (f2 env).bind fun b => .ok (.nx ((env.set i (.ow a)).set j (.ow b)))
theorem sd_parO (gd : Gd G P) {i j n m : Nat} {x y : Str} {es fs : List Expr} {p1 p2 : Pos} {f1 f2 : Env → Res (List D)} {kt k2 pt2} (hc : X.calm = true) (hN : X.N.Nodup) (ha : PA X es (tDs X.K W f1)) (hb : PA X fs (tDs X.K W f2)) (hn : ArgN n f1) (hm : ArgN m f2) (hz : n ≤ sizeLine := by decide) (hz2 : m ≤ sizeLine := by decide)
    (hi : X.N[i]? = some x := by rfl) (hj : X.N[j]? = some y := by rfl) (hij : i ≠ j := by decide)
    (hx : X.env.scope.names.lookup x = some .local := by rfl) (hy : X.env.scope.names.lookup y = some .local := by rfl)
    (he : starEach [.List es p1, .List fs p2] X.env = (false, eval (.List es p1) X.env) :: starEach [.List fs p2] X.env := by rfl) (he2 : starEach [.List fs p2] X.env = (false, eval (.List fs p2) X.env) :: starEach [] X.env := by rfl)
    (hw : swappedStores [.Tuple [.Name x px, .Name y py] kt pt] (.Tuple [.List es p1, .List fs p2] k2 pt2) X.env = pure (some [x, y]) := by rfl)
    (hs : swapsWithSole [.Tuple [.Name x px, .Name y py] kt pt] (.Tuple [.List es p1, .List fs p2] k2 pt2) pos.line X.env = pure false := by rfl) :
    PS X (.Assign [.Tuple [.Name x px, .Name y py] kt pt] (.Tuple [.List es p1, .List fs p2] k2 pt2) pos) (tS X.K W G P (sParO i j f1 f2)) :=
  PS.imp (ps_par hc hN hi hj hij hx hy (pa_cons (pe_lst ha) (pa_cons (pe_lst hb) pa_nil he2) he) hw hs) fun Dd σ H h => by
  obtain ⟨A, env, s, k⟩ := h
  have hl1 := hn env
  have hl2 := hm env
  refine ⟨A, env, s.er, ?_⟩
  unfold sParO at k
  cases e1 : f1 env with
  | no => rw [e1] at k; exact k
  | ex C => rw [e1] at k; exact fun A' H' g => k σ A' H' (gd.grow s.g g)
  | ok a =>
    rw [e1, Res.bind_ok] at k
    intro xs A' H' g r
    refine ⟨by rw [r.length]; exact Nat.le_trans (hl1 a e1) hz, fun p hp => ?_⟩
    have s1 := s.grow gd g
    have hA : A' p = none := Same.free s1.er.sub hp
    have gp : Grow A' H' A' (upd H' p (.lst xs)) := (Grow.refl s1.er.sub).put hp hA
    have s2 := s1.grow gd gp
    refine ⟨A', env, s2.er, ?_⟩
    cases e2 : f2 env with
    | no => rw [e2] at k; exact k
    | ex C => rw [e2] at k; exact fun A' H' g => k σ A' H' (gd.grow s2.g g)
    | ok b =>
      rw [e2, Res.bind_ok] at k
      intro ys A3 H3 g3 r3
      refine ⟨by rw [r3.length]; exact Nat.le_trans (hl2 b e2) hz2, fun q hq => ⟨_, _, rfl, ?_⟩⟩
      have s3 := s2.grow gd g3
      have hp3 : H3 p = some (.lst xs) := g3.s _ _ upd_same
      have ha3 : A3 p = none := g3.fr p (by rw [upd_same]; exact fun z => nomatch z) hA
      have pne : p ≠ q := ne_of_none hp3 hq
      have st4 : Stt X.K G P (σ.set i (some (.ref p))) A3 H3 (env.set i (.ow a)) := by
        refine ⟨s3.er.setO hp3 ha3 (r.mono (gp.trans g3).s0) (fun j es e z => ?_) (s1.er.newo (gp.trans g3).s hp), s3.ow.setO (gd.fresh s1.g hp), s3.g⟩
        obtain ⟨q', ws, h1, h2, h3, _⟩ := s1.er.ow j es e
        rw [z] at h1
        cases h1
        rw [hp] at h2
        cases h2
      exact k _ A3 _ (stt_new gd st4 hq r3)
/-- xs.append(e), xs one's own -/
def sApp (i : Nat) (fa : Env → Res D) : Env → Res Fl := fun env => match env[i]? with
  | some (.ow ds) => if ds.length < 1000000 then (fa env).bind fun d => .ok (.nx (env.set i (.ow (ds ++ [d])))) else .no
  | _ => .no
theorem sd_app (gd : Gd G P) (i : Nat) {x : Str} {xp apos cpos : Pos} (he : PE X e (tD X.K W fa)) (hi : X.N[i]? = some x := by rfl) (hv : Vis X.env.scope x := by first | exact Or.inl rfl | exact Or.inr (Or.inl rfl) | exact Or.inr (Or.inr rfl))
    (hse : starEach [e] X.env = (false, eval e X.env) :: starEach [] X.env := by rfl)
    (hbase : attributeBase (.Name x xp) "append" X.env (eval (.Name x xp) X.env) = eval (.Name x xp) X.env := by rfl)
    (hfew : ((backTo cpos (starEach [e] X.env)).all (fun x => !x.1) && (backToKw cpos (keywordEach [] X.env)).all (fun x => x.1.isSome)
      && decide (([e] : List Expr).length + ([] : List Keyword).length + (if ([] : List Keyword).isEmpty then 0 else 1) < 30)) = true := by rfl)
    (hline : (apos.endLine == cpos.line) = true := by rfl) (hplain : (backTo cpos (starEach ([] : List Expr) X.env)).any (·.1) = false := by rfl)
    (hsw : swapsWith (.Call (.Attribute (.Name x xp) "append" apos) [e] [] cpos) none pos.line X.env = pure false := by rfl)
    (hd : (x == ("__debug__" : Str)) = false := by decide) (hcd : (x == ("__classdict__" : Str)) = false := by decide) :
    PS X (.Expr (.Call (.Attribute (.Name x xp) "append" apos) [e] [] cpos) pos) (tS X.K W G P (sApp i fa)) :=
  PS.imp (ps_expr (pe_bm PySem.F.plainAttrs_list PySem.F.slot_list_append PySem.F.type_list_append mt_append (pe_var hi hv hd hcd) (pa_cons he pa_nil hse) hbase hfew hline hse hplain) hsw) fun Dd σ H h => by
  obtain ⟨A, env, s, k⟩ := h
  unfold sApp at k
  cases e1 : env[i]? with
  | none => rw [e1] at k; exact k.elim
  | some sl =>
    cases sl with
    | no => rw [e1] at k; exact k.elim
    | sh d => rw [e1] at k; exact k.elim
    | oi C fs => rw [e1] at k; exact k.elim
    | ow ds =>
      rw [e1] at k
      have k : KS X.K W G P Dd (if ds.length < 1000000 then (fa env).bind fun d => .ok (.nx (env.set i (.ow (ds ++ [d])))) else .no) := k
      by_cases hl : ds.length < 1000000
      · rw [if_pos hl] at k
        obtain ⟨p, vs, h1, h2, h3, h4⟩ := s.er.ow i ds e1
        refine ⟨.ref p, h1, .inl ⟨rfl, vs, SqL.of h2⟩, ?_⟩
        refine ks_seq (Q := fun x H' => ∃ l xs y, V.ref p = .ref l ∧ [x] = [y] ∧ H' l = some (.lst xs) ∧ xs.length < sizeLine ∧ Dd.nx σ (upd H' l (.lst (xs ++ [y])))) gd s k fun x d A' H' s' r k' => ?_
        obtain ⟨q, ws, g1, g2, g3, g4⟩ := s'.er.ow i ds e1
        rw [h1] at g1
        cases g1
        refine ⟨p, ws, x, rfl, rfl, g2, by rw [g4.length]; exact sz_lt hl, k' σ A' _ ⟨s'.er.put e1 h1 (g4.append (.cons r .nil)), s'.ow.put s'.er e1 h1, gd.put s'.g g3 (s'.ow.l i ds p e1 h1)⟩⟩
      · rw [if_neg hl] at k
        exact k.elim
/-! ### one's own list as a value that is only looked at -/
def viewS : Sl → Sl
  | .ow ds => .sh (.lst ds)
  | .oi C fs => .sh (.ins C (fs.map fun f => (f.1, .lst f.2)))
  | s => s
def view (env : Env) : Env := env.map viewS
def isSc : D → Bool
  | .non => true | .bl _ => true | .int _ => true | .str _ => true
  | _ => false
def eView (fa : Env → Res D) : Env → Res D := fun env => match fa (view env) with
  | .ok d => if isSc d = true then .ok d else .no
  | _ => .no
/-- what is one's own -/
def OwnP (H : Hp) (σ : L2.St) (env : Env) (a : Addr) : Prop := (∃ (i : Nat) (ds : List D), env[i]? = some (Sl.ow ds) ∧ σ[i]? = some (some (V.ref a))) ∨
  (∃ (i : Nat) (C : Addr) (fs : List (Str × List D)), env[i]? = some (Sl.oi C fs) ∧ ∃ x dx vfs, σ[i]? = some (some (V.ref x)) ∧ H x = some (.ins C dx vfs) ∧ (a = x ∨ ∃ n, (n, V.ref a) ∈ vfs))
theorem OwnP.no {K : PySem.W.Frag} {σ : L2.St} {A H : Hp} {env : Env} (r : ER K σ A H env) {a : Addr} (h : OwnP H σ env a) : A a = none := by
  rcases h with ⟨i, ds, h1, h2⟩ | ⟨i, C, fs, h1, x, dx, vfs, h2, h3, h4⟩
  · obtain ⟨p, vs, g1, g2, g3, g4⟩ := r.ow i ds h1
    rw [h2] at g1
    cases g1
    exact g3
  · obtain ⟨x', dx', vfs', g1, g2, g3, g4, _⟩ := r.oi i C fs h1
    rw [h2] at g1
    cases g1
    rw [h3] at g2
    cases g2
    rcases h4 with rfl | ⟨n, h4⟩
    · exact g3
    · exact (g4.mem h4).2
theorem RepL.repf {K : PySem.W.Frag} {A A' H : Hp} {vs : List (Str × V)} {fs : List (Str × List D)} (r : RepL K A H vs fs) (s : Same A A') (k : ∀ n q, (n, V.ref q) ∈ vs → A' q = H q) : Repf K A' vs (fs.map fun f => (f.1, .lst f.2)) := by
  induction r with
  | nil => exact .nil
  | cons h1 h2 h3 h4 _ ih => exact .cons (.lst (SqL.of ((k _ _ List.mem_cons_self).trans h1)) (h3.mono s)) (ih fun n q hq => k n q (List.mem_cons_of_mem _ hq))
theorem view_er {K : PySem.W.Frag} {σ : L2.St} {A H : Hp} {env : Env} (r : ER K σ A H env) : ∃ A', Same A A' ∧ ER K σ A' H (view env) := by
  classical
  have sm : Same A (fun a => if OwnP H σ env a then H a else A a) := fun a o e => by
    by_cases c : OwnP H σ env a
    · rw [c.no r] at e
      cases e
    · show (if _ then _ else _) = _
      rw [if_neg c]
      exact e
  refine ⟨fun a => if OwnP H σ env a then H a else A a, sm, ?_⟩
  have old : ∀ (i : Nat) (s : Sl), (view env)[i]? = some s → ∃ t, env[i]? = some t ∧ s = viewS t := fun i s e => by
    unfold view at e
    rw [List.getElem?_map] at e
    cases h : env[i]? with
    | none => rw [h] at e; cases e
    | some t =>
      rw [h] at e
      cases e
      exact ⟨t, rfl, rfl⟩
  refine ⟨fun a o e => ?_, by unfold view; rw [List.length_map, r.len], fun i d e => ?_, fun i ds e => ?_, fun i j ds es p e1 e2 => ?_, fun i C fs e => ?_, fun i j C C' fs fs' e => ?_⟩
  · by_cases c : OwnP H σ env a
    · simp only [if_pos c] at e
      exact e
    · simp only [if_neg c] at e
      exact r.sub a o e
  · obtain ⟨t, h1, h2⟩ := old i _ e
    cases t with
    | no => cases h2
    | sh d' =>
      cases h2
      obtain ⟨v, g1, g2⟩ := r.sh i _ h1
      exact ⟨v, g1, g2.mono sm⟩
    | ow ds =>
      cases h2
      obtain ⟨p, vs, g1, g2, g3, g4⟩ := r.ow i ds h1
      refine ⟨_, g1, .lst (SqL.of ?_) (g4.mono sm)⟩
      show (if _ then _ else _) = _
      rw [if_pos (.inl ⟨i, ds, h1, g1⟩)]
      exact g2
    | oi C fs =>
      cases h2
      obtain ⟨x, dx, vfs, g1, g2, g3, g4, _⟩ := r.oi i C fs h1
      refine ⟨_, g1, .ins (dx := dx) (fs := vfs) ?_ (g4.repf sm fun n q hq => ?_)⟩
      · show (if _ then _ else _) = _
        rw [if_pos (.inr ⟨i, C, fs, h1, x, dx, vfs, g1, g2, .inl rfl⟩)]
        exact g2
      · show (if _ then _ else _) = _
        rw [if_pos (.inr ⟨i, C, fs, h1, x, dx, vfs, g1, g2, .inr ⟨n, hq⟩⟩)]
  · obtain ⟨t, h1, h2⟩ := old i _ e
    cases t <;> cases h2
  · obtain ⟨t, h1, h2⟩ := old i _ e1
    cases t <;> cases h2
  · obtain ⟨t, h1, h2⟩ := old i _ e
    cases t <;> cases h2
  · obtain ⟨t, h1, h2⟩ := old i _ e
    cases t <;> cases h2
theorem pd_view {fa : Env → Res D} (h : PE X e (tD X.K W fa)) : PE X e (tD X.K W (eView fa)) := PE.imp h fun σ H Q h => by
  obtain ⟨A, env, er, k⟩ := h
  obtain ⟨A', sm, er'⟩ := view_er er
  refine ⟨A', view env, er', ?_⟩
  unfold eView at k
  cases e : fa (view env) with
  | no => rw [e] at k; exact k.elim
  | ex C => rw [e] at k; exact k.elim
  | ok d =>
    rw [e] at k
    have k : Kt (rD X.K) W σ A H (if isSc d = true then .ok d else .no) Q := k
    by_cases c : isSc d = true
    · rw [if_pos c] at k
      intro v B H' g r
      refine k v A H' (Grow.keep er.sub g.s) ?_
      cases d with
      | non => cases r; exact .non
      | bl b => cases r; exact .bl b
      | int b => cases r; exact .int b
      | str b => cases r; exact .str b
      | _ => exact absurd (show false = true from c) Bool.false_ne_true
    · rw [if_neg c] at k
      exact k.elim
end
/-! ## a def by its body -/
def envOf (n : Nat) (ds : List D) : Env := ds.map Sl.sh ++ List.replicate (n - ds.length) .no
def fin : Res Fl → Res D
  | .ok (.nx _) => .ok .non
  | .ok (.rt d) => .ok d
  | .ex C => .ex C
  | _ => .no
def run (n : Nat) (g : Env → Res Fl) (ds : List D) : Res D := fin (g (envOf n ds))
theorem er_start {K : PySem.W.Frag} {N : List Str} {vs : List V} {ds : List D} {A H : Hp} (s : Same A H) (r : Reps K A vs ds) : ER K (L2.start N vs) A H (envOf N.length ds) := by
  have hl := r.length
  have key : ∀ (i : Nat) (sl : Sl), (envOf N.length ds)[i]? = some sl → sl = .no ∨ ∃ d, ds[i]? = some d ∧ sl = .sh d := fun i sl e => by
    unfold envOf at e
    by_cases hi : i < ds.length
    · rw [List.getElem?_append_left (by simpa using hi), List.getElem?_map, List.getElem?_eq_getElem hi] at e
      cases e
      exact .inr ⟨_, List.getElem?_eq_getElem hi, rfl⟩
    · rw [List.getElem?_append_right (by simpa using hi), List.getElem?_replicate] at e
      split at e
      · cases e
        exact .inl rfl
      · cases e
  refine ⟨s, ?_, fun i d e => ?_, fun i es e => ?_, fun i j es fs p e => ?_, fun i C fs e => ?_, fun i j C C' fs fs' e => ?_⟩
  · unfold envOf L2.start
    rw [List.length_append, List.length_append, List.length_map, List.length_map, List.length_replicate, List.length_replicate, hl]
  · rcases key i _ e with z | ⟨d', h1, h2⟩
    · cases z
    · cases h2
      obtain ⟨v, g1, g2⟩ := r.get h1
      refine ⟨v, ?_, g2⟩
      unfold L2.start
      have hi : i < vs.length := by
        rw [hl]
        exact (List.getElem?_eq_some_iff.mp h1).1
      rw [List.getElem?_append_left (by simpa using hi), List.getElem?_map, g1]
      rfl
  · rcases key i _ e with z | ⟨d', h1, h2⟩
    · cases z
    · cases h2
  · rcases key i _ e with z | ⟨d', h1, h2⟩
    · cases z
    · cases h2
  · rcases key i _ e with z | ⟨d', h1, h2⟩
    · cases z
    · cases h2
  · rcases key i _ e with z | ⟨d', h1, h2⟩
    · cases z
    · cases h2
theorem env_plain {n : Nat} {ds : List D} {i : Nat} {s : Sl} (e : (envOf n ds)[i]? = some s) : s = .no ∨ ∃ d, s = .sh d := by
  unfold envOf at e
  by_cases hi : i < ds.length
  · rw [List.getElem?_append_left (by simpa using hi), List.getElem?_map, List.getElem?_eq_getElem hi] at e
    cases e
    exact .inr ⟨_, rfl⟩
  · rw [List.getElem?_append_right (by simpa using hi), List.getElem?_replicate] at e
    split at e
    · cases e
      exact .inl rfl
    · cases e
theorem own_start {B : Addr → Prop} {H : Hp} {σ : L2.St} {n : Nat} {ds : List D} : OwnB B H σ (envOf n ds) := by
  refine ⟨fun i es p e => ?_, fun i C fs x C' dx vfs n q e => ?_⟩
  · rcases env_plain e with z | ⟨d, z⟩ <;> cases z
  · rcases env_plain e with z | ⟨d, z⟩ <;> cases z
theorem gd_entry (A0 H0 : Hp) : Gd (fun A H => Grow A0 H0 A H) (fun p => H0 p = none) where
  grow := fun h g => h.trans g
  put := fun h ha hp => h.put hp ha
  know := fun h ha hb hp => h.know hp ha hb
  fresh := fun h hp => Same.free h.s hp
section
variable {P : Program} {w : World} {K : PySem.W.Frag} {mg : Str → Option Value} {base : Heap} {x qual : Str} {params : Arguments} {body : List Stmt} {scope : Scope} {f : Addr} {fd : FuncData} {dvs : List V} {kws : List (Str × V)}
/-- THE RULE: the def's promise is its body's function -/
theorem fn_dt {N ps : List Str} {k : Nat} {g : Env → Res Fl} (F : L2.FunD K x qual params body scope dvs kws f fd) (S : FnScope N ps scope)
    (hb : ∀ (cdv : Value) (A : Around) (outer : List PySem.Env) (s : Shared) (H : Hp) (E : XK) (G : Hp → Hp → Prop) (P' : Addr → Prop), Room k (A.deeper (envOfC qual scope s.heap.objs.size f cdv)) → Gd G P' →
      PSs (cxOf (L2N.CX P w) P w K mg base N qual scope f cdv A outer s H E) body (tS K (fun c d _ H => E c d H) G P' g)) : FnOk P w K mg base (L2N.CX P w) (k + 1) f fd ps (spD K ps.length (run N.length g)) := by
  refine F.ok S (spD_len rfl) fun cdv A outer s H vs Q E hr h => ?_
  obtain ⟨H0, ds, sm, r, hl, kk⟩ := h
  refine ⟨_, hb cdv A outer s H E _ _ hr (gd_entry H0 H), H0, envOf N.length ds, ⟨er_start sm r, own_start, Grow.refl sm⟩, ?_⟩
  · unfold run at kk
    cases e : g (envOf N.length ds) with
    | no => rw [e] at kk; exact kk
    | ex C =>
      rw [e] at kk
      exact fun σ A B g => kk A B g
    | ok fl =>
      rw [e] at kk
      cases fl with
      | nx env => exact fun σ A B s => kk .non A B s.g .non
      | rt d => exact fun v A B g r => kk v A B g r
      | bk env => exact kk.elim
      | ct env => exact kk.elim
end
/-! ## the law's own def: nothing leaves it -/
def fin0 : Res Fl → Res D
  | .ok (.nx _) => .ok .non
  | .ok (.rt d) => .ok d
  | _ => .no
def run0 (n : Nat) (g : Env → Res Fl) (ds : List D) : Res D := fin0 (g (envOf n ds))
section
variable {P : Program} {w : World} {K : PySem.W.Frag} {mg : Str → Option Value} {base : Heap} {x qual : Str} {params : Arguments} {body : List Stmt} {scope : Scope} {f : Addr} {fd : FuncData} {dvs : List V} {kws : List (Str × V)}
theorem fn_dt0 {N ps : List Str} {k : Nat} {g : Env → Res Fl} (F : L2.FunD K x qual params body scope dvs kws f fd) (S : FnScope N ps scope)
    (hb : ∀ (cdv : Value) (A : Around) (outer : List PySem.Env) (s : Shared) (H : Hp) (E : XK) (G : Hp → Hp → Prop) (P' : Addr → Prop), Room k (A.deeper (envOfC qual scope s.heap.objs.size f cdv)) → Gd G P' →
      PSs (cxOf CX0 P w K mg base N qual scope f cdv A outer s H E).nox body (tS K W0 G P' g)) : FnOk P w K mg base CX0 (k + 1) f fd ps (spD K ps.length (run0 N.length g)) := by
  refine F.ok S (spD_len rfl) fun cdv A outer s H vs Q E hr h => ?_
  obtain ⟨H0, ds, sm, r, hl, kk⟩ := h
  refine ⟨_, (hb cdv A outer s H E _ _ hr (gd_entry H0 H)).nox, H0, envOf N.length ds, ⟨er_start sm r, own_start, Grow.refl sm⟩, ?_⟩
  · unfold run0 at kk
    cases e : g (envOf N.length ds) with
    | no => rw [e] at kk; exact kk
    | ex C => rw [e] at kk; exact kk.elim
    | ok fl =>
      rw [e] at kk
      cases fl with
      | nx env => exact fun σ A B s => kk .non A B s.g .non
      | rt d => exact fun v A B g r => kk v A B g r
      | bk env => exact kk.elim
      | ct env => exact kk.elim
end
end Dt
namespace Dt
open PySem PySem.Spec PyProof.Rows L2
/-- a measure: the int that stands in a slot -/
def fuel (i : Nat) (env : Env) : Nat := match env[i]? with
  | some (.sh (.int n)) => n.toNat + 1
  | _ => 0
/-! ## a def as it is held, called by name -/
def Held (P : Program) (w : World) (K : PySem.W.Frag) (mg : Str → Option Value) (base : Heap) (k : Nat) (f : Addr) (ps : List Str) (φ : List D → Res D) : Prop :=
  ∃ fd, FnOk P w K mg base (L2N.CX P w) k f fd ps (spD K ps.length φ) ∧ Binds K fd ps [] ∧ PySem.W.keepIn K (.ref f) = true
section
variable {X : Cx} {W : WX} {k j : Nat} {f : Addr} {ps : List Str} {φ : List D → Res D} {x : Str} {p pos : Pos} {e : Expr} {es : List Expr} {fl : Env → Res (List D)}
theorem pd_callH (F : Held X.prog X.w X.K X.mg X.base k f ps φ) (hr : Room k X.A) (tk : L2N.Takes X W) (hg : Gl X x) (hm : X.mg x = some (.ref f))
    (ha : PA X (e :: es) (tDs X.K W fl)) (hn : ArgE ps.length fl) (hdb : (x == ("__debug__" : Str)) = false := by decide) (he : starEach (e :: es) X.env = (false, eval e X.env) :: starEach es X.env := by rfl) (hpl : (backTo pos (starEach es X.env)).any (·.1) = false := by rfl) :
    PE X (.Call (.Name x p) (e :: es) [] pos) (tD X.K W (eCall φ fl)) := by
  obtain ⟨fd, F, b, kp⟩ := F
  exact pd_call F hr tk hg hm kp b ha hn hdb he hpl
end
/-! ## the module's constants -/
theorem pd_globI {X : Cx} {W : WX} {x : Str} {i : Int} {pos : Pos} (hg : Gl X x) (h : ∃ t, X.mg x = some (.int i t)) (hd : (x == ("__debug__" : Str)) = false := by decide) : PE X (.Name x pos) (tD X.K W (eC (.int i))) := by
  obtain ⟨t, h⟩ := h
  exact pd_glob hg h (v := .int i) ⟨t, rfl⟩ (fun _ => .int i) hd
theorem pd_globS {X : Cx} {W : WX} {x z : Str} {pos : Pos} (hg : Gl X x) (h : ∃ t, X.mg x = some (.str z t)) (hd : (x == ("__debug__" : Str)) = false := by decide) : PE X (.Name x pos) (tD X.K W (eC (.str z))) := by
  obtain ⟨t, h⟩ := h
  exact pd_glob hg h (v := .str z) ⟨t, rfl⟩ (fun _ => .str z) hd
/-! ## the head: facts of one's own -/
open He
def obsX (fs : List (PySem.W.Frag → Bool)) (fn : List DefD) (K : PySem.W.Frag) : AlD := ((fs.all fun f => f K) && fn.all fun d => d.ok K, fn.map fun d => fnW K d.at_)
def SaysX (fs : List (PySem.W.Frag → Bool)) (fn : List DefD) (K : PySem.W.Frag) : Prop := obsX fs fn K = valD fn
def obsXG (n : Nat) (fs : List (PySem.W.Frag → Bool)) (fn : List DefD) (g : Addr → Option Obj) : AlD := obsX fs fn (frG g (asD g n))
def hookX (n : Nat) (fs : List (PySem.W.Frag → Bool)) (fn : List DefD) : PySem.W.Hook where
  α := AlD
  obs := fun s => obsXG n fs fn s.heap.get?
  val := fun _ => valD fn
  says := fun _ h => ∃ K : PySem.W.Frag, K.In h ∧ SaysX fs fn K
  of := fun _ _ e => ⟨_, frG_in, e⟩
  keeps := fun _ _ _ ⟨K, hK, c⟩ k => ⟨K, PySem.W.Frag.In.keeps hK k, c⟩
theorem obsXG_eq {n : Nat} {fs : List (PySem.W.Frag → Bool)} {fn : List DefD} {g : Addr → Option Obj} {s : Shared} (h : ∀ a, g a = s.heap.get? a) : obsXG n fs fn g = (hookX n fs fn).obs s := by
  have e : g = s.heap.get? := funext h
  rw [e] <;> rfl
section
variable {fs : List (PySem.W.Frag → Bool)} {fn : List DefD} {K : PySem.W.Frag}
theorem SaysX.fact (c : SaysX fs fn K) (i : Nat) {f : PySem.W.Frag → Bool} (h : fs[i]? = some f := by rfl) : f K = true := by
  have c1 := (ba (show ((fs.all fun f => f K) && fn.all fun d => d.ok K) = true from congrArg (fun z : AlD => z.1) c)).1
  exact List.all_eq_true.mp c1 f (List.mem_of_getElem? h)
theorem SaysX.def_ (c : SaysX fs fn K) (i : Nat) {d : DefD} (h : fn[i]? = some d := by rfl) : ∃ fd, FunD K d.name d.qual d.params d.body d.scope (d.dvs K) (d.kws K) (fAd K d.at_) fd := by
  have c2 := (ba (show ((fs.all fun f => f K) && fn.all fun d => d.ok K) = true from congrArg (fun z : AlD => z.1) c)).2
  have e : fn.map (fun d => fnW K d.at_) = fn.map DefD.val := congrArg (fun z : AlD => z.2) c
  have e2 : (fn.map fun d => fnW K d.at_)[i]? = (fn.map DefD.val)[i]? := by rw [e]
  rw [List.getElem?_map, List.getElem?_map, h] at e2
  exact DefD.funD (Option.some.inj e2) (List.all_eq_true.mp c2 d (List.mem_of_getElem? h))
end
/-! ## the law's end -/
/-- the law's promise: what it gives is true -/
theorem law_sp {K : PySem.W.Frag} {φ : List D → Res D} {H : Hp} {a : Addr} {ns : List Int} (h : φ [.lst (ns.map D.int)] = .ok (.bl true)) (hS : SqL K H a (ns.map V.int)) :
    spD K 1 φ [.ref a] H (fun v _ => v = .bl true) fun _ _ _ => False := by
  refine ⟨H, [.lst (ns.map D.int)], Same.refl H, .cons (.lst hS Reps.of_ints) .nil, rfl, ?_⟩
  rw [h]
  intro v A B g r
  cases r
  rfl
theorem law_cx {P : Program} {w : World} (H : Hp) (s : Shared) (e : Value) (s' : Shared) (h : L2N.CX P w [] H s (fun _ _ _ => False) e s') : False := by
  obtain ⟨_, _, _, _, _, _, _, _, _, _, _, _, z⟩ := h
  exact z.elim
end Dt
namespace Dt
open PySem PySem.Spec PyProof.Rows L2
/-! ## plain lemmas -/
section
variable {K : PySem.W.Frag}
theorem kit_int_int : PySem.W.kitOne K (.type "int") (.type "int") = some true := kit_ty (by decide +kernel)
theorem kit_int_bool : PySem.W.kitOne K (.type "int") (.type "bool") = some false := kit_ty (by decide +kernel)
theorem kit_int_tuple : PySem.W.kitOne K (.type "int") (.type "tuple") = some false := kit_ty (by decide +kernel)
theorem kit_int_list : PySem.W.kitOne K (.type "int") (.type "list") = some false := kit_ty (by decide +kernel)
theorem kit_int_str : PySem.W.kitOne K (.type "int") (.type "str") = some false := kit_ty (by decide +kernel)
theorem kit_bool_int : PySem.W.kitOne K (.type "bool") (.type "int") = some true := kit_ty (by decide +kernel)
theorem kit_bool_bool : PySem.W.kitOne K (.type "bool") (.type "bool") = some true := kit_ty (by decide +kernel)
theorem kit_bool_tuple : PySem.W.kitOne K (.type "bool") (.type "tuple") = some false := kit_ty (by decide +kernel)
theorem kit_bool_list : PySem.W.kitOne K (.type "bool") (.type "list") = some false := kit_ty (by decide +kernel)
theorem kit_bool_str : PySem.W.kitOne K (.type "bool") (.type "str") = some false := kit_ty (by decide +kernel)
theorem kit_non_int : PySem.W.kitOne K (.type "NoneType") (.type "int") = some false := kit_ty (by decide +kernel)
theorem kit_non_bool : PySem.W.kitOne K (.type "NoneType") (.type "bool") = some false := kit_ty (by decide +kernel)
theorem kit_non_tuple : PySem.W.kitOne K (.type "NoneType") (.type "tuple") = some false := kit_ty (by decide +kernel)
theorem kit_non_list : PySem.W.kitOne K (.type "NoneType") (.type "list") = some false := kit_ty (by decide +kernel)
theorem kit_non_str : PySem.W.kitOne K (.type "NoneType") (.type "str") = some false := kit_ty (by decide +kernel)
theorem kit_tuple_int : PySem.W.kitOne K (.type "tuple") (.type "int") = some false := kit_ty (by decide +kernel)
theorem kit_tuple_bool : PySem.W.kitOne K (.type "tuple") (.type "bool") = some false := kit_ty (by decide +kernel)
theorem kit_tuple_tuple : PySem.W.kitOne K (.type "tuple") (.type "tuple") = some true := kit_ty (by decide +kernel)
theorem kit_tuple_list : PySem.W.kitOne K (.type "tuple") (.type "list") = some false := kit_ty (by decide +kernel)
theorem kit_tuple_str : PySem.W.kitOne K (.type "tuple") (.type "str") = some false := kit_ty (by decide +kernel)
theorem kit_list_int : PySem.W.kitOne K (.type "list") (.type "int") = some false := kit_ty (by decide +kernel)
theorem kit_list_bool : PySem.W.kitOne K (.type "list") (.type "bool") = some false := kit_ty (by decide +kernel)
theorem kit_list_tuple : PySem.W.kitOne K (.type "list") (.type "tuple") = some false := kit_ty (by decide +kernel)
theorem kit_list_list : PySem.W.kitOne K (.type "list") (.type "list") = some true := kit_ty (by decide +kernel)
theorem kit_list_str : PySem.W.kitOne K (.type "list") (.type "str") = some false := kit_ty (by decide +kernel)
theorem kit_str_int : PySem.W.kitOne K (.type "str") (.type "int") = some false := kit_ty (by decide +kernel)
theorem kit_str_bool : PySem.W.kitOne K (.type "str") (.type "bool") = some false := kit_ty (by decide +kernel)
theorem kit_str_tuple : PySem.W.kitOne K (.type "str") (.type "tuple") = some false := kit_ty (by decide +kernel)
theorem kit_str_list : PySem.W.kitOne K (.type "str") (.type "list") = some false := kit_ty (by decide +kernel)
theorem kit_str_str : PySem.W.kitOne K (.type "str") (.type "str") = some true := kit_ty (by decide +kernel)
theorem kit_dict_int : PySem.W.kitOne K (.type "dict") (.type "int") = some false := kit_ty (by decide +kernel)
theorem kit_dict_bool : PySem.W.kitOne K (.type "dict") (.type "bool") = some false := kit_ty (by decide +kernel)
theorem kit_dict_tuple : PySem.W.kitOne K (.type "dict") (.type "tuple") = some false := kit_ty (by decide +kernel)
theorem kit_dict_list : PySem.W.kitOne K (.type "dict") (.type "list") = some false := kit_ty (by decide +kernel)
theorem kit_dict_str : PySem.W.kitOne K (.type "dict") (.type "str") = some false := kit_ty (by decide +kernel)
end
/-- small numbers -/
def Sm (i : Int) : Prop := i.natAbs < 2 ^ 250
theorem lim_of {i : Int} {n : Nat} (h : i.natAbs < 2 ^ n) (hn : n ≤ 9000) : i.natAbs < lim := by
  unfold lim
  exact Nat.lt_of_lt_of_le h (Nat.pow_le_pow_right (by decide) hn)
theorem mulOk_sm {i j : Int} (h : Sm i) (h' : Sm j) : mulOk i j = true := by
  unfold mulOk
  rw [decide_eq_true (lim_of h (by decide)), decide_eq_true (lim_of h' (by decide))]
  simp
theorem sm_lim {i : Int} (h : Sm i) : i.natAbs < lim := lim_of h (by decide)
theorem sm_small {i : Int} (h : i.natAbs < 2 ^ 60) : Sm i := Nat.lt_of_lt_of_le h (Nat.pow_le_pow_right (by decide) (by decide))
theorem sm_of_le {i j : Int} (h : i.natAbs ≤ j.natAbs) (hj : Sm j) : Sm i := Nat.lt_of_le_of_lt h hj
theorem Sm.div {i j : Int} (h : Sm i) (h0 : 0 ≤ i) (hj : 0 ≤ j) : Sm (i / j) := sm_of_le (by
  have h1 := Int.ediv_nonneg h0 hj
  have h2 : i / j ≤ i := Int.ediv_le_self j h0
  omega) h
/-! ### comprehensions -/
section
variable {bt : Bt} {ft : Env → Res Bool} {fe : Env → Res D} {env : Env}
theorem compS_of {α : Type} (xs : List α) (enc out : α → D) (H : ∀ x ∈ xs, ∃ e1, bt (enc x) env = .ok e1 ∧ fe e1 = .ok (out x)) : compS bt bYes fe env (xs.map enc) = .ok (xs.map out) := by
  induction xs with
  | nil => rfl
  | cons x xs ih =>
    obtain ⟨e1, h1, h2⟩ := H x List.mem_cons_self
    have ih := ih fun y hy => H y (List.mem_cons_of_mem _ hy)
    show (bt (enc x) env).bind _ = _
    rw [h1]
    show (fe e1).bind (fun y => (compS bt bYes fe env (xs.map enc)).bind fun r => .ok (y :: r)) = _
    rw [h2, ih]
    rfl
theorem compS_filter {α : Type} (xs : List α) (enc out : α → D) (p : α → Bool) (H : ∀ x ∈ xs, ∃ e1, bt (enc x) env = .ok e1 ∧ ft e1 = .ok (p x) ∧ (p x = true → fe e1 = .ok (out x))) : compS bt ft fe env (xs.map enc) = .ok ((xs.filter p).map out) := by
  induction xs with
  | nil => rfl
  | cons x xs ih =>
    obtain ⟨e1, h1, h2, h3⟩ := H x List.mem_cons_self
    have ih := ih fun y hy => H y (List.mem_cons_of_mem _ hy)
    show (bt (enc x) env).bind _ = _
    rw [h1]
    show (ft e1).bind _ = _
    rw [h2]
    cases e : p x with
    | false =>
      show compS bt ft fe env (xs.map enc) = _
      rw [ih, List.filter_cons, e]
      rfl
    | true =>
      show (fe e1).bind (fun y => (compS bt ft fe env (xs.map enc)).bind fun r => .ok (y :: r)) = _
      rw [h3 e, ih, List.filter_cons, e]
      rfl
end
theorem toBls_map' {α : Type} (p : α → Bool) : ∀ xs : List α, toBls (xs.map fun x => D.bl (p x)) = some (xs.map p)
  | [] => rfl
  | x :: xs => by
    show (toBls (xs.map fun x => D.bl (p x))).map (p x :: ·) = _
    rw [toBls_map' p xs]
    rfl
theorem toInts_map' {α : Type} (p : α → Int) : ∀ xs : List α, toInts (xs.map fun x => D.int (p x)) = some (xs.map p)
  | [] => rfl
  | x :: xs => by
    show (toInts (xs.map fun x => D.int (p x))).map (p x :: ·) = _
    rw [toInts_map' p xs]
    rfl
/-! ### a for over a list: an invariant of the slots -/
theorem forS_inv {α : Type} {bt : Bt} {gb : Env → Res Fl} (enc : α → D) (I : Nat → Env → Prop) : ∀ (xs : List α) (n : Nat) (env : Env), I n env →
    (∀ (i : Nat) (x : α) (env : Env), xs[i]? = some x → I (n + i) env → ∃ e1, bt (enc x) env = .ok e1 ∧ ∃ e2, gb e1 = .ok (.nx e2) ∧ I (n + i + 1) e2) → ∃ e, forS bt gb (xs.map enc) env = .ok (.nx e) ∧ I (n + xs.length) e
  | [], n, env, h, _ => ⟨env, rfl, h⟩
  | x :: xs, n, env, h, H => by
    obtain ⟨e1, h1, e2, h2, h3⟩ := H 0 x env rfl h
    obtain ⟨e, h4, h5⟩ := forS_inv enc I xs (n + 1) e2 h3 (fun i y env hy hi => by
      have := H (i + 1) y env hy (by rw [show n + (i + 1) = n + 1 + i by omega]; exact hi)
      rw [show n + (i + 1) + 1 = n + 1 + i + 1 by omega] at this
      exact this)
    refine ⟨e, ?_, by rw [List.length_cons, show n + (xs.length + 1) = n + 1 + xs.length by omega]; exact h5⟩
    show bOk (bt (enc x) env) _ = _
    rw [h1, bOk_ok, h2]
    exact h4
/-! ### tariffs, books -/
abbrev Tr := Int × Int
def tr (t : Tr) : D := .tup [.int t.1, .int t.2]
def bk (l : List Tr) : D := .lst (l.map tr)
def trP (t : Tr) : PyData := .tuple [.int t.1, .int t.2]
theorem toPy_tr (t : Tr) : toPy (tr t) = some (trP t) := rfl
theorem toPys_tr : ∀ l : List Tr, toPys (l.map tr) = some (l.map trP)
  | [] => rfl
  | t :: l => by
    show (match toPy (tr t), toPys (l.map tr) with | some a, some b => some (a :: b) | _, _ => none) = _
    rw [toPy_tr, toPys_tr l]
    rfl
theorem toPy_bk (l : List Tr) : toPy (bk l) = some (.list (l.map trP)) := by
  show (toPys (l.map tr)).map PyData.list = _
  rw [toPys_tr]
  rfl
theorem canLay_trs : ∀ l : List Tr, PyData.canLayAll0 (l.map trP) = true
  | [] => rfl
  | t :: l => by
    show ((trP t).canLay0 && PyData.canLayAll0 (l.map trP)) = true
    rw [canLay_trs l]
    rfl
theorem eqv_tr (t u : Tr) : PyData.eqv (trP t) (trP u) = decide (t = u) := by
  show (t.1 == u.1 && (t.2 == u.2 && true)) = _
  obtain ⟨a, b⟩ := t
  obtain ⟨c, d⟩ := u
  rw [Bool.eq_iff_iff]
  simp
theorem eqvAll_trs : ∀ l m : List Tr, PyData.eqvAll (l.map trP) (m.map trP) = decide (l = m)
  | [], [] => rfl
  | [], _ :: _ => rfl
  | _ :: _, [] => rfl
  | t :: l, u :: m => by
    show (PyData.eqv (trP t) (trP u) && PyData.eqvAll (l.map trP) (m.map trP)) = _
    rw [eqv_tr, eqvAll_trs l m, Bool.eq_iff_iff]
    simp
theorem depth_trs : ∀ l : List Tr, PyData.depthAll (l.map trP) ≤ 1
  | [] => Nat.zero_le _
  | t :: l => by
    show max (PyData.depth (trP t)) (PyData.depthAll (l.map trP)) ≤ 1
    have := depth_trs l
    have h : PyData.depth (trP t) = 1 := rfl
    omega
theorem shaped_bk (l : List Tr) : SeqAt.shaped (.list (l.map trP)) = true := by
  show (PyData.canLayAll0 (l.map trP) && decide (PyData.depthAll (l.map trP) + 1 ≤ 64)) = true
  rw [canLay_trs, decide_eq_true (by have := depth_trs l; omega)]
  rfl
theorem shaped_tr (t : Tr) : SeqAt.shaped (trP t) = true := rfl
theorem eqB_bk (l m : List Tr) : eqB (bk l) (bk m) = some (decide (l = m)) := by
  unfold eqB
  show (match scV (bk l), scV (bk m) with
  | some x, some y => if scal x y = true then some (decide (x = y)) else none
  | _, _ => match toPy (bk l), toPy (bk m) with
    | some x, some y => if (SeqAt.shaped x && SeqAt.shaped y) = true then some (PyData.eqv x y) else none
    | _, _ => none) = _
  rw [toPy_bk, toPy_bk]
  show (if (SeqAt.shaped (.list (l.map trP)) && SeqAt.shaped (.list (m.map trP))) = true then some (PyData.eqvAll (l.map trP) (m.map trP)) else none) = _
  rw [shaped_bk, shaped_bk, eqvAll_trs]
  rfl
theorem eqB_tr (t u : Tr) : eqB (tr t) (tr u) = some (decide (t = u)) := by
  show (if (SeqAt.shaped (trP t) && SeqAt.shaped (trP u)) = true then some (PyData.eqv (trP t) (trP u)) else none) = _
  rw [eqv_tr]
  rfl
theorem eqB_int (i j : Int) : eqB (.int i) (.int j) = some (decide (i = j)) := by
  show some (decide (V.int i = V.int j)) = _
  congr 1
  rw [Bool.eq_iff_iff]
  simp
theorem eqB_bl (i j : Bool) : eqB (.bl i) (.bl j) = some (decide (i = j)) := by
  show some (decide (V.bl i = V.bl j)) = _
  congr 1
  rw [Bool.eq_iff_iff]
  simp
/-! ### operations at ints -/
section
variable {i j : Int} {a b : D}
theorem ix0 : ixD (.tup [a, b]) (.int 0) = some a := rfl
theorem ix1 : ixD (.tup [a, b]) (.int 1) = some b := rfl
theorem len_tup2 : lenD [.tup [a, b]] = some (.int 2) := rfl
theorem eqD_int : eqD (.int i) (.int j) = some (.bl (decide (i = j))) := by unfold eqD; rw [eqB_int]; rfl
theorem neD_int : neD (.int i) (.int j) = some (.bl (!decide (i = j))) := by unfold neD; rw [eqB_int]; rfl
theorem addD_int : addD (.int i) (.int j) = some (.int (i + j)) := rfl
theorem subD_int : subD (.int i) (.int j) = some (.int (i - j)) := rfl
theorem ltD_int : ltD (.int i) (.int j) = some (.bl (decide (i < j))) := rfl
theorem leD_int : leD (.int i) (.int j) = some (.bl (decide (i ≤ j))) := rfl
theorem gtD_int : gtD (.int i) (.int j) = some (.bl (decide (j < i))) := rfl
theorem geD_int : geD (.int i) (.int j) = some (.bl (decide (j ≤ i))) := rfl
theorem negD_int : negD (.int i) = some (.int (-i)) := rfl
theorem divD_int (h : 0 < j) (h2 : j.natAbs < lim) : divD (.int i) (.int j) = some (.int (i / j)) := by
  show (if (decide (0 < j) && decide (j.natAbs < lim)) = true then some (D.int (i / j)) else none) = _
  rw [decide_eq_true h, decide_eq_true h2]
  rfl
theorem modD_int (h : 0 < j) : modD (.int i) (.int j) = some (.int (i % j)) := by
  show (if decide (0 < j) = true then some (D.int (i % j)) else none) = _
  rw [decide_eq_true h]
  rfl
theorem mulD_int (h : mulOk i j = true) : mulD (.int i) (.int j) = some (.int (i * j)) := by
  show (if mulOk i j = true then some (D.int (i * j)) else none) = _
  rw [h]
  rfl
theorem lenD_lst {xs : List D} : lenD [.lst xs] = some (.int xs.length) := rfl
theorem lenD_tup {xs : List D} : lenD [.tup xs] = some (.int xs.length) := rfl
theorem allD_map {α : Type} {xs : List α} {p : α → Bool} : allD [.lst (xs.map fun x => .bl (p x))] = some (.bl (xs.all p)) := by
  show (toBls _).map _ = _
  rw [toBls_map']
  show some (D.bl ((xs.map p).all id)) = _
  rw [List.all_map]
  rfl
theorem anyD_map {α : Type} {xs : List α} {p : α → Bool} : anyD [.lst (xs.map fun x => .bl (p x))] = some (.bl (xs.any p)) := by
  show (toBls _).map _ = _
  rw [toBls_map']
  show some (D.bl ((xs.map p).any id)) = _
  rw [List.any_map]
  rfl
end
/-! ### the greatest common divisor -/
def gcdI (a b : Int) : Int := (Nat.gcd a.toNat b.toNat : Nat)
theorem gcdI_step {a b : Int} (ha : 0 ≤ a) (hb : 0 < b) : gcdI b (a % b) = gcdI a b := by
  unfold gcdI
  have e : (a % b).toNat = a.toNat % b.toNat := by
    have h1 : (a % b).toNat = ((a.toNat : Int) % (b.toNat : Int)).toNat := by
      rw [Int.toNat_of_nonneg ha, Int.toNat_of_nonneg (Int.le_of_lt hb)]
    rw [h1, ← Int.natCast_emod, Int.toNat_natCast]
  rw [e, Nat.gcd_comm b.toNat, ← Nat.gcd_rec, Nat.gcd_comm]
theorem gcdI_zero {a : Int} (ha : 0 ≤ a) : gcdI a 0 = a := by
  unfold gcdI
  rw [show (0 : Int).toNat = 0 from rfl, Nat.gcd_zero_right, Int.toNat_of_nonneg ha]
theorem gcdI_pos {a b : Int} (hb : 0 < b) : 0 < gcdI a b := by
  unfold gcdI
  have : 0 < Nat.gcd a.toNat b.toNat := Nat.gcd_pos_of_pos_right _ (by omega)
  omega
theorem gcdI_le {a b : Int} (hb : 0 < b) : gcdI a b ≤ b := by
  unfold gcdI
  have : Nat.gcd a.toNat b.toNat ≤ b.toNat := Nat.gcd_le_right _ (by omega)
  omega
theorem common_loop : ∀ (n : Nat) (a b : Int) (r : Env), 0 ≤ a → 0 ≤ b → b.toNat < n →
    whileS (bV (eOp gtD (eVar 1) (eC (.int 0)))) (sPar 0 1 (aCons (eVar 1) (aCons (eOp modD (eVar 0) (eVar 1)) aNil))) n (.sh (.int a) :: .sh (.int b) :: r) = .ok (.nx (.sh (.int (gcdI a b)) :: .sh (.int 0) :: r))
  | 0, a, b, r, _, _, h => absurd h (Nat.not_lt_zero _)
  | n + 1, a, b, r, ha, hb, h => by
    unfold whileS
    simp only [bV, eOp, eVar, eC, List.getElem?_cons_succ, List.getElem?_cons_zero, Res.bind_ok, gtD_int, ofO_some, toB, sPar, aCons, aNil]
    by_cases c : 0 < b
    · have h0 : 0 ≤ a % b := Int.emod_nonneg a (by omega)
      have h1 : a % b < b := Int.emod_lt_of_pos a c
      simp only [decide_eq_true c, if_true, modD_int c, ofO_some, Res.bind_ok, List.set_cons_zero, List.set_cons_succ]
      rw [common_loop n b (a % b) r hb h0 (by omega), gcdI_step ha c]
    · have e : b = 0 := by omega
      subst e
      simp only [gcdI_zero ha]
      rfl
/-- the same loop in the slots 2 and 3 -/
theorem common_loop2 : ∀ (n : Nat) (a b : Int) (x y : Sl) (r : Env), 0 ≤ a → 0 ≤ b → b.toNat < n →
    whileS (bV (eOp gtD (eVar 3) (eC (.int 0)))) (sPar 2 3 (aCons (eVar 3) (aCons (eOp modD (eVar 2) (eVar 3)) aNil))) n (x :: y :: .sh (.int a) :: .sh (.int b) :: r) = .ok (.nx (x :: y :: .sh (.int (gcdI a b)) :: .sh (.int 0) :: r))
  | 0, a, b, x, y, r, _, _, h => absurd h (Nat.not_lt_zero _)
  | n + 1, a, b, x, y, r, ha, hb, h => by
    unfold whileS
    simp only [bV, eOp, eVar, eC, List.getElem?_cons_succ, List.getElem?_cons_zero, Res.bind_ok, gtD_int, ofO_some, toB, sPar, aCons, aNil]
    by_cases c : 0 < b
    · have h0 : 0 ≤ a % b := Int.emod_nonneg a (by omega)
      have h1 : a % b < b := Int.emod_lt_of_pos a c
      simp only [decide_eq_true c, if_true, modD_int c, ofO_some, Res.bind_ok, List.set_cons_zero, List.set_cons_succ]
      rw [common_loop2 n b (a % b) x y r hb h0 (by omega), gcdI_step ha c]
    · have e : b = 0 := by omega
      subst e
      simp only [gcdI_zero ha]
      rfl
/-- lowest terms -/
def low (a b : Int) : Tr := (a / gcdI a b, b / gcdI a b)
/-- what a tariff costs, so often as the amount's second number is -/
def cst (t p : Tr) : Int := t.1 * p.2 + t.2 * p.1
/-- an amount -/
structure Am (p : Tr) : Prop where
  n0 : 0 ≤ p.1
  d0 : 0 < p.2
  gc : gcdI p.1 p.2 = 1
theorem gcdI_dvd {a b : Int} (ha : 0 ≤ a) (hb : 0 ≤ b) : gcdI a b ∣ a ∧ gcdI a b ∣ b := by
  unfold gcdI
  constructor
  · have := Nat.gcd_dvd_left a.toNat b.toNat
    have h := Int.natCast_dvd_natCast.mpr this
    rwa [Int.toNat_of_nonneg ha] at h
  · have := Nat.gcd_dvd_right a.toNat b.toNat
    have h := Int.natCast_dvd_natCast.mpr this
    rwa [Int.toNat_of_nonneg hb] at h
theorem toNat_ediv {a b : Int} (ha : 0 ≤ a) (hb : 0 ≤ b) : (a / b).toNat = a.toNat / b.toNat := by
  have h1 : (a / b).toNat = ((a.toNat : Int) / (b.toNat : Int)).toNat := by
    rw [Int.toNat_of_nonneg ha, Int.toNat_of_nonneg hb]
  rw [h1, ← Int.natCast_ediv, Int.toNat_natCast]
theorem low_am {a b : Int} (ha : 0 ≤ a) (hb : 0 < b) : Am (low a b) := by
  have g := gcdI_pos (a := a) hb
  obtain ⟨d1, d2⟩ := gcdI_dvd ha (Int.le_of_lt hb)
  refine ⟨Int.ediv_nonneg ha (Int.le_of_lt g), Int.ediv_pos_of_pos_of_dvd hb (Int.le_of_lt g) d2, ?_⟩
  show gcdI (a / gcdI a b) (b / gcdI a b) = 1
  have hg : (gcdI a b).toNat = Nat.gcd a.toNat b.toNat := by
    unfold gcdI
    rw [Int.toNat_natCast]
  have e : gcdI (a / gcdI a b) (b / gcdI a b) = ((Nat.gcd (a.toNat / Nat.gcd a.toNat b.toNat) (b.toNat / Nat.gcd a.toNat b.toNat) : Nat) : Int) := by
    show ((Nat.gcd (a / gcdI a b).toNat (b / gcdI a b).toNat : Nat) : Int) = _
    rw [toNat_ediv ha (Int.le_of_lt g), toNat_ediv (Int.le_of_lt hb) (Int.le_of_lt g), hg]
  have gp : 0 < Nat.gcd a.toNat b.toNat := Nat.gcd_pos_of_pos_right _ (by omega)
  rw [e, Nat.gcd_div (Nat.gcd_dvd_left _ _) (Nat.gcd_dvd_right _ _), Nat.div_self gp]
  rfl
theorem low_eq {a b : Int} (ha : 0 ≤ a) (hb : 0 < b) : (low a b).1 * b = a * (low a b).2 := by
  obtain ⟨⟨x, hx⟩, ⟨y, hy⟩⟩ := gcdI_dvd ha (Int.le_of_lt hb)
  have g := gcdI_pos (a := a) hb
  have e1 : a / gcdI a b = x := Int.ediv_eq_of_eq_mul_right (by omega) hx
  have e2 : b / gcdI a b = y := Int.ediv_eq_of_eq_mul_right (by omega) hy
  show a / gcdI a b * b = a * (b / gcdI a b)
  rw [e1, e2]
  conv => lhs; rw [hy]
  conv => rhs; rw [hx]
  rw [Int.mul_left_comm, Int.mul_assoc, Int.mul_comm x y]
theorem low_of_am {p : Tr} (h : Am p) : low p.1 p.2 = p := by
  unfold low
  rw [h.gc, Int.ediv_one, Int.ediv_one]
theorem cst_nonneg {t p : Tr} (h1 : 0 ≤ t.1) (h2 : 0 ≤ t.2) (h : Am p) : 0 ≤ cst t p := Int.add_nonneg (Int.mul_nonneg h1 (Int.le_of_lt h.d0)) (Int.mul_nonneg h2 h.n0)
/-! ### tariffs and books under the operations -/
section
variable {t u : Tr} {l m : List Tr} {K : PySem.W.Frag} {Cs : List Addr}
theorem ix0_tr : ixD (tr t) (.int 0) = some (.int t.1) := rfl
theorem ix1_tr : ixD (tr t) (.int 1) = some (.int t.2) := rfl
theorem len_tr : lenD [tr t] = some (.int 2) := rfl
theorem ty_tr : tyD Cs (tr t) = some (.type "tuple") := rfl
theorem ty_bk : tyD Cs (bk l) = some (.type "list") := rfl
theorem len_bk : lenD [bk l] = some (.int l.length) := by
  show some (D.int ((l.map tr).length : Int)) = _
  rw [List.length_map]
theorem toL_bk : toL (bk l) = .ok (l.map tr) := rfl
theorem toL_lst {xs : List D} : toL (.lst xs) = .ok xs := rfl
theorem toT_tup {xs : List D} : toT (.tup xs) = .ok xs := rfl
theorem toT_tr : toT (tr t) = .ok [.int t.1, .int t.2] := rfl
theorem list_bk : listD [bk l] = some (bk l) := rfl
theorem eqD_bk : eqD (bk l) (bk m) = some (.bl (decide (l = m))) := by
  unfold eqD
  rw [eqB_bk]
  rfl
theorem neD_bk : neD (bk l) (bk m) = some (.bl (!decide (l = m))) := by
  unfold neD
  rw [eqB_bk]
  rfl
theorem eqD_tr : eqD (tr t) (tr u) = some (.bl (decide (t = u))) := by
  unfold eqD
  rw [eqB_tr]
  rfl
theorem neD_tr : neD (tr t) (tr u) = some (.bl (!decide (t = u))) := by
  unfold neD
  rw [eqB_tr]
  rfl
theorem eqD_bk0 : eqD (bk l) (.lst []) = some (.bl (decide (l = []))) := eqD_bk (m := [])
theorem neD_bk0 : neD (bk l) (.lst []) = some (.bl (!decide (l = []))) := neD_bk (m := [])
theorem atI_map {α β : Type} (f : α → β) {xs : List α} {j : Nat} {x : α} (h : xs[j]? = some x) : atI (xs.map f) (j : Int) = some (f x) := atI_nat (by rw [List.getElem?_map, h]; rfl)
theorem ix_bk {j : Nat} (h : l[j]? = some t) : ixD (bk l) (.int (j : Int)) = some (tr t) := atI_map tr h
theorem pair_eq (a b : Int) : D.tup [.int a, .int b] = tr (a, b) := rfl
end
/-- a comprehension over a book, a list: the whole expression -/
theorem eLC_of {α : Type} {vs : List Nat} {bt : Bt} {fe : Env → Res D} {fi : Env → Res (List D)} {env : Env} (xs : List α) (enc out : α → D) (hi : fi env = .ok (xs.map enc)) (hl : xs.length ≤ 1000000)
    (H : ∀ x ∈ xs, ∃ e1, bt (enc x) (wipeE env vs) = .ok e1 ∧ fe e1 = .ok (out x)) : eLC vs bt bYes fe fi env = .ok (.lst (xs.map out)) := by
  unfold eLC
  rw [hi, Res.bind_ok, if_pos (by rw [List.length_map]; exact hl), compS_of xs enc out H]
theorem eLC_filter {α : Type} {vs : List Nat} {bt : Bt} {ft : Env → Res Bool} {fe : Env → Res D} {fi : Env → Res (List D)} {env : Env} (xs : List α) (enc out : α → D) (p : α → Bool) (hi : fi env = .ok (xs.map enc)) (hl : xs.length ≤ 1000000)
    (H : ∀ x ∈ xs, ∃ e1, bt (enc x) (wipeE env vs) = .ok e1 ∧ ft e1 = .ok (p x) ∧ (p x = true → fe e1 = .ok (out x))) : eLC vs bt ft fe fi env = .ok (.lst ((xs.filter p).map out)) := by
  unfold eLC
  rw [hi, Res.bind_ok, if_pos (by rw [List.length_map]; exact hl), compS_filter xs enc out p H]
theorem indexD_ints {ns : List Int} {i : Int} (h : i ∈ ns) : indexD (.lst (ns.map D.int)) [.int i] = some (.int (ns.idxOf i)) := by
  show (match toInts (ns.map D.int) with
    | some ns => if i ∈ ns then some (D.int (ns.idxOf i)) else none
    | none => none) = _
  rw [toInts_map]
  show (if i ∈ ns then some (D.int (ns.idxOf i)) else none) = _
  rw [if_pos h]
theorem minD_ints {ns : List Int} (h : ns ≠ []) : minD [.lst (ns.map D.int)] = some (.int (minL ns)) := by
  show (match toInts (ns.map D.int) with
    | some (n :: ns) => some (D.int (minL (n :: ns)))
    | _ => none) = _
  rw [toInts_map]
  cases ns with
  | nil => exact absurd rfl h
  | cons n ns => rfl
theorem minL_mem {ns : List Int} (h : ns ≠ []) : minL ns ∈ ns := by
  cases ns with
  | nil => exact absurd rfl h
  | cons n ns => exact minL_spec.1
theorem minL_le {ns : List Int} {y : Int} (hy : y ∈ ns) : minL ns ≤ y := by
  cases ns with
  | nil => cases hy
  | cons n ns => exact minL_spec.2 y hy
section
variable {K : PySem.W.Frag} {Cs : List Addr} {i : Int} {b : Bool} {z : Str} {xs : List D} {t : Tr} {l : List Tr}
theorem isi_of {x : D} {t : Value} {c : String} {r : Bool} (h : tyD Cs x = some t) (hk : PySem.W.kitOne K t (.type c) = some r) : isiD K Cs [x, .ty c] = some (.bl r) := by
  have e : isiD K Cs [x, .ty c] = (match tyD Cs x, some (Value.type c) with
    | some t, some u => (PySem.W.kitOne K t u).map D.bl
    | _, _ => none) := rfl
  rw [e, h]
  show (PySem.W.kitOne K t (.type c)).map D.bl = _
  rw [hk]
  rfl
theorem isi_int_int : isiD K Cs [(.int i), .ty "int"] = some (.bl true) := isi_of rfl kit_int_int
theorem isi_int_bool : isiD K Cs [(.int i), .ty "bool"] = some (.bl false) := isi_of rfl kit_int_bool
theorem isi_int_tuple : isiD K Cs [(.int i), .ty "tuple"] = some (.bl false) := isi_of rfl kit_int_tuple
theorem isi_int_list : isiD K Cs [(.int i), .ty "list"] = some (.bl false) := isi_of rfl kit_int_list
theorem isi_int_str : isiD K Cs [(.int i), .ty "str"] = some (.bl false) := isi_of rfl kit_int_str
theorem isi_bl_int : isiD K Cs [(.bl b), .ty "int"] = some (.bl true) := isi_of rfl kit_bool_int
theorem isi_bl_bool : isiD K Cs [(.bl b), .ty "bool"] = some (.bl true) := isi_of rfl kit_bool_bool
theorem isi_bl_tuple : isiD K Cs [(.bl b), .ty "tuple"] = some (.bl false) := isi_of rfl kit_bool_tuple
theorem isi_bl_list : isiD K Cs [(.bl b), .ty "list"] = some (.bl false) := isi_of rfl kit_bool_list
theorem isi_bl_str : isiD K Cs [(.bl b), .ty "str"] = some (.bl false) := isi_of rfl kit_bool_str
theorem isi_non_int : isiD K Cs [.non, .ty "int"] = some (.bl false) := isi_of rfl kit_non_int
theorem isi_non_bool : isiD K Cs [.non, .ty "bool"] = some (.bl false) := isi_of rfl kit_non_bool
theorem isi_non_tuple : isiD K Cs [.non, .ty "tuple"] = some (.bl false) := isi_of rfl kit_non_tuple
theorem isi_non_list : isiD K Cs [.non, .ty "list"] = some (.bl false) := isi_of rfl kit_non_list
theorem isi_non_str : isiD K Cs [.non, .ty "str"] = some (.bl false) := isi_of rfl kit_non_str
theorem isi_str_int : isiD K Cs [(.str z), .ty "int"] = some (.bl false) := isi_of rfl kit_str_int
theorem isi_str_bool : isiD K Cs [(.str z), .ty "bool"] = some (.bl false) := isi_of rfl kit_str_bool
theorem isi_str_tuple : isiD K Cs [(.str z), .ty "tuple"] = some (.bl false) := isi_of rfl kit_str_tuple
theorem isi_str_list : isiD K Cs [(.str z), .ty "list"] = some (.bl false) := isi_of rfl kit_str_list
theorem isi_str_str : isiD K Cs [(.str z), .ty "str"] = some (.bl true) := isi_of rfl kit_str_str
theorem isi_tup_int : isiD K Cs [(.tup xs), .ty "int"] = some (.bl false) := isi_of rfl kit_tuple_int
theorem isi_tup_bool : isiD K Cs [(.tup xs), .ty "bool"] = some (.bl false) := isi_of rfl kit_tuple_bool
theorem isi_tup_tuple : isiD K Cs [(.tup xs), .ty "tuple"] = some (.bl true) := isi_of rfl kit_tuple_tuple
theorem isi_tup_list : isiD K Cs [(.tup xs), .ty "list"] = some (.bl false) := isi_of rfl kit_tuple_list
theorem isi_tup_str : isiD K Cs [(.tup xs), .ty "str"] = some (.bl false) := isi_of rfl kit_tuple_str
theorem isi_lst_int : isiD K Cs [(.lst xs), .ty "int"] = some (.bl false) := isi_of rfl kit_list_int
theorem isi_lst_bool : isiD K Cs [(.lst xs), .ty "bool"] = some (.bl false) := isi_of rfl kit_list_bool
theorem isi_lst_tuple : isiD K Cs [(.lst xs), .ty "tuple"] = some (.bl false) := isi_of rfl kit_list_tuple
theorem isi_lst_list : isiD K Cs [(.lst xs), .ty "list"] = some (.bl true) := isi_of rfl kit_list_list
theorem isi_lst_str : isiD K Cs [(.lst xs), .ty "str"] = some (.bl false) := isi_of rfl kit_list_str
theorem isi_tr_int : isiD K Cs [(tr t), .ty "int"] = some (.bl false) := isi_of rfl kit_tuple_int
theorem isi_tr_bool : isiD K Cs [(tr t), .ty "bool"] = some (.bl false) := isi_of rfl kit_tuple_bool
theorem isi_tr_tuple : isiD K Cs [(tr t), .ty "tuple"] = some (.bl true) := isi_of rfl kit_tuple_tuple
theorem isi_tr_list : isiD K Cs [(tr t), .ty "list"] = some (.bl false) := isi_of rfl kit_tuple_list
theorem isi_tr_str : isiD K Cs [(tr t), .ty "str"] = some (.bl false) := isi_of rfl kit_tuple_str
theorem isi_bk_int : isiD K Cs [(bk l), .ty "int"] = some (.bl false) := isi_of rfl kit_list_int
theorem isi_bk_bool : isiD K Cs [(bk l), .ty "bool"] = some (.bl false) := isi_of rfl kit_list_bool
theorem isi_bk_tuple : isiD K Cs [(bk l), .ty "tuple"] = some (.bl false) := isi_of rfl kit_list_tuple
theorem isi_bk_list : isiD K Cs [(bk l), .ty "list"] = some (.bl true) := isi_of rfl kit_list_list
theorem isi_bk_str : isiD K Cs [(bk l), .ty "str"] = some (.bl false) := isi_of rfl kit_list_str
theorem isi_dic_int : isiD K Cs [.dic, .ty "int"] = some (.bl false) := isi_of rfl kit_dict_int
theorem isi_dic_bool : isiD K Cs [.dic, .ty "bool"] = some (.bl false) := isi_of rfl kit_dict_bool
theorem isi_dic_tuple : isiD K Cs [.dic, .ty "tuple"] = some (.bl false) := isi_of rfl kit_dict_tuple
theorem isi_dic_list : isiD K Cs [.dic, .ty "list"] = some (.bl false) := isi_of rfl kit_dict_list
theorem isi_dic_str : isiD K Cs [.dic, .ty "str"] = some (.bl false) := isi_of rfl kit_dict_str
theorem isL_bk : isLst (bk l) = true := rfl
end
theorem smallv (i : Int) (h : i.natAbs < 10 ^ 70) : i.natAbs < lim := lim_of (n := 250) (Nat.lt_trans h (by decide)) (by decide)
theorem divD_2 {i : Int} : divD (.int i) (.int 2) = some (.int (i / 2)) := divD_int (by decide) (smallv 2 (by decide))
theorem modD_2 {i : Int} : modD (.int i) (.int 2) = some (.int (i % 2)) := modD_int (by decide)
theorem divD_3 {i : Int} : divD (.int i) (.int 3) = some (.int (i / 3)) := divD_int (by decide) (smallv 3 (by decide))
theorem modD_3 {i : Int} : modD (.int i) (.int 3) = some (.int (i % 3)) := modD_int (by decide)
theorem divD_4 {i : Int} : divD (.int i) (.int 4) = some (.int (i / 4)) := divD_int (by decide) (smallv 4 (by decide))
theorem modD_4 {i : Int} : modD (.int i) (.int 4) = some (.int (i % 4)) := modD_int (by decide)
theorem divD_5 {i : Int} : divD (.int i) (.int 5) = some (.int (i / 5)) := divD_int (by decide) (smallv 5 (by decide))
theorem modD_5 {i : Int} : modD (.int i) (.int 5) = some (.int (i % 5)) := modD_int (by decide)
theorem divD_6 {i : Int} : divD (.int i) (.int 6) = some (.int (i / 6)) := divD_int (by decide) (smallv 6 (by decide))
theorem modD_6 {i : Int} : modD (.int i) (.int 6) = some (.int (i % 6)) := modD_int (by decide)
theorem divD_7 {i : Int} : divD (.int i) (.int 7) = some (.int (i / 7)) := divD_int (by decide) (smallv 7 (by decide))
theorem modD_7 {i : Int} : modD (.int i) (.int 7) = some (.int (i % 7)) := modD_int (by decide)
theorem divD_8 {i : Int} : divD (.int i) (.int 8) = some (.int (i / 8)) := divD_int (by decide) (smallv 8 (by decide))
theorem modD_8 {i : Int} : modD (.int i) (.int 8) = some (.int (i % 8)) := modD_int (by decide)
theorem divD_9 {i : Int} : divD (.int i) (.int 9) = some (.int (i / 9)) := divD_int (by decide) (smallv 9 (by decide))
theorem modD_9 {i : Int} : modD (.int i) (.int 9) = some (.int (i % 9)) := modD_int (by decide)
theorem divD_10 {i : Int} : divD (.int i) (.int 10) = some (.int (i / 10)) := divD_int (by decide) (smallv 10 (by decide))
theorem modD_10 {i : Int} : modD (.int i) (.int 10) = some (.int (i % 10)) := modD_int (by decide)
theorem divD_11 {i : Int} : divD (.int i) (.int 11) = some (.int (i / 11)) := divD_int (by decide) (smallv 11 (by decide))
theorem modD_11 {i : Int} : modD (.int i) (.int 11) = some (.int (i % 11)) := modD_int (by decide)
theorem divD_13 {i : Int} : divD (.int i) (.int 13) = some (.int (i / 13)) := divD_int (by decide) (smallv 13 (by decide))
theorem modD_13 {i : Int} : modD (.int i) (.int 13) = some (.int (i % 13)) := modD_int (by decide)
theorem divD_15 {i : Int} : divD (.int i) (.int 15) = some (.int (i / 15)) := divD_int (by decide) (smallv 15 (by decide))
theorem modD_15 {i : Int} : modD (.int i) (.int 15) = some (.int (i % 15)) := modD_int (by decide)
theorem divD_17 {i : Int} : divD (.int i) (.int 17) = some (.int (i / 17)) := divD_int (by decide) (smallv 17 (by decide))
theorem modD_17 {i : Int} : modD (.int i) (.int 17) = some (.int (i % 17)) := modD_int (by decide)
theorem divD_24 {i : Int} : divD (.int i) (.int 24) = some (.int (i / 24)) := divD_int (by decide) (smallv 24 (by decide))
theorem modD_24 {i : Int} : modD (.int i) (.int 24) = some (.int (i % 24)) := modD_int (by decide)
theorem divD_40 {i : Int} : divD (.int i) (.int 40) = some (.int (i / 40)) := divD_int (by decide) (smallv 40 (by decide))
theorem modD_40 {i : Int} : modD (.int i) (.int 40) = some (.int (i % 40)) := modD_int (by decide)
theorem divD_41 {i : Int} : divD (.int i) (.int 41) = some (.int (i / 41)) := divD_int (by decide) (smallv 41 (by decide))
theorem modD_41 {i : Int} : modD (.int i) (.int 41) = some (.int (i % 41)) := modD_int (by decide)
theorem divD_44 {i : Int} : divD (.int i) (.int 44) = some (.int (i / 44)) := divD_int (by decide) (smallv 44 (by decide))
theorem modD_44 {i : Int} : modD (.int i) (.int 44) = some (.int (i % 44)) := modD_int (by decide)
theorem divD_60 {i : Int} : divD (.int i) (.int 60) = some (.int (i / 60)) := divD_int (by decide) (smallv 60 (by decide))
theorem modD_60 {i : Int} : modD (.int i) (.int 60) = some (.int (i % 60)) := modD_int (by decide)
theorem divD_90 {i : Int} : divD (.int i) (.int 90) = some (.int (i / 90)) := divD_int (by decide) (smallv 90 (by decide))
theorem modD_90 {i : Int} : modD (.int i) (.int 90) = some (.int (i % 90)) := modD_int (by decide)
theorem divD_100 {i : Int} : divD (.int i) (.int 100) = some (.int (i / 100)) := divD_int (by decide) (smallv 100 (by decide))
theorem modD_100 {i : Int} : modD (.int i) (.int 100) = some (.int (i % 100)) := modD_int (by decide)
theorem divD_120 {i : Int} : divD (.int i) (.int 120) = some (.int (i / 120)) := divD_int (by decide) (smallv 120 (by decide))
theorem modD_120 {i : Int} : modD (.int i) (.int 120) = some (.int (i % 120)) := modD_int (by decide)
theorem divD_T30 {i : Int} : divD (.int i) (.int 1000000000000000000000000000000) = some (.int (i / 1000000000000000000000000000000)) := divD_int (by decide) (smallv 1000000000000000000000000000000 (by decide))
theorem modD_T30 {i : Int} : modD (.int i) (.int 1000000000000000000000000000000) = some (.int (i % 1000000000000000000000000000000)) := modD_int (by decide)
theorem divD_T40 {i : Int} : divD (.int i) (.int 10000000000000000000000000000000000000000) = some (.int (i / 10000000000000000000000000000000000000000)) := divD_int (by decide) (smallv 10000000000000000000000000000000000000000 (by decide))
theorem modD_T40 {i : Int} : modD (.int i) (.int 10000000000000000000000000000000000000000) = some (.int (i % 10000000000000000000000000000000000000000)) := modD_int (by decide)
theorem divD_T60 {i : Int} : divD (.int i) (.int 1000000000000000000000000000000000000000000000000000000000000) = some (.int (i / 1000000000000000000000000000000000000000000000000000000000000)) := divD_int (by decide) (smallv 1000000000000000000000000000000000000000000000000000000000000 (by decide))
theorem modD_T60 {i : Int} : modD (.int i) (.int 1000000000000000000000000000000000000000000000000000000000000) = some (.int (i % 1000000000000000000000000000000000000000000000000000000000000)) := modD_int (by decide)
theorem powD_30 : powD (.int 10) (.int 30) = some (.int 1000000000000000000000000000000) := by
  have e : (10 : Int) ^ (30 : Int).toNat = 1000000000000000000000000000000 := by decide +kernel
  show (if (decide ((0 : Int) ≤ 30) && decide ((30 : Int) ≤ 1000) && decide ((10 : Int).natAbs < 2 ^ 60)) = true then some (D.int ((10 : Int) ^ (30 : Int).toNat)) else none) = _
  rw [e]
  rfl
theorem powD_40 : powD (.int 10) (.int 40) = some (.int 10000000000000000000000000000000000000000) := by
  have e : (10 : Int) ^ (40 : Int).toNat = 10000000000000000000000000000000000000000 := by decide +kernel
  show (if (decide ((0 : Int) ≤ 40) && decide ((40 : Int) ≤ 1000) && decide ((10 : Int).natAbs < 2 ^ 60)) = true then some (D.int ((10 : Int) ^ (40 : Int).toNat)) else none) = _
  rw [e]
  rfl
theorem powD_60 : powD (.int 10) (.int 60) = some (.int 1000000000000000000000000000000000000000000000000000000000000) := by
  have e : (10 : Int) ^ (60 : Int).toNat = 1000000000000000000000000000000000000000000000000000000000000 := by decide +kernel
  show (if (decide ((0 : Int) ≤ 60) && decide ((60 : Int) ≤ 1000) && decide ((10 : Int).natAbs < 2 ^ 60)) = true then some (D.int ((10 : Int) ^ (60 : Int).toNat)) else none) = _
  rw [e]
  rfl
theorem low_sm {a b : Int} (ha : 0 ≤ a) (hb : 0 < b) (h1 : Sm a) (h2 : Sm b) : Sm (low a b).1 ∧ Sm (low a b).2 :=
  ⟨Sm.div h1 ha (Int.le_of_lt (gcdI_pos hb)), Sm.div h2 (Int.le_of_lt hb) (Int.le_of_lt (gcdI_pos hb))⟩
theorem sm_lt {i : Int} (h0 : 0 ≤ i) (h : i < 1000000000000000000000000000000000000000000000000000000000000000000000) : Sm i := by
  unfold Sm
  have h1 : i.natAbs < 1000000000000000000000000000000000000000000000000000000000000000000000 := by omega
  exact Nat.lt_trans h1 (by decide)
theorem mulOk_r {i j : Int} (h : j.natAbs < 2 ^ 60) : mulOk i j = true := by
  unfold mulOk
  rw [decide_eq_true h]
  simp
theorem mulOk_l {i j : Int} (h : i.natAbs < 2 ^ 60) : mulOk i j = true := by
  unfold mulOk
  rw [decide_eq_true h]
  simp
theorem zip_map {α : Type} (f g : α → D) : ∀ xs : List α, zipD (xs.map f) (xs.map g) = xs.map fun x => .tup [f x, g x]
  | [] => rfl
  | x :: xs => by
    show D.tup [f x, g x] :: zipD (xs.map f) (xs.map g) = _
    rw [zip_map f g xs]
    rfl
theorem addD_lst {xs ys : List D} (h : xs.length + ys.length ≤ 1000000) : addD (.lst xs) (.lst ys) = some (.lst (xs ++ ys)) := by
  show (if xs.length + ys.length ≤ 1000000 then some (D.lst (xs ++ ys)) else none) = _
  rw [if_pos h]
theorem sumD_ints {ns : List Int} : sumD [.lst (ns.map D.int)] = some (.int ns.sum) := by
  show (toInts (ns.map D.int)).map _ = _
  rw [toInts_map]
  rfl
/-! ### statement by statement -/
section
variable {n : Nat} {g g1 g2 gb : Env → Res Fl} {ds : List D} {d : D} {env e : Env} {r : Res Fl} {fa : Env → Res D} {bt : Bt} {fi : Env → Res (List D)} {fc : Env → Res Bool}
theorem run_rt (h : g (envOf n ds) = .ok (.rt d)) : run n g ds = .ok d := by
  unfold run
  rw [h]
  rfl
theorem run0_rt (h : g (envOf n ds) = .ok (.rt d)) : run0 n g ds = .ok d := by
  unfold run0
  rw [h]
  rfl
theorem run_nx (h : g (envOf n ds) = .ok (.nx e)) : run n g ds = .ok .non := by
  unfold run
  rw [h]
  rfl
theorem seq_nx (h : g1 env = .ok (.nx e)) (hr : g2 e = r) : sSeq g1 g2 env = r := by
  unfold sSeq
  rw [h]
  exact hr
theorem seq_rt (h : g1 env = .ok (.rt d)) : sSeq g1 g2 env = .ok (.rt d) := by
  unfold sSeq
  rw [h]
theorem seq_asg {e1 : Env} (h : fa env = .ok d) (hb : bt d env = .ok e1) (hr : g2 e1 = r) : sSeq (sAsg fa bt) g2 env = r := by
  refine seq_nx ?_ hr
  unfold sAsg
  rw [h, Res.bind_ok, hb]
  rfl
theorem seq_set {i : Nat} (h : fa env = .ok d) (hr : g2 (env.set i (.sh d)) = r) : sSeq (sAsg fa (bNm i)) g2 env = r := seq_asg h rfl hr
theorem seq_ifF (h : fc env = .ok false) (hr : g2 env = r) : sSeq (sIf fc g1 sNil) g2 env = r := by
  refine seq_nx ?_ hr
  unfold sIf
  rw [h]
  rfl
theorem ifF (h : fc env = .ok false) : sIf fc g1 sNil env = .ok (.nx env) := by
  unfold sIf
  rw [h]
  rfl
theorem seq_ifT (h : fc env = .ok true) (hr : g1 env = .ok (.rt d)) : sSeq (sIf fc g1 sNil) g2 env = .ok (.rt d) := by
  refine seq_rt ?_
  unfold sIf
  rw [h]
  exact hr
theorem ret_of (h : fa env = .ok d) : sRet fa env = .ok (.rt d) := by
  unfold sRet
  rw [h]
  rfl
theorem forS_all (I : Env → Prop) : ∀ (ds : List D) (env : Env), I env → (∀ d ∈ ds, ∀ env, I env → ∃ e1, bt d env = .ok e1 ∧ ∃ e2, gb e1 = .ok (.nx e2) ∧ I e2) → ∃ e, forS bt gb ds env = .ok (.nx e) ∧ I e
  | [], env, h, _ => ⟨env, rfl, h⟩
  | d :: ds, env, h, H => by
    obtain ⟨e1, h1, e2, h2, h3⟩ := H d List.mem_cons_self env h
    obtain ⟨e, h4, h5⟩ := forS_all I ds e2 h3 fun d hd => H d (List.mem_cons_of_mem _ hd)
    refine ⟨e, ?_, h5⟩
    show bOk (bt d env) _ = _
    rw [h1, bOk_ok, h2]
    exact h4
theorem for_all (I : Env → Prop) (hi : fi env = .ok ds) (h0 : I env) (H : ∀ d ∈ ds, ∀ env, I env → ∃ e1, bt d env = .ok e1 ∧ ∃ e2, gb e1 = .ok (.nx e2) ∧ I e2) : ∃ e, sFor fi bt gb env = .ok (.nx e) ∧ I e := by
  unfold sFor
  rw [hi]
  exact forS_all I ds env h0 H
theorem seq_for (I : Env → Prop) (hi : fi env = .ok ds) (h0 : I env) (H : ∀ d ∈ ds, ∀ env, I env → ∃ e1, bt d env = .ok e1 ∧ ∃ e2, gb e1 = .ok (.nx e2) ∧ I e2) (hr : ∀ e, I e → g2 e = r) : sSeq (sFor fi bt gb) g2 env = r := by
  obtain ⟨e, h1, h2⟩ := for_all I hi h0 H
  exact seq_nx h1 (hr e h2)
end
theorem mem_enum : ∀ {n : Nat} {ds : List D} {d : D}, d ∈ enumFrom n ds → ∃ (i : Nat) (x : D), x ∈ ds ∧ d = .tup [.int (i : Int), x] ∧ ds[i - n]? = some x ∧ n ≤ i
  | n, [], d, h => by cases h
  | n, y :: ds, d, h => by
    rcases List.mem_cons.mp h with rfl | h
    · exact ⟨n, y, List.mem_cons_self, rfl, by rw [Nat.sub_self]; rfl, Nat.le_refl _⟩
    · obtain ⟨i, x, h1, h2, h3, h4⟩ := mem_enum h
      refine ⟨i, x, List.mem_cons_of_mem _ h1, h2, ?_, by omega⟩
      rw [show i - n = (i - (n + 1)) + 1 by omega]
      exact h3
theorem eqB_self {d : D} {p : PyData} (h0 : scV d = none) (h : toPy d = some p) (hs : SeqAt.shaped p = true) : eqB d d = some true := by
  unfold eqB
  rw [h0, h]
  show (if (SeqAt.shaped p && SeqAt.shaped p) = true then some (PyData.eqv p p) else none) = _
  rw [hs, SeqAt.eqv_refl p (SeqAt.canLay_of_shaped hs)]
  rfl
theorem eqD_self {d : D} {p : PyData} (h0 : scV d = none) (h : toPy d = some p) (hs : SeqAt.shaped p = true) : eqD d d = some (.bl true) := by
  unfold eqD
  rw [eqB_self h0 h hs]
  rfl
theorem neD_self {d : D} {p : PyData} (h0 : scV d = none) (h : toPy d = some p) (hs : SeqAt.shaped p = true) : neD d d = some (.bl false) := by
  unfold neD
  rw [eqB_self h0 h hs]
  rfl
/-- the items of xs[lo:hi:k] are xs's -/
theorem pickG_mem {α : Type} {xs : List α} {lo hi : Option Int} {k : Int} {x : α} (h : x ∈ pickG xs lo hi k) : x ∈ xs := by
  unfold pickG at h
  obtain ⟨i, _, e⟩ := List.mem_filterMap.mp h
  exact List.mem_of_getElem? e
theorem pickG_map {α β : Type} (f : α → β) (xs : List α) (lo hi : Option Int) (k : Int) : pickG (xs.map f) lo hi k = (pickG xs lo hi k).map f := by
  unfold pickG
  rw [List.length_map, List.map_filterMap]
  congr 1
  funext i
  rw [List.getElem?_map]
theorem slSt_map {α : Type} (f : α → D) {xs : List α} {lo hi : Option Int} {k : Int} (hk : k ≠ 0) (hl : xs.length ≤ 1000000) : slStD lo hi (some k) (.lst (xs.map f)) = some (.lst ((pickG xs lo hi k).map f)) := by
  show (if k ≠ 0 ∧ (xs.map f).length ≤ 1000000 then some (D.lst (pickG (xs.map f) lo hi k)) else none) = _
  rw [if_pos ⟨hk, by rw [List.length_map]; exact hl⟩, pickG_map]
end Dt
namespace Dt
open PySem PySem.Spec PyProof.Rows L2
/-! ## attributes -/
def fldD (Cs : List Addr) (f : Str) : D → Option D
  | .ins C fs => if C ∈ Cs then fs.lookup f else none
  | _ => none
def eFld (Cs : List Addr) (f : Str) (fa : Env → Res D) : Env → Res D := eUn (fldD Cs f) fa
section
variable {X : Cx} {W : WX} {e : Expr} {f : Str} {pos : Pos} {fa fb : Env → Res D} {Cs : List Addr}
theorem pd_fld (hC : ∀ C ∈ Cs, Cls X.K C ∧ NoAttr X.K C f) (h : PE X e (tD X.K W fa)) (hb : attributeBase e f X.env (eval e X.env) = eval e X.env := by rfl) : PE X (.Attribute e f pos) (tD X.K W (eFld Cs f fa)) :=
  PE.imp (pe_fld h hb) fun σ H Q h => by
  obtain ⟨H0, env, er, k⟩ := h
  refine ⟨H0, env, er, Kt.seq er k fun x a A B gr er' rx k' => ?_⟩
  obtain ⟨d, e1, q⟩ := kt_ofO er'.sub k'
  cases a with
  | ins C ds =>
    have e1 : (if C ∈ Cs then ds.lookup f else none) = some d := e1
    by_cases c : C ∈ Cs
    · rw [if_pos c] at e1
      cases rx with
      | ins hA rf =>
      obtain ⟨v, e2, rv⟩ := rf.lookup e1
      exact ⟨_, C, _, _, v, rfl, er'.sub _ _ hA, (hC C c).1, (hC C c).2, e2, q v A B (Grow.refl er'.sub) rv⟩
    · rw [if_neg c] at e1
      cases e1
  | _ => cases e1
/-- one way or another -/
def eAlt (f g : Env → Res D) : Env → Res D := fun env => match f env with
  | .no => g env
  | r => r
theorem pd_alt (h1 : PE X e (tD X.K W fa)) (h2 : PE X e (tD X.K W fb)) : PE X e (tD X.K W (eAlt fa fb)) := ⟨fun pins s σ H Q I h => by
  obtain ⟨H0, env, er, k⟩ := h
  cases e1 : fa env with
  | no =>
    refine h2.run pins s σ H Q I ⟨H0, env, er, ?_⟩
    unfold eAlt at k
    rw [e1] at k
    exact k
  | ex C =>
    refine h1.run pins s σ H Q I ⟨H0, env, er, ?_⟩
    unfold eAlt at k
    rw [e1] at k ⊢
    exact k
  | ok a =>
    refine h1.run pins s σ H Q I ⟨H0, env, er, ?_⟩
    unfold eAlt at k
    rw [e1] at k ⊢
    exact k⟩
end
/-! ## methods -/
def noEx {α : Type} : Res α → Res α
  | .ex _ => .no
  | r => r
def eMth (C : Addr) (m : Str) (φ : List D → Res D) (fo : Env → Res D) (fl : Env → Res (List D)) : Env → Res D := fun env => (fo env).bind fun o => match o with
  | .ins C' fs => if C' = C ∧ (fs.lookup m).isNone = true then (fl env).bind fun ds => noEx (φ (.ins C' fs :: ds)) else .no
  | _ => .no
theorem repf_isNone {K : PySem.W.Frag} {H : Hp} {f : Str} {vs : List (Str × V)} {ds : List (Str × D)} (r : Repf K H vs ds) (h : (ds.lookup f).isNone = true) : vs.lookup f = none := by
  refine r.none_of ?_
  cases e : ds.lookup f with
  | none => rfl
  | some d => rw [e] at h; cases h
theorem cx_false {P : Program} {w : World} {st : List PySem.Env} (H : Hp) (s : Shared) (e : Value) (s' : Shared) (h : L2N.CX P w st H s (fun _ _ _ => False) e s') : False := by
  obtain ⟨_, _, _, _, _, _, _, _, _, _, _, _, z⟩ := h
  exact z.elim
section
variable {X : Cx} {W : WX} {k n : Nat} {f C : Addr} {ps : List Str} {φ : List D → Res D} {x m : Str} {p pos apos : Pos} {e o : Expr} {es : List Expr} {fo : Env → Res D} {fl : Env → Res (List D)}
theorem pd_meth (F : Held X.prog X.w X.K X.mg X.base k f ps φ) (hr : Room k X.A) (c : Cls X.K C) (hm : Meth X.K C m f) (ho : PE X o (tD X.K W fo)) (ha : PA X (e :: es) (tDs X.K W fl)) (hn : ArgE n fl) (hps : ps.length = n + 1 := by rfl)
    (hst : starEach (e :: es) X.env = (false, eval e X.env) :: starEach es X.env := by rfl) (hpl : (backTo pos (starEach es X.env)).any (·.1) = false := by rfl) {pl : Sem Bool}
    (ht : eval (.Call (.Attribute o m apos) (e :: es) [] pos) X.env = (do
      let ov ← eval o X.env
      standAt apos.atName
      let (f, first) ← holding [ov] (getMethod ov m pl)
      callWith pos f first (backTo pos (starEach (e :: es) X.env)) (backToKw pos (keywordEach [] X.env))) := by rfl) :
    PE X (.Call (.Attribute o m apos) (e :: es) [] pos) (tD X.K W (eMth C m φ fo fl)) := by
  obtain ⟨fd, F, b, kp⟩ := F
  refine PE.imp (pe_meth (pl := pl) (E := fun _ _ _ => False) ho c hm F hr b .nil (fun pins σ H s e s' I h => (cx_false H s e s' h).elim) ha hst hpl ht) fun σ H Q h => ?_
  obtain ⟨H0, env, er, k⟩ := h
  refine ⟨H0, env, er, Kt.seq er k fun x a A B gr er' rx k' => ?_⟩
  cases a with
  | ins C' ds =>
    replace k' : Kt (rD X.K) W σ A B (if C' = C ∧ (ds.lookup m).isNone = true then (fl env).bind fun es => noEx (φ (.ins C' ds :: es)) else .no) Q := k'
    by_cases c : C' = C ∧ (ds.lookup m).isNone = true
    · rw [if_pos c] at k'
      obtain ⟨c1, c2⟩ := c
      cases rx with
      | ins hA rf =>
      refine ⟨_, _, _, rfl, by rw [← c1]; exact er'.sub _ _ hA, repf_isNone rf c2, A, env, er', ?_⟩
      have hl := hn env
      cases e1 : fl env with
      | no => rw [e1] at k'; exact k'
      | ex C => rw [e1] at k'; exact k'
      | ok es =>
        rw [e1] at k'
        intro xs A2 B2 g2 rs
        rw [List.append_nil]
        have k2 := Kt.shift g2 k'
        refine ⟨A2, .ins C' ds :: es, g2.sub, .cons ((Rep.ins hA rf).mono g2.s0) rs, by rw [List.length_cons, hl es e1, hps], ?_⟩
        cases e2 : φ (.ins C' ds :: es) with
        | no => rw [Res.bind_ok, e2] at k2; exact k2
        | ex C => rw [Res.bind_ok, e2] at k2; exact k2.elim
        | ok d => rw [Res.bind_ok, e2] at k2; exact k2
    · rw [if_neg c] at k'
      exact k'.elim
  | _ => exact k'.elim
end
/-! ## instances made -/
/-- fields: known ones, and lists of one's own -/
inductive RepO (K : PySem.W.Frag) (A H H' : Hp) : List Addr → List (Str × V) → List (Str × D) → Prop
  | nil : RepO K A H H' [] [] []
  | sh {L : List Addr} {vs : List (Str × V)} {ds : List (Str × D)} {n : Str} {v : V} {d : D} : isLst d = false → Rep K A v d → RepO K A H H' L vs ds → RepO K A H H' L ((n, v) :: vs) ((n, d) :: ds)
  | ow {L : List Addr} {vs : List (Str × V)} {ds : List (Str × D)} {n : Str} {q : Addr} {ws : List V} {es : List D} : H q = none → H' q = some (.lst ws) → Reps K A ws es → q ∉ L → RepO K A H H' L vs ds → RepO K A H H' (q :: L) ((n, .ref q) :: vs) ((n, .lst es) :: ds)
section
variable {K : PySem.W.Frag} {A A' H H' H'' : Hp} {L : List Addr} {vs : List (Str × V)} {ds : List (Str × D)}
theorem RepO.heap (h : RepO K A H H' L vs ds) (k : ∀ q ∈ L, H'' q = H' q) : RepO K A H H'' L vs ds := by
  induction h with
  | nil => exact .nil
  | sh nl r _ ih => exact .sh nl r (ih k)
  | ow h1 h2 h3 h4 _ ih => exact .ow h1 ((k _ List.mem_cons_self).trans h2) h3 h4 (ih fun q hq => k q (List.mem_cons_of_mem _ hq))
theorem RepO.known (h : RepO K A H H' L vs ds) (s : Same A A') : RepO K A' H H' L vs ds := by
  induction h with
  | nil => exact .nil
  | sh nl r _ ih => exact .sh nl (r.mono s) ih
  | ow h1 h2 h3 h4 _ ih => exact .ow h1 h2 (h3.mono s) h4 ih
theorem RepO.new (h : RepO K A H H' L vs ds) : ∀ q ∈ L, H q = none ∧ ∃ ws, H' q = some (.lst ws) := by
  induction h with
  | nil => exact fun q hq => (by cases hq)
  | sh nl r _ ih => exact ih
  | ow h1 h2 h3 h4 _ ih =>
    intro q hq
    rcases List.mem_cons.mp hq with rfl | hq
    · exact ⟨h1, _, h2⟩
    · exact ih q hq
theorem RepO.sh_end {n : Str} {v : V} {d : D} (h : RepO K A H H' L vs ds) (hn : isLst d = false) (r : Rep K A v d) : RepO K A H H' L (vs ++ [(n, v)]) (ds ++ [(n, d)]) := by
  induction h with
  | nil => exact .sh hn r .nil
  | sh nl r' _ ih => exact .sh nl r' ih
  | ow h1 h2 h3 h4 _ ih => exact .ow h1 h2 h3 h4 ih
theorem RepO.ow_end {n : Str} {q : Addr} {ws : List V} {es : List D} (h : RepO K A H H' L vs ds) (h1 : H q = none) (h2 : H' q = some (.lst ws)) (h3 : Reps K A ws es) (h4 : q ∉ L) : RepO K A H H' (L ++ [q]) (vs ++ [(n, .ref q)]) (ds ++ [(n, .lst es)]) := by
  induction h with
  | nil => exact .ow h1 h2 h3 (by simp) .nil
  | sh nl r' _ ih => exact .sh nl r' (ih h4)
  | ow g1 g2 g3 g4 _ ih =>
    refine .ow g1 g2 g3 ?_ (ih fun z => h4 (List.mem_cons_of_mem _ z))
    intro z
    rcases List.mem_append.mp z with z | z
    · exact g4 z
    · rcases List.mem_singleton.mp z with rfl
      exact h4 List.mem_cons_self
theorem RepO.names (h : RepO K A H H' L vs ds) : vs.map (·.1) = ds.map (·.1) := by
  induction h with
  | nil => rfl
  | sh nl r _ ih => rw [List.map_cons, List.map_cons, ih]
  | ow h1 h2 h3 h4 _ ih => rw [List.map_cons, List.map_cons, ih]
/-- all known -/
theorem RepO.repf (h : RepO K A H H' L vs ds) (s : Same A A') (k : ∀ q ∈ L, A' q = H' q) : Repf K A' vs ds := by
  induction h with
  | nil => exact .nil
  | sh nl r _ ih => exact .cons (r.mono s) (ih k)
  | ow h1 h2 h3 h4 _ ih => exact .cons (.lst (SqL.of ((k _ List.mem_cons_self).trans h2)) (h3.mono s)) (ih fun q hq => k q (List.mem_cons_of_mem _ hq))
end
theorem putF_new (f : Str) (y : V) : ∀ fs : List (Str × V), f ∉ fs.map (·.1) → putF f y fs = fs ++ [(f, y)]
  | [], _ => rfl
  | (g, x) :: r, h => by
    have ne : g ≠ f := fun z => h (by rw [List.map_cons, z]; exact List.mem_cons_self)
    show (if g = f then (g, y) :: r else (g, x) :: putF f y r) = _
    rw [if_neg ne, putF_new f y r fun z => h (by rw [List.map_cons]; exact List.mem_cons_of_mem _ z)]
    rfl
abbrev Fs := List (Str × D)
/-- what an __init__ promises -/
def spI (K : PySem.W.Frag) (C : Addr) (n : Nat) (g : List D → Option Fs) : Sp := fun vs H Q _ => ∃ x dx us A ds fs, vs = .ref x :: us ∧ H x = some (.ins C dx []) ∧ A x = none ∧ Same A H ∧ Reps K A us ds ∧ ds.length = n ∧ g ds = some fs ∧
  ∀ vfs L H', (∀ b o, b ≠ x → H b = some o → H' b = some o) → H' x = some (.ins C dx vfs) → RepO K A H H' L vfs fs → Q .non H'
theorem spI_len {K : PySem.W.Frag} {C : Addr} {n : Nat} {g : List D → Option Fs} {ps : List Str} (h : ps.length = n + 1) : ∀ vs H Q E, spI K C n g vs H Q E → vs.length = ps.length := fun vs H Q E ⟨x, dx, us, A, ds, fs, e, _, _, _, r, l, _⟩ => by
  rw [e, List.length_cons, r.length, l, h]
def noOw (env : Env) : Prop := ∀ (i : Nat), (∀ ds : List D, env[i]? ≠ some (.ow ds)) ∧ ∀ C fs, env[i]? ≠ some (.oi C fs)
theorem ER.plain {K : PySem.W.Frag} {σ : L2.St} {A H H' : Hp} {env : Env} (r : ER K σ A H env) (n : noOw env) (s : Same A H') : ER K σ A H' env :=
  ⟨s, r.len, r.sh, fun i ds e => ((n i).1 ds e).elim, r.ap, fun i C fs e => ((n i).2 C fs e).elim, r.o1⟩
def Gi := Env → Fs → Option Fs
structure Ini (K : PySem.W.Frag) (C x dx : Addr) (A H0 : Hp) (env : Env) (σ : L2.St) (H : Hp) (vfs : List (Str × V)) (L : List Addr) (fs : Fs) : Prop where
  sl : σ[0]? = some (some (.ref x))
  er : ER K σ A H env
  no : noOw env
  ax : A x = none
  sm : Same A H0
  hx : H x = some (.ins C dx vfs)
  keep : ∀ b o, b ≠ x → H0 b = some o → H b = some o
  old : H0 x ≠ none
  rp : RepO K A H0 H L vfs fs
  few : fs.length ≤ 30
def tIn (K : PySem.W.Frag) (C : Addr) (g : Gi) : TS := fun Dd σ H => ∃ x dx A H0 env vfs L fs, Ini K C x dx A H0 env σ H vfs L fs ∧ ∃ fs', g env fs = some fs' ∧
  ∀ vfs' L' H', Ini K C x dx A H0 env σ H' vfs' L' fs' → Dd.nx σ H'
def inNil : Gi := fun _ fs => some fs
def inSeq (g1 g2 : Gi) : Gi := fun env fs => (g1 env fs).bind fun fs' => g2 env fs'
def inSh (f : Str) (i : Nat) : Gi := fun env fs => match env[i]? with
  | some (.sh d) => if (f ∉ fs.map (·.1) ∧ fs.length < 30) ∧ isLst d = false then some (fs ++ [(f, d)]) else none
  | _ => none
def inLs (f : Str) (i : Nat) : Gi := fun env fs => match env[i]? with
  | some (.sh (.lst ds)) => if f ∉ fs.map (·.1) ∧ fs.length < 30 then some (fs ++ [(f, .lst ds)]) else none
  | _ => none
section
variable {X : Cx} {C : Addr} {g g1 g2 : Gi} {st : Stmt} {rest : List Stmt} {f x0 y : Str} {p0 p1 p2 p3 pos : Pos}
theorem in_nil : PSs X [] (tIn X.K C inNil) := PSs.imp pss_nil fun Dd σ H h => by
  obtain ⟨x, dx, A, H0, env, vfs, L, fs, I, fs', e, q⟩ := h
  cases e
  exact q vfs L H I
theorem in_cons (h1 : PS X st (tIn X.K C g1)) (h2 : PSs X rest (tIn X.K C g2)) : PSs X (st :: rest) (tIn X.K C (inSeq g1 g2)) := PSs.imp (pss_cons h1 h2) fun Dd σ H h => by
  obtain ⟨x, dx, A, H0, env, vfs, L, fs, I, fs', e, q⟩ := h
  unfold inSeq at e
  cases e1 : g1 env fs with
  | none => rw [e1] at e; cases e
  | some f1 =>
    rw [e1] at e
    exact ⟨x, dx, A, H0, env, vfs, L, fs, I, f1, e1, fun vfs' L' H' I' => ⟨x, dx, A, H0, env, vfs', L', f1, I', fs', e, q⟩⟩
theorem ini_put {K : PySem.W.Frag} {x dx : Addr} {A H0 : Hp} {env : Env} {σ : L2.St} {H : Hp} {vfs : List (Str × V)} {L : List Addr} {fs : Fs} {v : V} {d : D} (I : Ini K C x dx A H0 env σ H vfs L fs) (hn : isLst d = false) (r : Rep K A v d) (hf : f ∉ fs.map (·.1)) (hl : fs.length < 30) :
    Ini K C x dx A H0 env σ (upd H x (.ins C dx (putF f v vfs))) (putF f v vfs) L (fs ++ [(f, d)]) := by
  have e : putF f v vfs = vfs ++ [(f, v)] := putF_new f v vfs (by rw [I.rp.names]; exact hf)
  have sub : Same A (upd H x (.ins C dx (putF f v vfs))) := fun b o z => by
    rw [upd_ne (ne_of_none z I.ax)]
    exact I.er.sub b o z
  refine ⟨I.sl, I.er.plain I.no sub, I.no, I.ax, I.sm, upd_same, fun b o hb z => by rw [upd_ne hb]; exact I.keep b o hb z, I.old, ?_, by rw [List.length_append]; show fs.length + 1 ≤ 30; omega⟩
  rw [e]
  refine (I.rp.sh_end hn r).heap fun q hq => ?_
  have ne : q ≠ x := fun z => I.old (z ▸ (I.rp.new q hq).1)
  rw [upd_ne ne]
/-- self.f = y -/
theorem in_sh (c : Cls X.K C) (hf : NoAttr X.K C f) (i : Nat) (hN0 : X.N[0]? = some x0 := by rfl) (hv0 : Vis X.env.scope x0 := by first | exact Or.inl rfl | exact Or.inr (Or.inl rfl)) (hN : X.N[i]? = some y := by rfl) (hv : Vis X.env.scope y := by first | exact Or.inl rfl | exact Or.inr (Or.inl rfl))
    (hs : swapsWith (.Name y p3) (some (.Attribute (.Name x0 p1) f p2)) pos.line X.env = pure false := by rfl) (hd0 : (x0 == ("__debug__" : Str)) = false := by decide) (hcd0 : (x0 == ("__classdict__" : Str)) = false := by decide) (hd : (y == ("__debug__" : Str)) = false := by decide) (hcd : (y == ("__classdict__" : Str)) = false := by decide) :
    PS X (.Assign [.Attribute (.Name x0 p1) f p2] (.Name y p3) pos) (tIn X.K C (inSh f i)) := PS.imp (ps_fld (pe_var hN0 hv0 hd0 hcd0) (pe_var hN hv hd hcd) hs) fun Dd σ H h => by
  obtain ⟨x, dx, A, H0, env, vfs, L, fs, I, fs', e, q⟩ := h
  unfold inSh at e
  cases e1 : env[i]? with
  | none => rw [e1] at e; cases e
  | some s =>
    rw [e1] at e
    cases s with
    | no => cases e
    | ow ds => cases e
    | oi C fs => cases e
    | sh d =>
      have e : (if (f ∉ fs.map (·.1) ∧ fs.length < 30) ∧ isLst d = false then some (fs ++ [(f, d)]) else none) = some fs' := e
      by_cases cc : (f ∉ fs.map (·.1) ∧ fs.length < 30) ∧ isLst d = false
      · rw [if_pos cc] at e
        cases e
        obtain ⟨v, h1, h2⟩ := I.er.sh i d e1
        have lv : vfs.length = fs.length := by
          have z := congrArg List.length I.rp.names
          rwa [List.length_map, List.length_map] at z
        exact ⟨v, h1, .ref x, I.sl, x, C, dx, vfs, rfl, I.hx, c, hf, by rw [lv]; omega, q _ _ _ (ini_put I cc.2 h2 cc.1.1 cc.1.2)⟩
      · rw [if_neg cc] at e
        cases e
/-- self.f = list(y) -/
theorem in_ls (c : Cls X.K C) (hf : NoAttr X.K C f) (i : Nat) (hg : Gl X "list") (hm : X.mg "list" = none) {pc : Pos} (hN0 : X.N[0]? = some x0 := by rfl) (hv0 : Vis X.env.scope x0 := by first | exact Or.inl rfl | exact Or.inr (Or.inl rfl)) (hN : X.N[i]? = some y := by rfl) (hv : Vis X.env.scope y := by first | exact Or.inl rfl | exact Or.inr (Or.inl rfl))
    (hs : swapsWith (.Call (.Name "list" p0) [.Name y p3] [] pc) (some (.Attribute (.Name x0 p1) f p2)) pos.line X.env = pure false := by rfl) (he : starEach [.Name y p3] X.env = (false, eval (.Name y p3) X.env) :: starEach [] X.env := by rfl) (hpl : (backTo pc (starEach ([] : List Expr) X.env)).any (·.1) = false := by rfl) (hd0 : (x0 == ("__debug__" : Str)) = false := by decide) (hcd0 : (x0 == ("__classdict__" : Str)) = false := by decide) (hd : (y == ("__debug__" : Str)) = false := by decide) (hcd : (y == ("__classdict__" : Str)) = false := by decide) :
    PS X (.Assign [.Attribute (.Name x0 p1) f p2] (.Call (.Name "list" p0) [.Name y p3] [] pc) pos) (tIn X.K C (inLs f i)) := PS.imp (ps_fld (pe_var hN0 hv0 hd0 hcd0) (pe_callTy call_list_of hg hm (by decide +kernel) (pa_cons (pe_var hN hv hd hcd) pa_nil he) (by decide) (by decide) he hpl) hs) fun Dd σ H h => by
  obtain ⟨x, dx, A, H0, env, vfs, L, fs, I, fs', e, q⟩ := h
  unfold inLs at e
  cases e1 : env[i]? with
  | none => rw [e1] at e; cases e
  | some s =>
    rw [e1] at e
    cases s with
    | no => cases e
    | ow ds => cases e
    | oi C fs => cases e
    | sh d =>
      cases d with
      | lst ds =>
        have e : (if f ∉ fs.map (·.1) ∧ fs.length < 30 then some (fs ++ [(f, D.lst ds)]) else none) = some fs' := e
        by_cases cc : f ∉ fs.map (·.1) ∧ fs.length < 30
        · rw [if_pos cc] at e
          cases e
          obtain ⟨v, h1, h2⟩ := I.er.sh i (.lst ds) e1
          cases h2 with
          | @lst a vs _ hq rr =>
          have lv : vfs.length = fs.length := by
            have z := congrArg List.length I.rp.names
            rwa [List.length_map, List.length_map] at z
          refine ⟨_, h1, a, vs, rfl, .inl (Same.seq I.er.sub hq), fun l hl => ⟨.ref x, I.sl, x, C, dx, vfs, rfl, ?_, c, hf, by rw [lv]; omega, q (putF f (.ref l) vfs) (L ++ [l]) _ ?_⟩⟩
          · rw [upd_ne (ne_of_none I.hx hl)]
            exact I.hx
          · have nx : x ≠ l := ne_of_none I.hx hl
            have al : A l = none := Same.free I.er.sub hl
            have e : putF f (.ref l) vfs = vfs ++ [(f, .ref l)] := putF_new f _ vfs (by rw [I.rp.names]; exact cc.1)
            have h0l : H0 l = none := by
              cases z : H0 l with
              | none => rfl
              | some o =>
                have := I.keep l o (Ne.symm nx) z
                rw [hl] at this
                cases this
            have nL : l ∉ L := fun z => by
              obtain ⟨ws, h2⟩ := (I.rp.new l z).2
              rw [hl] at h2
              cases h2
            refine ⟨I.sl, I.er.plain I.no fun b o z => ?_, I.no, I.ax, I.sm, upd_same, fun b o hb z => ?_, I.old, ?_, by rw [List.length_append]; show fs.length + 1 ≤ 30; omega⟩
            · rw [upd_ne (ne_of_none z I.ax), upd_ne (ne_of_none z al)]
              exact I.er.sub b o z
            · rw [upd_ne hb, upd_ne (ne_of_none z h0l)]
              exact I.keep b o hb z
            · rw [e]
              have base : RepO X.K A H0 (upd (upd H l (.lst vs)) x (.ins C dx (vfs ++ [(f, .ref l)]))) L vfs fs := I.rp.heap fun p hp => by
                have n1 : p ≠ x := fun z => I.old (z ▸ (I.rp.new p hp).1)
                have n2 : p ≠ l := fun z => nL (z ▸ hp)
                rw [upd_ne n1, upd_ne n2]
              exact base.ow_end h0l (by rw [upd_ne (Ne.symm nx), upd_same]) rr nL
        · rw [if_neg cc] at e
          cases e
      | _ => cases e
end
section
variable {P : Program} {w : World} {K : PySem.W.Frag} {mg : Str → Option Value} {base : Heap} {x qual : Str} {params : Arguments} {body : List Stmt} {scope : Scope} {f C : Addr} {fd : FuncData}
/-- an __init__ that sets fields: no names of its own but the parameters -/
theorem fn_init {N ps : List Str} {n : Nat} {g : Gi} (F : L2.FunD K x qual params body scope [] [] f fd) (S : FnScope N ps scope) (hps : ps.length = n + 1) (hN : N.length = n + 1)
    (hb : ∀ (cdv : Value) (A : Around) (outer : List PySem.Env) (s : Shared) (H : Hp) (E : XK), Room 0 (A.deeper (envOfC qual scope s.heap.objs.size f cdv)) →
      PSs (cxOf (L2N.CX P w) P w K mg base N qual scope f cdv A outer s H E) body (tIn K C g)) : FnOk P w K mg base (L2N.CX P w) 1 f fd ps (spI K C n fun ds => g (.no :: ds.map Sl.sh) []) := by
  refine F.ok S (spI_len hps) fun cdv A outer s H vs Q E hr h => ?_
  obtain ⟨x, dx, us, A0, ds, fs, rfl, hx, ax, sm, r, hl, hg, q⟩ := h
  refine ⟨_, hb cdv A outer s H E hr, x, dx, A0, H, .no :: ds.map Sl.sh, [], [], [], ⟨rfl, ?_, ?_, ax, sm, hx, fun b o _ z => z, by rw [hx]; exact fun z => (by cases z), .nil, by decide⟩, fs, hg, fun vfs L H' I => q vfs L H' I.keep I.hx I.rp⟩
  · have er := er_start (K := K) (N := N) (vs := .non :: us) (ds := .non :: ds) sm (.cons .non r)
    have er2 := er.forget (i := 0) (o := some (.ref x))
    have e1 : (L2.start N (V.non :: us)).set 0 (some (.ref x)) = L2.start N (.ref x :: us) := rfl
    have e2 : (envOf N.length (D.non :: ds)).set 0 .no = .no :: ds.map Sl.sh := by
      unfold envOf
      rw [List.length_cons, hl, hN, Nat.sub_self]
      simp
    rw [e1, e2] at er2
    exact er2
  · have key : ∀ (i : Nat) (s : Sl), (Sl.no :: ds.map Sl.sh)[i]? = some s → s = .no ∨ ∃ d, s = .sh d := fun i s z => by
      cases i with
      | zero => cases z; exact .inl rfl
      | succ i =>
        rw [List.getElem?_cons_succ, List.getElem?_map] at z
        cases e : ds[i]? with
        | none => rw [e] at z; cases z
        | some d => rw [e] at z; cases z; exact .inr ⟨_, rfl⟩
    refine fun i => ⟨fun es z => ?_, fun C fs z => ?_⟩
    · rcases key i _ z with w | ⟨d, w⟩ <;> cases w
    · rcases key i _ z with w | ⟨d, w⟩ <;> cases w
end
def HeldI (P : Program) (w : World) (K : PySem.W.Frag) (mg : Str → Option Value) (base : Heap) (f : Addr) (C : Addr) (n : Nat) (g : List D → Option Fs) : Prop :=
  ∃ fd ps, FnOk P w K mg base (L2N.CX P w) 1 f fd ps (spI K C n g) ∧ Binds K fd ps []
def eMk (C : Addr) (g : List D → Option Fs) (fl : Env → Res (List D)) : Env → Res D := fun env => (fl env).bind fun ds => match g ds with
  | some fs => .ok (.ins C fs)
  | none => .no
/-- the known part with the new instance -/
theorem grow_ins {K : PySem.W.Frag} {A B H' : Hp} {C x dx : Addr} {vfs : List (Str × V)} {L : List Addr} {fs : Fs} (sub : Same A B) (hx : B x = none) (hd : B dx = none) (ne : dx ≠ x)
    (kp : ∀ b o, b ≠ x → upd (upd B dx (.own x)) x (.ins C dx []) b = some o → H' b = some o) (h' : H' x = some (.ins C dx vfs)) (r : RepO K A (upd (upd B dx (.own x)) x (.ins C dx [])) H' L vfs fs) :
    ∃ A', Grow A B A' H' ∧ Rep K A' (.ref x) (.ins C fs) := by
  classical
  have ax : A x = none := Same.free sub hx
  have hL : ∀ q ∈ L, B q = none ∧ q ≠ x := fun q hq => by
    have z := (r.new q hq).1
    have n1 : q ≠ x := fun e => by rw [e, upd_same] at z; cases z
    rw [upd_ne n1] at z
    have n2 : q ≠ dx := fun e => by rw [e, upd_same] at z; cases z
    rw [upd_ne n2] at z
    exact ⟨z, n1⟩
  let A' : Hp := fun b => if b = x ∨ b ∈ L then H' b else A b
  have sA : Same A A' := fun b o e => by
    show (if b = x ∨ b ∈ L then H' b else A b) = some o
    by_cases c : b = x ∨ b ∈ L
    · rcases c with rfl | c
      · rw [ax] at e; cases e
      · have := Same.free sub (hL b c).1
        rw [this] at e; cases e
    · rw [if_neg c]; exact e
  have bk : Same B H' := fun b o e => by
    have n1 : b ≠ x := ne_of_none e hx
    have n2 : b ≠ dx := ne_of_none e hd
    exact kp b o n1 (by rw [upd_ne n1, upd_ne n2]; exact e)
  refine ⟨A', ⟨sA, bk, fun b o e => ?_, fun p hp e => ?_⟩, .ins (dx := dx) (fs := vfs) ?_ (r.repf sA fun q hq => ?_)⟩
  · have e : (if b = x ∨ b ∈ L then H' b else A b) = some o := e
    by_cases c : b = x ∨ b ∈ L
    · rw [if_pos c] at e; exact e
    · rw [if_neg c] at e; exact bk b o (sub b o e)
  · show (if p = x ∨ p ∈ L then H' p else A p) = none
    rw [if_neg]
    · exact e
    · rintro (rfl | c)
      · exact hp hx
      · exact hp (hL p c).1
  · show (if x = x ∨ x ∈ L then H' x else A x) = _
    rw [if_pos (.inl rfl)]
    exact h'
  · show (if q = x ∨ q ∈ L then H' q else A q) = _
    rw [if_pos (.inr hq)]
section
variable {X : Cx} {W : WX} {n : Nat} {f C : Addr} {g : List D → Option Fs} {x : Str} {p pos : Pos} {e : Expr} {es : List Expr} {fl : Env → Res (List D)}
theorem pd_make (F : HeldI X.prog X.w X.K X.mg X.base f C n g) (hr : Room 2 X.A) (M : Mk X.K C f) (hg : Gl X x) (hm : X.mg x = some (.ref C)) (ha : PA X (e :: es) (tDs X.K W fl)) (hn : ArgE n fl)
    (hdb : (x == ("__debug__" : Str)) = false := by decide) (he : starEach (e :: es) X.env = (false, eval e X.env) :: starEach es X.env := by rfl) (hpl : (backTo pos (starEach es X.env)).any (·.1) = false := by rfl) :
    PE X (.Call (.Name x p) (e :: es) [] pos) (tD X.K W (eMk C g fl)) := by
  obtain ⟨fd, ps, F, b⟩ := F
  refine PE.imp (pe_make (E := fun _ _ _ => False) M F hr hg hm b .nil (fun pins σ H s e s' I h => (cx_false H s e s' h).elim) ha hdb he hpl) fun σ H Q h => ?_
  obtain ⟨H0, env, er, k⟩ := h
  have hl := hn env
  refine ⟨H0, env, er, ?_⟩
  unfold eMk at k
  cases e1 : fl env with
  | no => rw [e1] at k; exact k
  | ex C => rw [e1] at k; exact k
  | ok ds =>
    rw [e1, Res.bind_ok] at k
    intro us A B gr r x dx hx hd ne
    have hle := hl ds e1
    have er' := er.grow gr
    have k' := Kt.shift gr k
    rw [List.append_nil]
    cases e2 : g ds with
    | none => rw [e2] at k'; exact k'.elim
    | some fs =>
      rw [e2] at k'
      have ax : A x = none := Same.free er'.sub hx
      refine ⟨x, dx, us, A, ds, fs, rfl, upd_same, ax, fun b o z => ?_, r, hle, e2, fun vfs L H' kp hx' ro => ⟨rfl, ?_⟩⟩
      · rw [upd_ne (ne_of_none z ax), upd_ne (ne_of_none z (Same.free er'.sub hd))]
        exact er'.sub b o z
      · obtain ⟨A', gr', rp⟩ := grow_ins er'.sub hx hd ne kp hx' ro
        exact k' _ A' H' gr' rp
end
end Dt
namespace Dt
open PySem PySem.Spec PyProof.Rows L2
/-! ## C() of a class without an own __init__ -/
section
open PySem.W
theorem bk_oinit : builtinKind "object.__init__" = some .slot := by decide +kernel
theorem sp_oinit : splitId "object.__init__" = some ("object", "__init__") := by decide +kernel
theorem bind_oinit (self : Value) : bindSpecial (.builtin "object.__init__") self = pure (.builtin "object.__init__", [self]) := PySem.F.slot_object_init.bind self
theorem oinit_ok {prog : Program} {w : World} {A : Around} {K : Frag} {C x dx : Addr} {s : Shared} {R : Result → Shared → Prop} (X : K.In s.heap) (hx : s.heap.get? x = some (instObj C dx)) (hm : mroIn K C (.type "object") = some true)
    (h : R (.ok (.ret .none)) s) : codeAny (model prog w) A (.call (.builtin "object.__init__") ⟨[.ref x], []⟩) R s := by
  have t1 : Looks (model prog w) s.heap (typeOf (.ref x)) (.ref C) := (Looks.ld hx).andThen .now
  have sub : Looks (model prog w) s.heap (isInstance (.ref x) (.type "object")) true := t1.andThen (looks_mroIn X hm)
  refine codeAny_call_builtin PySem.F.slot_object_init.plain PySem.F.entry_object_init (check_slot bk_oinit sp_oinit sub (PySem.F.args_object_init_1 _) ?_)
  unfold Builtin.«object.__init__»
  show wpAny _ _ (pure (Fin.done (.ret Value.none))) _ _ _
  exact wpAny_pure h
end
structure Mk0 (K : PySem.W.Frag) (C : Addr) : Prop where
  makes : PySem.W.makesIn K C = true
  init : PySem.W.findIn K (.ref C) "__init__" = some (some (.builtin "object.__init__"))
  mro : PySem.W.mroIn K C (.type "object") = some true
  kp : PySem.W.keepIn K (.ref C) = true
section
variable {X : Cx} {W : WX} {C : Addr} {x : Str} {p pos : Pos}
def tMake0 (C : Addr) : TE := fun σ H Q => ∀ x dx, H x = none → H dx = none → dx ≠ x → Q (.ref x) (upd (upd H dx (.own x)) x (.ins C dx []))
theorem pe_make0b (M : Mk0 X.K C) (hg : Gl X x) (hm : X.mg x = some (.ref C)) (hdb : (x == ("__debug__" : Str)) = false := by decide) : PE X (.Call (.Name x p) [] [] pos) (tMake0 C) := by
  refine ⟨fun pins s σ H Q I h => ?_⟩
  refine wpAny_Call_Name_kw (ld_glob I hg hm ?_ hdb)
  refine PySem.W.callWith_K0 I.kIn M.kp ?_
  have hq := h (s.heap.objs.size + 1) s.heap.objs.size (I.hok.fresh (Nat.le_succ _)) (I.hok.fresh (Nat.le_refl _)) (Nat.ne_of_lt (Nat.lt_succ_self _))
  have I2 := Inv.made (C := C) I
  have e2 : ((s.heap.push PySem.W.emptyDict).push (PySem.W.instObj C s.heap.objs.size)).get? (s.heap.objs.size + 1) = some (PySem.W.instObj C s.heap.objs.size) := by
    have := Heap.get?_push_size (s.heap.push PySem.W.emptyDict) (o := PySem.W.instObj C s.heap.objs.size) rfl
    rwa [Heap.size_push] at this
  refine wpAny_call (make_map0 I.kIn M.makes M.init (fun self => PySem.W.Looks.of_pure (bind_oinit self)) (oinit_ok I2.kIn e2 M.mro ⟨rfl, ?_⟩))
  exact ⟨V.ref (s.heap.objs.size + 1), _, I2, rfl, hq⟩
def eMk0 (C : Addr) : Env → Res D := fun _ => .ok (.ins C [])
theorem pd_make0b (M : Mk0 X.K C) (hg : Gl X x) (hm : X.mg x = some (.ref C)) (hdb : (x == ("__debug__" : Str)) = false := by decide) : PE X (.Call (.Name x p) [] [] pos) (tD X.K W (eMk0 C)) :=
  PE.imp (pe_make0b M hg hm hdb) fun σ H Q h => by
  obtain ⟨H0, env, er, k⟩ := h
  intro x dx hx hd ne
  obtain ⟨A', gr', rp⟩ := grow_ins (K := X.K) (C := C) (vfs := []) (L := []) (fs := []) er.sub hx hd ne (H' := upd (upd H dx (.own x)) x (.ins C dx [])) (fun b o _ z => z) upd_same .nil
  exact k _ A' _ gr' rp
end
/-! ## int(truth) -/
def intD : List D → Option D
  | [.int i] => some (.int i)
  | [.bl b] => some (.int (if b then 1 else 0))
  | _ => none
theorem good_intb {K : PySem.W.Frag} : GoodN K (fun xs H Q => (∃ i, xs = [.int i] ∧ Q (.int i) H) ∨ ∃ k, xs = [.bl k] ∧ Q (.int (if k then 1 else 0)) H) intD := by
  intro H0 H xs as d Q s r e q
  match as, e with
  | [.int i], e =>
    obtain ⟨v, rfl, rv⟩ := reps1 r
    cases rv
    cases e
    exact .inl ⟨i, rfl, q _ _ _ (Grow.refl s) (.int _)⟩
  | [.bl b], e =>
    obtain ⟨v, rfl, rv⟩ := reps1 r
    cases rv
    cases e
    exact .inr ⟨b, rfl, q _ _ _ (Grow.refl s) (.int _)⟩
section
variable {X : Cx} {W : WX} {e : Expr} {es : List Expr} {pos p : Pos} {fl : Env → Res (List D)}
theorem pd_int1 (hg : Gl X "int") (hm : X.mg "int" = none) (ha : PA X (e :: es) (tDs X.K W fl)) (he : starEach (e :: es) X.env = (false, eval e X.env) :: starEach es X.env := by rfl) (hpl : (backTo pos (starEach es X.env)).any (·.1) = false := by rfl) :
    PE X (.Call (.Name "int" p) (e :: es) [] pos) (tD X.K W (eFn intD fl)) := pd_fnT call_int1 good_intb (by decide +kernel) hg hm ha (by decide) (by decide) he hpl
end
/-! ## x in (a, b) -/
def toScs : List D → Option (List V)
  | [] => some []
  | d :: ds => match scV d, toScs ds with
    | some a, some b => some (a :: b)
    | _, _ => none
theorem Reps.scs {K : PySem.W.Frag} {H : Hp} : ∀ {ds : List D} {vs ws : List V}, Reps K H vs ds → toScs ds = some ws → vs = ws
  | [], _, _, .nil, e => by cases e; rfl
  | d :: ds, _, _, .cons r t, e => by
    unfold toScs at e
    cases e1 : scV d with
    | none => rw [e1] at e; cases e
    | some a =>
      cases e2 : toScs ds with
      | none => rw [e1, e2] at e; cases e
      | some b =>
        rw [e1, e2] at e
        cases e
        rw [r.sc e1, Reps.scs t e2]
theorem flat_sc {d : D} {x : V} (e : scV d = some x) : flatV x = true := by
  cases d <;> cases e <;> rfl
theorem flat_scs : ∀ {ds : List D} {ws : List V}, toScs ds = some ws → ws.all flatV = true
  | [], _, e => by cases e; rfl
  | d :: ds, _, e => by
    unfold toScs at e
    cases e1 : scV d with
    | none => rw [e1] at e; cases e
    | some a =>
      cases e2 : toScs ds with
      | none => rw [e1, e2] at e; cases e
      | some b =>
        rw [e1, e2] at e
        cases e
        rw [List.all_cons, flat_sc e1, flat_scs e2]
        rfl
def itemsOf : D → Option (List D)
  | .lst xs => some xs
  | .tup xs => some xs
  | _ => none
def inD (a b : D) : Option D := match scV a, (itemsOf b).bind toScs with
  | some x, some ws => some (.bl (inV x ws))
  | _, _ => none
theorem good_in {K : PySem.W.Frag} : Good2 K (rIn K false) inD := by
  intro H0 H x y a b d Q s rx ry e q
  unfold inD at e
  cases e1 : scV a with
  | none => rw [e1] at e; cases e
  | some xa =>
    cases e2 : (itemsOf b).bind toScs with
    | none => rw [e1, e2] at e; cases e
    | some ws =>
      rw [e1, e2] at e
      cases e
      rw [rx.sc e1]
      cases b with
      | lst xs =>
        cases ry with
        | lst h r =>
        have e2 : toScs xs = some ws := e2
        rw [r.scs e2] at h
        exact ⟨_, _, rfl, .inl (Same.seq s h), flat_sc e1, flat_scs e2, q _ _ _ (Grow.refl s) (.bl _)⟩
      | tup xs =>
        cases ry with
        | tup h r =>
        have e2 : toScs xs = some ws := e2
        rw [r.scs e2] at h
        exact ⟨_, _, rfl, .inr (Same.seqT s h), flat_sc e1, flat_scs e2, q _ _ _ (Grow.refl s) (.bl _)⟩
      | _ => cases e2
section
variable {X : Cx} {W : WX} {a b : Expr} {pos : Pos} {fa fb : Env → Res D}
theorem pd_in (ha : PE X a (tD X.K W fa)) (hb : PE X b (tD X.K W fb)) (hm : behindInMarks .In b = false := by rfl) : PE X (.Compare a [.In] [b] pos) (tD X.K W (eOp inD fa fb)) := pd_cmp op_in_seq good_in ha hb hm
theorem pt_in (ha : PE X a (tD X.K W fa)) (hb : PE X b (tD X.K W fb)) (hm : behindInMarks .In b = false := by rfl) : PT X (.Compare a [.In] [b] pos) (tDB X.K W (bV (eOp inD fa fb))) := pt_cmp' op_in_seq good_in ha hb hm
end
/-! ## xs.count(y), flat -/
def rCntV (K : PySem.W.Frag) : V → List V → Hp → VK → Prop := fun x xs H Q => ∃ (p : Addr) (ys : List V) (y : V), x = .ref p ∧ xs = [y] ∧ SqL K H p ys ∧ flatV y = true ∧ ys.all flatV = true ∧ Q (.int (ys.countP (fun z => eqV z y) : Nat)) H
theorem countP_eqU {x : V} : ∀ {xs : List V} {us : List Value}, Vals xs us → xs.all flatV = true → us.countP (eqU x) = xs.countP fun y => eqV y x
  | _, _, .nil, _ => rfl
  | y :: xs, u :: us, .cons r t, f => by
    rw [List.all_cons, Bool.and_eq_true] at f
    rw [List.countP_cons, List.countP_cons, eqU_of r f.1, countP_eqU t f.2]
theorem mt_countV {X : Cx} : MtR X "list.count" (rCntV X.K) := by
  intro pins s σ H x xs v us Q I rx rxs h
  obtain ⟨p, ys, y, rfl, rfl, hs, fy, fs, q⟩ := h
  cases rx
  obtain ⟨u, rfl, ru⟩ := rxs.one
  obtain ⟨its, rv, ⟨⟨cls, dd, data, sl⟩, n, ho, hc, hdn, hd⟩, hlen⟩ := I.list hs
  simp only at hc hd
  subst hc hd
  refine call_meets PySem.F.slot_list_count ⟨_, ho, rfl⟩ PySem.F.entry_list_count (PySem.F.args_list_count_2 _ _)
    (SeqAt.list_countAt p its.toArray n dd sl u (eqU y)) ⟨ho, fun w hw => mem_eqAt ru fy rv fs w (by simpa using hw), ?_⟩
  have ec : its.toArray.toList.countP (eqU y) = ys.countP fun z => eqV z y := countP_eqU rv fs
  refine ⟨.int (ys.countP (fun z => eqV z y) : Nat), H, I.tok _, ⟨s.toks, ?_⟩, q⟩
  show Value.int ((its.toArray.toList.countP (eqU y) : Nat) : Int) s.toks = _
  rw [ec]
def countD : D → List D → Option D
  | .lst xs, [a] => match scV a, toScs xs with
    | some y, some ws => some (.int (ws.countP (fun z => eqV z y) : Nat))
    | _, _ => none
  | _, _ => none
theorem good_count {K : PySem.W.Frag} : GoodM K (rCntV K) countD := by
  intro H0 H x xs a as d Q s rx r e q
  match a, as, e with
  | .lst ys, [b], e =>
    obtain ⟨v, rfl, rv⟩ := reps1 r
    cases rx with
    | lst h rr =>
    cases e1 : scV b with
    | none => simp only [countD, e1] at e; cases e
    | some y =>
      cases e2 : toScs ys with
      | none => simp only [countD, e1, e2] at e; cases e
      | some ws =>
        simp only [countD, e1, e2] at e
        cases e
        rw [rr.scs e2] at h
        exact ⟨_, ws, y, rfl, by rw [rv.sc e1], Same.seq s h, flat_sc e1, flat_scs e2, q _ _ _ (Grow.refl s) (.int _)⟩
theorem pd_count {X : Cx} {W : WX} {e o : Expr} {es : List Expr} {pos apos : Pos} {fa : Env → Res D} {fl : Env → Res (List D)} (ho : PE X o (tD X.K W fa)) (ha : PA X (e :: es) (tDs X.K W fl))
    (hbase : attributeBase o "count" X.env (eval o X.env) = eval o X.env := by rfl)
    (hfew : ((backTo pos (starEach (e :: es) X.env)).all (fun x => !x.1) && (backToKw pos (keywordEach [] X.env)).all (fun x => x.1.isSome)
      && decide ((e :: es).length + ([] : List Keyword).length + (if ([] : List Keyword).isEmpty then 0 else 1) < 30)) = true := by rfl)
    (hline : (apos.endLine == pos.line) = true := by rfl) (hs : starEach (e :: es) X.env = (false, eval e X.env) :: starEach es X.env := by rfl) (hplain : (backTo pos (starEach es X.env)).any (·.1) = false := by rfl) :
    PE X (.Call (.Attribute o "count" apos) (e :: es) [] pos) (tD X.K W (eMt isLst countD fa fl)) := pd_mtL PySem.F.slot_list_count PySem.F.type_list_count mt_countV good_count ho ha hbase hfew hline hs hplain
/-! ## min of pairs (tariff, place) -/
abbrev T3 := Int × Int × Int
def enc3 (t : T3) : D := .tup [.tup [.int t.1, .int t.2.1], .int t.2.2]
def dec3 : D → Option T3
  | .tup [.tup [.int a, .int b], .int i] => some (a, b, i)
  | _ => none
def decs3 : List D → Option (List T3)
  | [] => some []
  | d :: ds => match dec3 d, decs3 ds with
    | some a, some b => some (a :: b)
    | _, _ => none
def pd3 (t : T3) : PyData := .tuple [.tuple [.int t.1, .int t.2.1], .int t.2.2]
def lt3 (x y : T3) : Bool := decide (x.1 < y.1 ∨ (x.1 = y.1 ∧ (x.2.1 < y.2.1 ∨ (x.2.1 = y.2.1 ∧ x.2.2 < y.2.2))))
def min3 (t : T3) (ts : List T3) : T3 := ts.foldl (fun a y => if lt3 y a = true then y else a) t
theorem dec3_eq {d : D} {t : T3} (h : dec3 d = some t) : d = enc3 t := by
  unfold dec3 at h
  split at h
  · cases h; rfl
  · cases h
theorem decs3_eq : ∀ {ds : List D} {ts : List T3}, decs3 ds = some ts → ds = ts.map enc3
  | [], _, e => by cases e; rfl
  | d :: ds, _, e => by
    unfold decs3 at e
    cases e1 : dec3 d with
    | none => rw [e1] at e; cases e
    | some a =>
      cases e2 : decs3 ds with
      | none => rw [e1, e2] at e; cases e
      | some b =>
        rw [e1, e2] at e
        cases e
        rw [dec3_eq e1, decs3_eq e2]
        rfl
@[simp] theorem decs3_map : ∀ ts : List T3, decs3 (ts.map enc3) = some ts
  | [] => rfl
  | t :: ts => by
    show (match dec3 (enc3 t), decs3 (ts.map enc3) with
      | some a, some b => some (a :: b)
      | _, _ => none) = _
    rw [decs3_map ts]
    rfl
def minTD : List D → Option D
  | [.lst xs] => match decs3 xs with
    | some (t :: ts) => some (enc3 (min3 t ts))
    | _ => none
  | _ => none
theorem dp3 {K : PySem.W.Frag} {H : Hp} {v : V} {t : T3} (r : Rep K H v (enc3 t)) : Dp K H v (pd3 t) := r.dp rfl
theorem dp3s {K : PySem.W.Frag} {H : Hp} : ∀ {vs : List V} {ts : List T3}, Reps K H vs (ts.map enc3) → DpAll K H vs (ts.map pd3)
  | _, [], .nil => .nil
  | _, _ :: _, .cons r t => .cons (dp3 r) (dp3s t)
theorem pd3_inj {x y : T3} (h : pd3 x = pd3 y) : x = y := by
  obtain ⟨a, b, c⟩ := x
  obtain ⟨a', b', c'⟩ := y
  simp only [pd3, PyData.tuple.injEq, List.cons.injEq, PyData.int.injEq, and_true] at h
  obtain ⟨⟨rfl, rfl⟩, rfl⟩ := h
  rfl
end Dt
namespace Dt
open PySem PySem.Spec PyProof.Rows L2
open PySem.W in
theorem dataLt3 (x y : T3) : dataLt (pd3 x) (pd3 y) = lt3 x y := by
  have e : ∀ t : T3, keyToks (pd3 t) = [.inl 1, .inl 1, .inl t.1, .inl 1, .inl t.2.1, .inl 0, .inl 1, .inl t.2.2, .inl 0] := fun t => by
    simp only [pd3, keyToks, keyToksAll, List.cons_append, List.nil_append]
  have b : ∀ a c : Int, itemOrd.blt (.inl a) (.inl c) = decide (a < c) := fun _ _ => rfl
  have z : PyProof.Rows.lexLt itemOrd [.inl 0] [.inl 0] = false := lex_irrefl _
  unfold dataLt lt3
  rw [e, e, lex_self, lex_self, lex_cons, lex_self, lex_cons, lex_self, lex_self, lex_cons, b, b, b, b, b, b, z, Bool.eq_iff_iff]
  simp only [Bool.or_eq_true, Bool.and_eq_true, Bool.not_eq_true', decide_eq_true_eq, decide_eq_false_iff_not, Bool.false_eq_true, and_false, or_false]
  omega
theorem minD3 (t : T3) (ts : List T3) : PySem.W.minD (pd3 t) (ts.map pd3) = pd3 (min3 t ts) := by
  unfold PySem.W.minD min3
  induction ts generalizing t with
  | nil => rfl
  | cons y ts ih =>
    rw [List.map_cons, List.foldl_cons, List.foldl_cons, dataLt3]
    by_cases c : lt3 y t = true
    · rw [if_pos c, if_pos c, ih]
    · rw [if_neg c, if_neg c, ih]
theorem alike3 (ts : List T3) : PySem.W.AlikeAll (ts.map pd3) := by
  refine ⟨fun x hx y hy => ?_, fun x hx => ?_⟩
  · obtain ⟨a, _, rfl⟩ := List.mem_map.mp hx
    obtain ⟨b, _, rfl⟩ := List.mem_map.mp hy
    rfl
  · obtain ⟨a, _, rfl⟩ := List.mem_map.mp hx
    exact fun z => by cases z
theorem depth3 : ∀ ts : List T3, PyData.depthAll (ts.map pd3) ≤ 2
  | [] => Nat.zero_le _
  | t :: ts => by
    show max (PyData.depth (pd3 t)) (PyData.depthAll (ts.map pd3)) ≤ 2
    have := depth3 ts
    have h : PyData.depth (pd3 t) = 2 := rfl
    omega
def rMinT (K : PySem.W.Frag) : List V → Hp → VK → Prop := fun vs H Q => ∃ (a : Addr) (xs : List V) (t : T3) (ts : List T3), vs = [.ref a] ∧ SqL K H a xs ∧ DpAll K H xs ((t :: ts).map pd3) ∧
  ∀ (i : Nat) (v : V), xs[i]? = some v → (t :: ts)[i]? = some (min3 t ts) → Q v H
theorem DpAll.get {K : PySem.W.Frag} {H : Hp} : ∀ {vs : List V} {ds : List PyData}, DpAll K H vs ds → ∀ {i : Nat} {v : V}, vs[i]? = some v → ∃ d, ds[i]? = some d ∧ Dp K H v d
  | _, _, .nil, i, v, e => by simp at e
  | _, _, .cons r t, 0, v, e => by simp at e; subst e; exact ⟨_, rfl, r⟩
  | _, _, .cons r t, i + 1, v, e => by
    obtain ⟨d, h1, h2⟩ := Dt.DpAll.get t (i := i) (by simpa using e)
    exact ⟨d, by simpa using h1, h2⟩
theorem vals_get' : ∀ {vs : List V} {us : List Value}, Vals vs us → ∀ {i : Nat} {u : Value}, us[i]? = some u → ∃ v, vs[i]? = some v ∧ RelV v u
  | _, _, .nil, i, u, e => by simp at e
  | _, _, .cons r t, 0, u, e => by simp at e; subst e; exact ⟨_, rfl, r⟩
  | _, _, .cons r t, i + 1, u, e => by
    obtain ⟨v, h1, h2⟩ := vals_get' t (i := i) (by simpa using e)
    exact ⟨v, by simpa using h1, h2⟩
theorem cr_minT {X : Cx} (hc : X.calm = true) (hu : X.A.units + 64 < cLine) : CallR X (.builtin "min") (rMinT X.K) := by
  intro pins s σ H vs us Q I r h
  obtain ⟨a, xs, t, ts, rfl, hs, hd, q⟩ := h
  obtain ⟨its, rv, hl, _⟩ := I.list hs
  rw [Vals.ref1 r]
  obtain ⟨as, hr⟩ := Dp.readsAll I _ _ its hd rv
  have hd3 := depth3 (t :: ts)
  refine PySem.W.min_list_data (I.ok.hd hc) hl.isList (x := pd3 t) (xs := ts.map pd3) (by simpa using hr) (alike3 (t :: ts)) (by
    have : PyData.depthAll (pd3 t :: ts.map pd3) ≤ 2 := hd3
    omega) fun i v h' tk bs hv rd hk => ?_
  rw [minD3] at rd
  obtain ⟨x, hx, rx⟩ := vals_get' rv (i := i) (u := v) (by simpa using hv)
  obtain ⟨p, hp, dx⟩ := Dt.DpAll.get hd hx
  rw [List.getElem?_map] at hp
  cases e : (t :: ts)[i]? with
  | none => rw [e] at hp; cases hp
  | some ti =>
    rw [e] at hp
    cases hp
    obtain ⟨cs, r1⟩ := Dp.reads I _ x v dx rx
    have r2 := PySem.W.reads_keeps hk r1
    have e2 := pd3_inj (PySem.SeqAt.Reads.unique _ _ _ _ _ (by rfl) r2 rd)
    exact ⟨x, H, I.kept hk, rx, q i x hx (by rw [e, e2])⟩
theorem good_minT {K : PySem.W.Frag} : GoodN K (rMinT K) minTD := by
  intro H0 H xs as d Q s r e q
  match as, e with
  | [.lst ys], e =>
    obtain ⟨v, rfl, rv⟩ := reps1 r
    cases rv with
    | lst h rr =>
    cases e1 : decs3 ys with
    | none => simp only [minTD, e1] at e; cases e
    | some ts =>
      cases ts with
      | nil => simp only [minTD, e1] at e; cases e
      | cons t ts =>
        simp only [minTD, e1] at e
        cases e
        rw [decs3_eq e1] at rr
        refine ⟨_, _, t, ts, rfl, Same.seq s h, DpAll.mono s (dp3s rr), fun i v hv hi => ?_⟩
        obtain ⟨d, hd, rd⟩ := rr.get' hv
        rw [List.getElem?_map, hi] at hd
        cases hd
        exact q v _ _ (Grow.refl s) rd
section
variable {X : Cx} {W : WX} {e : Expr} {es : List Expr} {pos p : Pos} {fl : Env → Res (List D)}
theorem pd_minT (hu : X.A.units + 64 < cLine) (hc : X.calm = true) (hg : Gl X "min") (hm : X.mg "min" = none) (ha : PA X (e :: es) (tDs X.K W fl)) (he : starEach (e :: es) X.env = (false, eval e X.env) :: starEach es X.env := by rfl) (hpl : (backTo pos (starEach es X.env)).any (·.1) = false := by rfl) :
    PE X (.Call (.Name "min" p) (e :: es) [] pos) (tD X.K W (eFn minTD fl)) := pd_fnB (cr_minT hc hu) good_minT (by decide +kernel) hg hm ha (by decide) (by decide) he hpl
end
/-! ## x += e -/
def sAugA (i : Nat) (fa : Env → Res D) : Env → Res Fl := fun env => match env[i]? with
  | some (.sh (.int n)) => (fa env).bind fun d => (toI d).bind fun m => .ok (.nx (env.set i (.sh (.int (n + m)))))
  | _ => .no
section
variable {X : Cx} {W : WX} {G : Hp → Hp → Prop} {P : Addr → Prop} {e : Expr} {pos pos' : Pos} {fa : Env → Res D}
theorem sd_augA (gd : Gd G P) {i : Nat} {x : Str} (hN : X.N.Nodup) (he : PE X e (tD X.K W fa)) (hi : X.N[i]? = some x := by rfl) (hx : Loc X.env.scope x := by first | exact Or.inl rfl | exact Or.inr rfl) (hf : X.fn x = true ∨ X.env.scope.names.lookup x = some .local := by first | exact .inl rfl | exact .inr rfl | assumption) :
    PS X (.AugAssign (.Name x pos') .Add e pos) (tS X.K W G P (sAugA i fa)) := PS.imp (ps_aug hN hi hx he ip_add hf) fun Dd σ H h => by
  obtain ⟨A, env, s, k⟩ := h
  unfold sAugA at k
  cases e1 : env[i]? with
  | none => rw [e1] at k; exact k.elim
  | some sl =>
    rw [e1] at k
    cases sl with
    | no => exact k.elim
    | ow ds => exact k.elim
    | oi C fs => exact k.elim
    | sh d =>
      cases d with
      | int n =>
        obtain ⟨v, h1, h2⟩ := s.er.sh i _ e1
        cases h2
        refine ⟨_, h1, ks_seq gd s k fun y d A' H' s' ry k' => ?_⟩
        cases d with
        | int m =>
          cases ry
          exact ⟨n, m, rfl, rfl, k' _ A' H' ⟨s'.er.set (.int _), s'.ow.set, s'.g⟩⟩
        | _ => exact k'.elim
      | _ => exact k.elim
end
/-- fuel: the length of a list in a slot -/
def fuelL (i : Nat) (env : Env) : Nat := match env[i]? with
  | some (.sh (.lst ds)) => ds.length + 1
  | some (.ow ds) => ds.length + 1
  | _ => 0
end Dt
namespace Dt
open PySem PySem.Spec PyProof.Rows L2 He
/-! ## facts of classes -/
def ciB (x : Str) (K : PySem.W.Frag) : Bool := (Fa.cls x).ok K && (eqO (PySem.W.findIn K (.ref (ga K x)) "__class__") (some (some (.builtin "object.__class__"))) && (eqO (PySem.W.specialIn K (.builtin "object.__class__") "__get__") (some (some (.builtin "getset_descriptor.__get__"))) &&
  (decide (PySem.W.takesIn K (.builtin "object.__class__") = some true) && decide (PySem.W.mroIn K (ga K x) (.type "object") = some true))))
theorem ciB_ok {K : PySem.W.Frag} {x : Str} (h : ciB x K = true) : CI K (ga K x) := by
  obtain ⟨h1, h⟩ := ba h
  obtain ⟨h2, h⟩ := ba h
  obtain ⟨h3, h⟩ := ba h
  obtain ⟨h4, h5⟩ := ba h
  exact ⟨cls_ok h1, eqO_ok h2, eqO_ok h3, of_decide_eq_true h4, of_decide_eq_true h5⟩
def cisB (xs : List Str) (K : PySem.W.Frag) : Bool := xs.all fun x => ciB x K
theorem cisB_ok {K : PySem.W.Frag} {xs : List Str} (h : cisB xs K = true) : ∀ C ∈ xs.map (ga K), CI K C := fun C hC => by
  obtain ⟨x, hx, rfl⟩ := List.mem_map.mp hC
  exact ciB_ok (List.all_eq_true.mp h x hx)
def atB (xs : List Str) (f : Str) (K : PySem.W.Frag) : Bool := xs.all fun x => (Fa.cls x).ok K && (Fa.noat x f).ok K
theorem atB_ok {K : PySem.W.Frag} {xs : List Str} {f : Str} (h : atB xs f K = true) : ∀ C ∈ xs.map (ga K), Cls K C ∧ NoAttr K C f := fun C hC => by
  obtain ⟨x, hx, rfl⟩ := List.mem_map.mp hC
  obtain ⟨h1, h2⟩ := ba (List.all_eq_true.mp h x hx)
  exact ⟨cls_ok h1, noat_ok h2⟩
def mk0B (x : Str) (K : PySem.W.Frag) : Bool := PySem.W.makesIn K (ga K x) && (eqO (PySem.W.findIn K (.ref (ga K x)) "__init__") (some (some (.builtin "object.__init__"))) && (decide (PySem.W.mroIn K (ga K x) (.type "object") = some true) && PySem.W.keepIn K (.ref (ga K x))))
theorem mk0B_ok {K : PySem.W.Frag} {x : Str} (h : mk0B x K = true) : Mk0 K (ga K x) := by
  obtain ⟨h1, h⟩ := ba h
  obtain ⟨h2, h⟩ := ba h
  obtain ⟨h3, h4⟩ := ba h
  exact ⟨h1, eqO_ok h2, of_decide_eq_true h3, h4⟩
def kitB (x y : Str) (b : Bool) (K : PySem.W.Frag) : Bool := decide (PySem.W.kitOne K (.ref (ga K x)) (.ref (ga K y)) = some b)
theorem kitB_ok {K : PySem.W.Frag} {x y : Str} {b : Bool} (h : kitB x y b K = true) : PySem.W.kitOne K (.ref (ga K x)) (.ref (ga K y)) = some b := of_decide_eq_true h
section
variable {X : Cx} {W : WX} {x : Str} {a : Addr} {d : D} {pos : Pos}
theorem pd_cls (hg : Gl X x) (hm : X.mg x = some (.ref a)) (hd : (x == ("__debug__" : Str)) = false := by decide) : PE X (.Name x pos) (tD X.K W (eC (.cls a))) := pd_glob hg hm (v := .ref a) rfl (fun _ => .cls a) hd
theorem pd_globR (hg : Gl X x) (hm : X.mg x = some (.ref a)) (h : ∀ H, Rep X.K H (.ref a) d) (hd : (x == ("__debug__" : Str)) = false := by decide) : PE X (.Name x pos) (tD X.K W (eC d)) := pd_glob hg hm (v := .ref a) rfl h hd
end
/-! ## name = a + b, lists: one's own -/
def sAsgCat (i : Nat) (fa fb : Env → Res D) : Env → Res Fl := fun env => (fa env).bind fun a => (fb env).bind fun b => match a, b with
  | .lst x, .lst y => if x.length + y.length ≤ 1000000 then .ok (.nx (env.set i (.ow (x ++ y)))) else .no
  | _, _ => .no
theorem KS.strong {K : PySem.W.Frag} {W : WX} {G G' : Hp → Hp → Prop} {P : Addr → Prop} {Dd : Ends} {r : Res Fl} (h : ∀ A H, G' A H → G A H) (k : KS K W G P Dd r) : KS K W G' P Dd r := by
  cases r with
  | no => exact k
  | ex C => exact fun σ A H g => k σ A H (h A H g)
  | ok f =>
    cases f with
    | nx e => exact fun σ A H s => k σ A H ⟨s.er, s.ow, h A H s.g⟩
    | bk e => exact fun σ A H s => k σ A H ⟨s.er, s.ow, h A H s.g⟩
    | ct e => exact fun σ A H s => k σ A H ⟨s.er, s.ow, h A H s.g⟩
    | rt d => exact fun v A H g r => k v A H (h A H g) r
section
variable {X : Cx} {W : WX} {G : Hp → Hp → Prop} {P : Addr → Prop} {a b : Expr} {pos pos' bpos : Pos} {fa fb : Env → Res D}
theorem sd_setCat (gd : Gd G P) {i : Nat} {x : Str} (hN : X.N.Nodup) (ha : PE X a (tD X.K W fa)) (hb : PE X b (tD X.K W fb)) (hi : X.N[i]? = some x := by rfl) (hx : Loc X.env.scope x := by first | exact Or.inl rfl | exact Or.inr rfl) (hs : swapsWith (.BinOp a .Add b bpos) (some (.Name x pos')) pos.line X.env = pure false := by rfl) (hf : X.fn x = true ∨ X.env.scope.names.lookup x = some .local := by first | exact .inl rfl | exact .inr rfl | assumption) :
    PS X (.Assign [.Name x pos'] (.BinOp a .Add b bpos) pos) (tS X.K W G P (sAsgCat i fa fb)) := PS.imp (ps_set hN hi hx (pe_op op_catR ha hb) hs hf) fun Dd σ H h => by
  obtain ⟨A, env, s, k⟩ := h
  refine ks_seq gd s k fun x d A' H' s' rx k' => ?_
  refine ks_seq (gd.since A') ⟨s'.er, s'.ow, s'.g, Same.refl _⟩ (KS.strong (fun _ _ z => z.1) k') fun y d2 A2 H2 s3 ry k2 => ?_
  have rx2 : Rep X.K A2 x d := rx.mono s3.g.2
  have s2 : Stt X.K G P σ A2 H2 env := ⟨s3.er, s3.ow, s3.g.1⟩
  cases d with
  | lst xs =>
    cases d2 with
    | lst ys =>
      have k2 : KS X.K W (fun A H => G A H ∧ Same A' A) P Dd (if xs.length + ys.length ≤ 1000000 then .ok (.nx (env.set i (.ow (xs ++ ys)))) else .no) := k2
      by_cases c : xs.length + ys.length ≤ 1000000
      · rw [if_pos c] at k2
        cases rx2 with
        | lst h1 r1 =>
        cases ry with
        | lst h2 r2 =>
        refine ⟨_, _, _, _, rfl, rfl, Same.seq s2.er.sub h1, Same.seq s2.er.sub h2, ?_, fun p hp => let z := stt_new gd s2 hp (r1.append r2); k2 _ A2 _ ⟨z.er, z.ow, z.g, s3.g.2⟩⟩
        rw [r1.length, r2.length]
        exact sz_le c
      · rw [if_neg c] at k2
        exact k2.elim
    | _ => exact k2.elim
  | _ => cases d2 <;> exact k2.elim
end
/-! ## plain lemmas of these -/
theorem isi_own {K : PySem.W.Frag} {Cs : List Addr} {C C' : Addr} {fs : Fs} {b : Bool} (hC : C ∈ Cs) (h : PySem.W.kitOne K (.ref C) (.ref C') = some b) : isiD K Cs [.ins C fs, .cls C'] = some (.bl b) := by
  show (match (if C ∈ Cs then some (Value.ref C) else none), some (Value.ref C') with
    | some t, some u => (PySem.W.kitOne K t u).map D.bl
    | _, _ => none) = _
  rw [if_pos hC]
  show (PySem.W.kitOne K (.ref C) (.ref C')).map D.bl = _
  rw [h]
  rfl
theorem ne_of_kits {K : PySem.W.Frag} {C C' : Addr} (h : PySem.W.kitOne K (.ref C) (.ref C') = some false) (h' : PySem.W.kitOne K (.ref C') (.ref C') = some true) : C ≠ C' := fun e => by
  rw [e, h'] at h
  cases h
theorem fld_of {Cs : List Addr} {C : Addr} {f : Str} {fs : Fs} {d : D} (hC : C ∈ Cs) (h : fs.lookup f = some d) : fldD Cs f (.ins C fs) = some d := by
  show (if C ∈ Cs then fs.lookup f else none) = _
  rw [if_pos hC, h]
section
variable {C C' : Addr} {m : Str} {φ : List D → Res D} {fo f g : Env → Res D} {fl : Env → Res (List D)} {env e : Env} {fs : Fs} {ds x y : List D} {d : D} {r : Res Fl} {g2 gb : Env → Res Fl} {i : Nat} {fa fb : Env → Res D} {bt : Bt} {fi : Env → Res (List D)}
theorem mth_hit (h1 : fo env = .ok (.ins C fs)) (h2 : fl env = .ok ds) (h3 : φ (.ins C fs :: ds) = .ok d) (h4 : (fs.lookup m).isNone = true) : eMth C m φ fo fl env = .ok d := by
  unfold eMth
  rw [h1, Res.bind_ok]
  show (if C = C ∧ (fs.lookup m).isNone = true then (fl env).bind fun ds => noEx (φ (.ins C fs :: ds)) else .no) = _
  rw [if_pos ⟨rfl, h4⟩, h2, Res.bind_ok, h3]
  rfl
theorem mth_miss (h1 : fo env = .ok (.ins C' fs)) (h : C' ≠ C) : eMth C m φ fo fl env = .no := by
  unfold eMth
  rw [h1, Res.bind_ok]
  show (if C' = C ∧ (fs.lookup m).isNone = true then (fl env).bind fun ds => noEx (φ (.ins C' fs :: ds)) else .no) = _
  rw [if_neg fun z => h z.1]
theorem alt_l (h : f env = .ok d) : eAlt f g env = .ok d := by
  unfold eAlt
  rw [h]
theorem alt_r (h : f env = .no) : eAlt f g env = g env := by
  unfold eAlt
  rw [h]
theorem seq_asgO (h : fl env = .ok ds) (hr : g2 (env.set i (.ow ds)) = r) : sSeq (sAsgO i fl) g2 env = r := by
  refine seq_nx ?_ hr
  unfold sAsgO
  rw [h]
  rfl
theorem seq_cat (h1 : fa env = .ok (.lst x)) (h2 : fb env = .ok (.lst y)) (hl : x.length + y.length ≤ 1000000) (hr : g2 (env.set i (.ow (x ++ y))) = r) : sSeq (sAsgCat i fa fb) g2 env = r := by
  refine seq_nx ?_ hr
  unfold sAsgCat
  rw [h1, Res.bind_ok, h2, Res.bind_ok]
  show (if x.length + y.length ≤ 1000000 then _ else _) = _
  rw [if_pos hl]
theorem app_of (h1 : env[i]? = some (.ow ds)) (hl : ds.length < 1000000) (h2 : fa env = .ok d) : sApp i fa env = .ok (.nx (env.set i (.ow (ds ++ [d])))) := by
  unfold sApp
  rw [h1]
  show (if ds.length < 1000000 then _ else _) = _
  rw [if_pos hl, h2]
  rfl
theorem seq_app (h1 : env[i]? = some (.ow ds)) (hl : ds.length < 1000000) (h2 : fa env = .ok d) (hr : g2 (env.set i (.ow (ds ++ [d]))) = r) : sSeq (sApp i fa) g2 env = r := seq_nx (app_of h1 hl h2) hr
theorem frz_of (h : env[i]? = some (.ow ds)) : frz i env = env.set i (.sh (.lst ds)) := by
  unfold frz
  rw [h]
theorem all_lc {α : Type} {xs : List α} {p : α → Bool} (h : fa env = .ok (.lst (xs.map fun x => .bl (p x)))) : eFn allD (aCons fa aNil) env = .ok (.bl (xs.all p)) := by
  unfold eFn aCons aNil
  rw [h]
  show ofO (allD [.lst (xs.map fun x => .bl (p x))]) = _
  rw [allD_map]
  rfl
theorem any_lc {α : Type} {xs : List α} {p : α → Bool} (h : fa env = .ok (.lst (xs.map fun x => .bl (p x)))) : eFn anyD (aCons fa aNil) env = .ok (.bl (xs.any p)) := by
  unfold eFn aCons aNil
  rw [h]
  show ofO (anyD [.lst (xs.map fun x => .bl (p x))]) = _
  rw [anyD_map]
  rfl
theorem min_lc {α : Type} {xs : List α} {p : α → Int} (h : fa env = .ok (.lst (xs.map fun x => .int (p x)))) (hne : xs ≠ []) : eFn minD (aCons fa aNil) env = .ok (.int (minL (xs.map p))) := by
  unfold eFn aCons aNil
  rw [h]
  have e : (xs.map fun x => D.int (p x)) = (xs.map p).map D.int := by rw [List.map_map]; rfl
  show ofO (minD [.lst (xs.map fun x => .int (p x))]) = _
  rw [e, minD_ints (fun z => hne (List.map_eq_nil_iff.mp z))]
  rfl
theorem bV_of {b : Bool} (h : fa env = .ok (.bl b)) : bV fa env = .ok b := by
  unfold bV
  rw [h]
  rfl
theorem bNot_of {ta : Env → Res Bool} {b : Bool} (h : ta env = .ok b) : bNot ta env = .ok (!b) := by
  unfold bNot
  rw [h]
  rfl
theorem bOr_F {ta tb : Env → Res Bool} {r : Res Bool} (h : ta env = .ok false) (h2 : tb env = r) : bOr ta tb env = r := by
  unfold bOr
  rw [h]
  exact h2
theorem bOr_T {ta tb : Env → Res Bool} (h : ta env = .ok true) : bOr ta tb env = .ok true := by
  unfold bOr
  rw [h]
  rfl
theorem bAnd_T {ta tb : Env → Res Bool} {r : Res Bool} (h : ta env = .ok true) (h2 : tb env = r) : bAnd ta tb env = r := by
  unfold bAnd
  rw [h]
  exact h2
theorem bAnd_F {ta tb : Env → Res Bool} (h : ta env = .ok false) : bAnd ta tb env = .ok false := by
  unfold bAnd
  rw [h]
  rfl
theorem eB_of {ta : Env → Res Bool} {b : Bool} (h : ta env = .ok b) : eB ta env = .ok (.bl b) := by
  unfold eB
  rw [h]
  rfl
theorem op_of {h : D → D → Option D} {a b : D} (h1 : fa env = .ok a) (h2 : fb env = .ok b) (h3 : h a b = some d) : eOp h fa fb env = .ok d := by
  unfold eOp
  rw [h1, Res.bind_ok, h2, Res.bind_ok, h3]
  rfl
theorem call1 {φ : List D → Res D} {rd : Res D} {a : D} (h1 : fa env = .ok a) (h : φ [a] = rd) : eCall φ (aCons fa aNil) env = rd := by
  unfold eCall aCons aNil
  rw [h1]
  exact h
theorem call2 {φ : List D → Res D} {rd : Res D} {a b : D} (h1 : fa env = .ok a) (h2 : fb env = .ok b) (h : φ [a, b] = rd) : eCall φ (aCons fa (aCons fb aNil)) env = rd := by
  unfold eCall aCons aNil
  simp only [h1, h2, Res.bind_ok]
  exact h
theorem call3 {φ : List D → Res D} {rd : Res D} {a b c : D} {fc : Env → Res D} (h1 : fa env = .ok a) (h2 : fb env = .ok b) (h3 : fc env = .ok c) (h : φ [a, b, c] = rd) : eCall φ (aCons fa (aCons fb (aCons fc aNil))) env = rd := by
  unfold eCall aCons aNil
  simp only [h1, h2, h3, Res.bind_ok]
  exact h
/-- a for whose body may return -/
theorem forS_rt {I : Nat → Env → Prop} {R : D → Prop} : ∀ (ds : List D) (n : Nat) (env : Env), I n env →
    (∀ (i : Nat) (d : D) (env : Env), ds[i]? = some d → I (n + i) env → ∃ e1, bt d env = .ok e1 ∧ ((∃ e2, gb e1 = .ok (.nx e2) ∧ I (n + i + 1) e2) ∨ ∃ r, gb e1 = .ok (.rt r) ∧ R r)) →
    (∃ e, forS bt gb ds env = .ok (.nx e) ∧ I (n + ds.length) e) ∨ ∃ r, forS bt gb ds env = .ok (.rt r) ∧ R r
  | [], n, env, h, _ => .inl ⟨env, rfl, h⟩
  | d :: ds, n, env, h, H => by
    obtain ⟨e1, h1, z⟩ := H 0 d env rfl h
    rcases z with ⟨e2, h2, h3⟩ | ⟨r, h2, h3⟩
    · have ih := forS_rt (R := R) ds (n + 1) e2 h3 (fun i y env hy hi => by
        have := H (i + 1) y env hy (by rw [show n + (i + 1) = n + 1 + i by omega]; exact hi)
        rw [show n + (i + 1) + 1 = n + 1 + i + 1 by omega] at this
        exact this)
      have e0 : forS bt gb (d :: ds) env = forS bt gb ds e2 := by
        show bOk (bt d env) _ = _
        rw [h1, bOk_ok, h2]
      rw [e0, List.length_cons, show n + (ds.length + 1) = n + 1 + ds.length by omega]
      exact ih
    · refine .inr ⟨r, ?_, h3⟩
      show bOk (bt d env) _ = _
      rw [h1, bOk_ok, h2]
theorem for_rt {I : Nat → Env → Prop} {R : D → Prop} (hi : fi env = .ok ds) (h0 : I 0 env)
    (H : ∀ (i : Nat) (d : D) (env : Env), ds[i]? = some d → I i env → ∃ e1, bt d env = .ok e1 ∧ ((∃ e2, gb e1 = .ok (.nx e2) ∧ I (i + 1) e2) ∨ ∃ r, gb e1 = .ok (.rt r) ∧ R r)) :
    (∃ e, sFor fi bt gb env = .ok (.nx e) ∧ I ds.length e) ∨ ∃ r, sFor fi bt gb env = .ok (.rt r) ∧ R r := by
  have z := forS_rt (bt := bt) (gb := gb) (I := I) (R := R) ds 0 env h0 (fun i d env hd hi => by
    rw [Nat.zero_add] at hi ⊢
    exact H i d env hd hi)
  rw [Nat.zero_add] at z
  unfold sFor
  rw [hi]
  exact z
/-- a for that looks at each, and returns at the first that is not as wanted -/
theorem forS_check {α : Type} {enc : α → D} {ok : α → Bool} {I : Env → Prop} {d0 : D} : ∀ (xs : List α) (env : Env), I env →
    (∀ x ∈ xs, ∀ env, I env → ∃ e1, bt (enc x) env = .ok e1 ∧ (ok x = true → ∃ e2, gb e1 = .ok (.nx e2) ∧ I e2) ∧ (ok x = false → gb e1 = .ok (.rt d0))) →
    (xs.all ok = true ∧ ∃ e, forS bt gb (xs.map enc) env = .ok (.nx e) ∧ I e) ∨ (xs.all ok = false ∧ forS bt gb (xs.map enc) env = .ok (.rt d0))
  | [], env, h, _ => .inl ⟨rfl, env, rfl, h⟩
  | x :: xs, env, h, H => by
    obtain ⟨e1, h1, h2, h3⟩ := H x List.mem_cons_self env h
    have e0 : ∀ r, (match gb e1 with
      | .ok (.nx e2) => forS bt gb (xs.map enc) e2
      | .ok (.ct e2) => forS bt gb (xs.map enc) e2
      | .ok (.bk e2) => .ok (.nx e2)
      | r => r) = r → forS bt gb ((x :: xs).map enc) env = r := fun r z => by
      show bOk (bt (enc x) env) _ = _
      rw [h1, bOk_ok]
      exact z
    cases c : ok x with
    | true =>
      obtain ⟨e2, h4, h5⟩ := h2 c
      have ih := forS_check xs e2 h5 fun y hy => H y (List.mem_cons_of_mem _ hy)
      rw [List.all_cons, c, Bool.true_and]
      rcases ih with ⟨g1, e, g2, g3⟩ | ⟨g1, g2⟩
      · exact .inl ⟨g1, e, e0 _ (by rw [h4]; exact g2), g3⟩
      · exact .inr ⟨g1, e0 _ (by rw [h4]; exact g2)⟩
    | false =>
      refine .inr ⟨by rw [List.all_cons, c]; rfl, e0 _ (by rw [h3 c])⟩
theorem for_check {α : Type} (xs : List α) (enc : α → D) (ok : α → Bool) (I : Env → Prop) {d0 d1 : D} (hi : fi env = .ok (xs.map enc)) (h0 : I env)
    (H : ∀ x ∈ xs, ∀ env, I env → ∃ e1, bt (enc x) env = .ok e1 ∧ (ok x = true → ∃ e2, gb e1 = .ok (.nx e2) ∧ I e2) ∧ (ok x = false → gb e1 = .ok (.rt d0))) (hr : ∀ e, I e → g2 e = .ok (.rt d1)) :
    sSeq (sFor fi bt gb) g2 env = .ok (.rt (if xs.all ok = true then d1 else d0)) := by
  unfold sSeq sFor
  rw [hi, Res.bind_ok]
  rcases forS_check xs env h0 H with ⟨g1, e, g3, g4⟩ | ⟨g1, g3⟩
  · rw [g3, g1]
    exact hr e g4
  · rw [g3, g1]
    rfl
/-- a for that goes through, step by step -/
theorem forS_cons {e1 e2 : Env} (h1 : bt d env = .ok e1) (h2 : gb e1 = .ok (.nx e2)) (h3 : forS bt gb ds e2 = r) : forS bt gb (d :: ds) env = r := by
  show bOk (bt d env) _ = _
  rw [h1, bOk_ok, h2]
  exact h3
end
end Dt
namespace Dt
open PySem PySem.Spec PyProof.Rows L2 He
theorem pickG_rev {α : Type} (l : List α) : pickG l none none (-1) = l.reverse := by
  unfold pickG
  rw [PySem.W.krv_bounds]
  show (sliceRange ((l.length : Int) - 1) (-1) (-1)).filterMap (l[·]?) = _
  rw [PySem.W.krv_sliceRange, PySem.W.krv_range, List.filterMap_reverse]
  have e := PySem.W.krv_all l.toArray
  congr 1
  simpa using e
theorem slSt_rev {l : List Tr} (h : l.length ≤ 1000) : slStD none none (some (-1)) (bk l) = some (bk l.reverse) := by
  have e := slSt_map tr (xs := l) (lo := none) (hi := none) (k := -1) (by decide) (by omega)
  rw [pickG_rev] at e
  exact e
end Dt
namespace Dt
/-! ## the cheapest tariffs -/
theorem mul_le_of {a b c : Int} (h : 0 < c) (e : a * c ≤ b * c) : a ≤ b := Int.le_of_mul_le_mul_right e h
theorem mul_lt_of {a b c : Int} (h : 0 < c) (e : a * c < b * c) : a < b := Int.lt_of_mul_lt_mul_right e (Int.le_of_lt h)
/-- from a price at p on -/
theorem le_on {p q u c : Tr} (hp : 0 < p.2) (hq : 0 < q.2) (h : cst c p ≤ cst u p) (hc : c.2 ≤ u.2) (hl : p.1 * q.2 ≤ q.1 * p.2) : cst c q ≤ cst u q := by
  unfold cst at *
  apply mul_le_of hp
  have h3 := Int.mul_le_mul_of_nonneg_right h (Int.le_of_lt hq)
  have h4 := Int.mul_nonneg (show 0 ≤ u.2 - c.2 by omega) (show 0 ≤ q.1 * p.2 - p.1 * q.2 by omega)
  grind
theorem lt_on {p q u c : Tr} (hp : 0 < p.2) (hq : 0 < q.2) (h : cst c p < cst u p) (hc : c.2 ≤ u.2) (hl : p.1 * q.2 ≤ q.1 * p.2) : cst c q < cst u q := by
  unfold cst at *
  apply mul_lt_of hp
  have h3 := Int.mul_lt_mul_of_pos_right h hq
  have h4 := Int.mul_nonneg (show 0 ≤ u.2 - c.2 by omega) (show 0 ≤ q.1 * p.2 - p.1 * q.2 by omega)
  grind
/-- the current tariff: cheapest at p, and of the cheapest the one that costs least by the piece -/
structure Cur (l : List Tr) (p : Tr) (c : Nat) (tc : Tr) : Prop where
  at_ : l[c]? = some tc
  am : Am p
  best : ∀ u ∈ l, cst tc p < cst u p ∨ (cst tc p = cst u p ∧ tc.2 ≤ u.2)
theorem Cur.le {l : List Tr} {p : Tr} {c : Nat} {tc : Tr} (h : Cur l p c tc) : ∀ u ∈ l, cst tc p ≤ cst u p := fun u hu => by
  rcases h.best u hu with e | ⟨e, _⟩ <;> omega
/-- what next_of gives -/
structure Nxt (l : List Tr) (tc : Tr) (a b : Int) (n : Nat) (tn : Tr) : Prop where
  at_ : l[n]? = some tn
  lt : tn.2 < tc.2
  ea : a = tn.1 - tc.1
  eb : b = tc.2 - tn.2
  best : ∀ u ∈ l, u.2 < tc.2 → a * (tc.2 - u.2) < (u.1 - tc.1) * b ∨ (a * (tc.2 - u.2) = (u.1 - tc.1) * b ∧ tn.2 ≤ u.2)
section
variable {l : List Tr} {p tc tn : Tr} {c n : Nat} {a b : Int}
theorem nxt_pos (C : Cur l p c tc) (N : Nxt l tc a b n tn) : 0 ≤ a ∧ 0 < b ∧ p.1 * b < a * p.2 := by
  obtain ⟨h1, h2, rfl, rfl, h5⟩ := N
  have tm := List.mem_of_getElem? h1
  have d0 := C.am.d0
  have n0 := C.am.n0
  have k : p.1 * (tc.2 - tn.2) < (tn.1 - tc.1) * p.2 := by
    rcases C.best tn tm with e | ⟨_, e⟩
    · unfold cst at e
      grind
    · omega
  refine ⟨?_, by omega, k⟩
  have z : 0 ≤ p.1 * (tc.2 - tn.2) := Int.mul_nonneg n0 (by omega)
  have z2 : 0 < (tn.1 - tc.1) * p.2 := by omega
  have : 0 < tn.1 - tc.1 := by
    apply mul_lt_of d0
    omega
  omega
/-- the next begin -/
structure Step (l : List Tr) (p : Tr) (tc tn q : Tr) (n : Nat) : Prop where
  cur : Cur l q n tn
  lt : p.1 * q.2 < q.1 * p.2
  le : ∀ u ∈ l, cst tc q ≤ cst u q
  pc : tn.2 < tc.2
theorem nxt_step (C : Cur l p c tc) (N : Nxt l tc a b n tn) : Step l p tc tn (low a b) n := by
  obtain ⟨a0, b0, k⟩ := nxt_pos C N
  have am := low_am a0 b0
  have le := low_eq a0 b0
  have q0 := am.d0
  have p0 := C.am.d0
  generalize low a b = q at am le q0
  have lt : p.1 * q.2 < q.1 * p.2 := by
    apply mul_lt_of b0
    have := Int.mul_lt_mul_of_pos_right k q0
    have e9 : q.1 * b * p.2 = a * q.2 * p.2 := by rw [le]
    grind
  have all : ∀ u ∈ l, cst tc q < cst u q ∨ (cst tc q = cst u q ∧ tn.2 ≤ u.2) := fun u hu => by
    by_cases hc : u.2 < tc.2
    · rcases N.best u hu hc with e | ⟨e, e2⟩
      · left
        unfold cst
        apply mul_lt_of b0
        have := Int.mul_lt_mul_of_pos_right e q0
        have e9 : q.1 * b * (tc.2 - u.2) = a * q.2 * (tc.2 - u.2) := by rw [le]
        grind
      · right
        refine ⟨?_, e2⟩
        have e3 : cst tc q * b = cst u q * b := by
          unfold cst
          have : a * (tc.2 - u.2) * q.2 = (u.1 - tc.1) * b * q.2 := by rw [e]
          have e9 : q.1 * b * (tc.2 - u.2) = a * q.2 * (tc.2 - u.2) := by rw [le]
          grind
        exact Int.eq_of_mul_eq_mul_right (by omega) e3
    · have h := le_on (q := q) p0 q0 (C.le u hu) (by omega) (Int.le_of_lt lt)
      have := N.lt
      by_cases e : cst tc q = cst u q
      · exact .inr ⟨e, by omega⟩
      · exact .inl (by omega)
  have same : cst tn q = cst tc q := by
    have e1 := N.ea
    have e2 := N.eb
    subst e1 e2
    unfold cst
    grind
  refine ⟨⟨N.at_, am, fun u hu => ?_⟩, lt, fun u hu => ?_, N.lt⟩
  · rw [same]
    exact all u hu
  · rcases all u hu with e | ⟨e, _⟩ <;> omega
end
/-- begins and places -/
structure Rg (l : List Tr) (bs : List Tr) (ps : List Nat) : Prop where
  len : bs.length = ps.length
  one : ∀ (i : Nat) (p : Tr) (c : Nat), bs[i]? = some p → ps[i]? = some c → ∃ tc, Cur l p c tc
  two : ∀ (i : Nat) (p q : Tr) (c n : Nat), bs[i]? = some p → bs[i + 1]? = some q → ps[i]? = some c → ps[i + 1]? = some n → ∃ tc tn, l[c]? = some tc ∧ Step l p tc tn q n
  zero : bs[0]? = some (0, 1)
theorem Rg.start {l : List Tr} {c : Nat} {tc : Tr} (C : Cur l (0, 1) c tc) : Rg l [(0, 1)] [c] := by
  refine ⟨rfl, fun i p d h1 h2 => ?_, fun i p q d n h1 h2 => ?_, rfl⟩
  · cases i with
    | zero =>
      cases h1
      cases h2
      exact ⟨tc, C⟩
    | succ i => cases h1
  · cases h2
theorem Rg.snoc {l : List Tr} {bs : List Tr} {ps : List Nat} {p q tc tn : Tr} {c n : Nat} (R : Rg l bs ps) (hb : bs[bs.length - 1]? = some p) (hp : ps[ps.length - 1]? = some c) (hc : l[c]? = some tc) (S : Step l p tc tn q n) : Rg l (bs ++ [q]) (ps ++ [n]) := by
  have hz : 0 < bs.length := by
    cases bs with
    | nil => cases hb
    | cons x xs => exact Nat.succ_pos _
  have old : ∀ {α : Type} (xs : List α) (x y : α) (i : Nat), (xs ++ [x])[i]? = some y → (i < xs.length ∧ xs[i]? = some y) ∨ (i = xs.length ∧ y = x) := fun xs x y i h => by
    by_cases hi : i < xs.length
    · rw [List.getElem?_append_left hi] at h
      exact .inl ⟨hi, h⟩
    · rw [List.getElem?_append_right (by omega)] at h
      by_cases e : i = xs.length
      · subst e
        rw [Nat.sub_self] at h
        cases h
        exact .inr ⟨rfl, rfl⟩
      · rw [List.getElem?_eq_none (by show 1 ≤ _; omega)] at h
        cases h
  have hl := R.len
  refine ⟨by rw [List.length_append, List.length_append, hl]; rfl, fun i p' c' h1 h2 => ?_, fun i p' q' c' n' h1 h2 h3 h4 => ?_, ?_⟩
  · rcases old _ _ _ _ h1 with ⟨i1, h1⟩ | ⟨i1, rfl⟩
    · rcases old _ _ _ _ h2 with ⟨i2, h2⟩ | ⟨i2, rfl⟩
      · exact R.one i p' c' h1 h2
      · omega
    · rcases old _ _ _ _ h2 with ⟨i2, h2⟩ | ⟨i2, rfl⟩
      · omega
      · exact ⟨tn, S.cur⟩
  · rcases old _ _ _ _ h2 with ⟨i2, h2⟩ | ⟨i2, rfl⟩
    · rcases old _ _ _ _ h4 with ⟨i4, h4⟩ | ⟨i4, rfl⟩
      · rcases old _ _ _ _ h1 with ⟨i1, h1⟩ | ⟨i1, rfl⟩
        · rcases old _ _ _ _ h3 with ⟨i3, h3⟩ | ⟨i3, rfl⟩
          · exact R.two i p' q' c' n' h1 h2 h3 h4
          · omega
        · omega
      · omega
    · rcases old _ _ _ _ h4 with ⟨i4, h4⟩ | ⟨i4, rfl⟩
      · omega
      · rcases old _ _ _ _ h1 with ⟨i1, h1⟩ | ⟨i1, rfl⟩
        · rcases old _ _ _ _ h3 with ⟨i3, h3⟩ | ⟨i3, rfl⟩
          · have e1 : i = bs.length - 1 := by omega
            have e2 : i = ps.length - 1 := by omega
            rw [e1, hb] at h1
            rw [e2, hp] at h3
            cases h1
            cases h3
            exact ⟨tc, tn, hc, S⟩
          · omega
        · omega
  · rw [List.getElem?_append_left hz]
    exact R.zero
/-- the first tariff -/
theorem first_cur {l : List Tr} {c : Nat} {tc : Tr} (hc : l[c]? = some tc) (h : ∀ u ∈ l, tc.1 < u.1 ∨ (tc.1 = u.1 ∧ tc.2 ≤ u.2)) : Cur l (0, 1) c tc := by
  refine ⟨hc, ⟨by decide, by decide, by decide⟩, fun u hu => ?_⟩
  have e : ∀ t : Tr, cst t (0, 1) = t.1 := fun t => by
    show t.1 * 1 + t.2 * 0 = t.1
    omega
  rw [e, e]
  exact h u hu
/-- how many cost less by the piece -/
def less (l : List Tr) (x : Int) : Nat := l.countP fun u => decide (u.2 < x)
theorem countP_lt {α : Type} {p q : α → Bool} : ∀ {l : List α}, (∀ x ∈ l, p x = true → q x = true) → (∃ x ∈ l, p x = false ∧ q x = true) → l.countP p < l.countP q
  | [], _, ⟨x, hx, _⟩ => by cases hx
  | y :: l, h, ⟨x, hx, h1, h2⟩ => by
    have le : l.countP p ≤ l.countP q := List.countP_mono_left fun z hz => h z (List.mem_cons_of_mem _ hz)
    rw [List.countP_cons, List.countP_cons]
    rcases List.mem_cons.mp hx with rfl | hx
    · rw [h1, h2]
      simp only [Bool.false_eq_true, if_false, if_true]
      omega
    · have ih := countP_lt (fun z hz => h z (List.mem_cons_of_mem _ hz)) ⟨x, hx, h1, h2⟩
      cases e : p y with
      | true =>
        rw [h y List.mem_cons_self e]
        simp only [if_true]
        omega
      | false =>
        simp only [Bool.false_eq_true, if_false]
        omega
theorem less_lt {l : List Tr} {t : Tr} {x : Int} (ht : t ∈ l) (h : t.2 < x) : less l t.2 < less l x := by
  refine countP_lt (fun u _ hu => ?_) ⟨t, ht, ?_, ?_⟩
  · exact decide_eq_true (by have := of_decide_eq_true hu; omega)
  · exact decide_eq_false (by omega)
  · exact decide_eq_true h
theorem less_len {l : List Tr} {t : Tr} (ht : t ∈ l) : less l t.2 + 1 ≤ l.length := by
  unfold less
  have h := @List.length_eq_countP_add_countP Tr (fun u => decide (u.2 < t.2)) l
  have : 0 < l.countP fun u => decide ¬ decide (u.2 < t.2) = true := List.countP_pos_iff.mpr ⟨t, ht, by simp⟩
  omega
/-! ## mixtures -/
/-- a mixture of two places for a tariff -/
def mixB (l : List Tr) (i k a b : Int) (t : Tr) : Bool := ((decide (0 ≤ i) && decide (i < l.length)) && (decide (0 ≤ k) && decide (k < l.length))) && ((decide (0 ≤ a) && (decide (0 ≤ b) && decide (0 < a + b))) && match l[i.toNat]?, l[k.toNat]? with
  | some u, some w => decide (a * u.1 + b * w.1 ≤ (a + b) * t.1) && decide (a * u.2 + b * w.2 ≤ (a + b) * t.2)
  | _, _ => false)
theorem mixB_of {l : List Tr} {i k : Nat} {a b : Int} {t u w : Tr} (hi : l[i]? = some u) (hk : l[k]? = some w) (ha : 0 ≤ a) (hb : 0 ≤ b) (hs : 0 < a + b) (h1 : a * u.1 + b * w.1 ≤ (a + b) * t.1) (h2 : a * u.2 + b * w.2 ≤ (a + b) * t.2) : mixB l i k a b t = true := by
  have i1 : i < l.length := (List.getElem?_eq_some_iff.mp hi).1
  have k1 : k < l.length := (List.getElem?_eq_some_iff.mp hk).1
  unfold mixB
  rw [decide_eq_true (by omega : (0 : Int) ≤ (i : Int)), decide_eq_true (by omega : (i : Int) < l.length), decide_eq_true (by omega : (0 : Int) ≤ (k : Int)), decide_eq_true (by omega : (k : Int) < l.length), decide_eq_true ha, decide_eq_true hb, decide_eq_true hs, Int.toNat_natCast, Int.toNat_natCast, hi, hk]
  show (_ && (_ && (decide (a * u.1 + b * w.1 ≤ (a + b) * t.1) && decide (a * u.2 + b * w.2 ≤ (a + b) * t.2)))) = true
  rw [decide_eq_true h1, decide_eq_true h2]
  rfl
/-- the mixture at a begin -/
theorem mix_at {q one other t : Tr} (hq : 0 < q.2) (e : cst one q = cst other q) (h : cst other q ≤ cst t q) (h1 : other.2 ≤ t.2) (h2 : t.2 < one.2) :
    (t.2 - other.2) * one.1 + (one.2 - t.2) * other.1 ≤ ((t.2 - other.2) + (one.2 - t.2)) * t.1 ∧ (t.2 - other.2) * one.2 + (one.2 - t.2) * other.2 ≤ ((t.2 - other.2) + (one.2 - t.2)) * t.2 := by
  constructor
  · unfold cst at *
    apply mul_le_of hq
    have h3 := Int.mul_le_mul_of_nonneg_left h (show 0 ≤ one.2 - other.2 by omega)
    have e9 : (t.2 - other.2) * (one.1 * q.2 + one.2 * q.1) = (t.2 - other.2) * (other.1 * q.2 + other.2 * q.1) := by rw [e]
    grind
  · grind
/-- beyond a last range -/
theorem last_far {p t c : Tr} (hp : 0 < p.2) (p0 : 0 ≤ p.1) (h : cst c p ≤ cst t p) (hc : t.2 < c.2) : 0 ≤ (t.1 - c.1) / (c.2 - t.2) ∧ cst t ((t.1 - c.1) / (c.2 - t.2) + 1, 1) < cst c ((t.1 - c.1) / (c.2 - t.2) + 1, 1) ∧ p.1 * 1 ≤ ((t.1 - c.1) / (c.2 - t.2) + 1) * p.2 := by
  have d0 : 0 < c.2 - t.2 := by omega
  have e1 := Int.mul_ediv_add_emod (t.1 - c.1) (c.2 - t.2)
  have m0 := Int.emod_nonneg (t.1 - c.1) (show c.2 - t.2 ≠ 0 by omega)
  have m1 := Int.emod_lt_of_pos (t.1 - c.1) d0
  generalize (t.1 - c.1) / (c.2 - t.2) = x at *
  generalize (t.1 - c.1) % (c.2 - t.2) = r at *
  have n0 : 0 ≤ t.1 - c.1 := by
    apply mul_le_of hp
    have := Int.mul_nonneg (show 0 ≤ c.2 - t.2 by omega) p0
    unfold cst at h
    grind
  have x0 : 0 ≤ x := by
    have : (-1) * (c.2 - t.2) < x * (c.2 - t.2) := by grind
    have := mul_lt_of d0 this
    omega
  refine ⟨x0, ?_, ?_⟩
  · show t.1 * 1 + t.2 * (x + 1) < c.1 * 1 + c.2 * (x + 1)
    grind
  · apply mul_le_of d0
    unfold cst at h
    have h2 : (t.1 - c.1) ≤ (x + 1) * (c.2 - t.2) := by grind
    have h3 := Int.mul_le_mul_of_nonneg_right h2 (Int.le_of_lt hp)
    grind
end Dt
namespace Dt
open PySem PySem.Spec PyProof.Rows L2
/-! ## what next_of keeps -/
structure NB (l : List Tr) (tc : Tr) (n : Nat) (b : Option (Int × Int × Nat)) : Prop where
  nil : b = none → ∀ i u, i < n → l[i]? = some u → tc.2 ≤ u.2
  cns : ∀ x y j, b = some (x, y, j) → j < n ∧ ∃ tn, l[j]? = some tn ∧ tn.2 < tc.2 ∧ x = tn.1 - tc.1 ∧ y = tc.2 - tn.2 ∧
    ∀ i u, i < n → l[i]? = some u → u.2 < tc.2 → x * (tc.2 - u.2) < (u.1 - tc.1) * y ∨ (x * (tc.2 - u.2) = (u.1 - tc.1) * y ∧ tn.2 ≤ u.2)
section
variable {l : List Tr} {tc u tn : Tr} {n j : Nat} {x y : Int} {b : Option (Int × Int × Nat)}
theorem NB.zero : NB l tc 0 none := ⟨fun _ i u h => absurd h (Nat.not_lt_zero _), fun _ _ _ e => by cases e⟩
theorem NB.skip (h : NB l tc n b) (hu : l[n]? = some u) (c : ¬ u.2 < tc.2) : NB l tc (n + 1) b := by
  refine ⟨fun e i w hi hw => ?_, fun x y j e => ?_⟩
  · by_cases q : i = n
    · subst q
      rw [hu] at hw
      cases hw
      omega
    · exact h.nil e i w (by omega) hw
  · obtain ⟨h1, tn, h2, h3, h4, h5, h6⟩ := h.cns x y j e
    refine ⟨by omega, tn, h2, h3, h4, h5, fun i w hi hw hl => ?_⟩
    by_cases q : i = n
    · subst q
      rw [hu] at hw
      cases hw
      omega
    · exact h6 i w (by omega) hw hl
theorem NB.first (h : NB l tc n none) (hu : l[n]? = some u) (c : u.2 < tc.2) : NB l tc (n + 1) (some (u.1 - tc.1, tc.2 - u.2, n)) := by
  refine ⟨fun e => (by cases e), fun x y j e => ?_⟩
  cases e
  refine ⟨by omega, u, hu, c, rfl, rfl, fun i w hi hw hl => ?_⟩
  by_cases q : i = n
  · subst q
    rw [hu] at hw
    cases hw
    exact .inr ⟨rfl, Int.le_refl _⟩
  · have := h.nil rfl i w (by omega) hw
    omega
theorem NB.less (h : NB l tc n (some (x, y, j))) (hu : l[n]? = some u) (c : u.2 < tc.2) (k : (u.1 - tc.1) * y < x * (tc.2 - u.2)) : NB l tc (n + 1) (some (u.1 - tc.1, tc.2 - u.2, n)) := by
  refine ⟨fun e => (by cases e), fun x' y' j' e => ?_⟩
  cases e
  obtain ⟨h1, tn, h2, h3, h4, h5, h6⟩ := h.cns x y j rfl
  refine ⟨by omega, u, hu, c, rfl, rfl, fun i w hi hw hl => ?_⟩
  by_cases q : i = n
  · subst q
    rw [hu] at hw
    cases hw
    exact .inr ⟨rfl, Int.le_refl _⟩
  · left
    have y0 : 0 < y := by omega
    have g : x * (tc.2 - w.2) ≤ (w.1 - tc.1) * y := by
      rcases h6 i w (by omega) hw hl with e | ⟨e, _⟩ <;> omega
    apply mul_lt_of y0
    have g1 := Int.mul_lt_mul_of_pos_right k (show 0 < tc.2 - w.2 by omega)
    have g2 := Int.mul_le_mul_of_nonneg_right g (show 0 ≤ tc.2 - u.2 by omega)
    grind
theorem NB.tie (h : NB l tc n (some (x, y, j))) (hu : l[n]? = some u) (c : u.2 < tc.2) (k : (u.1 - tc.1) * y = x * (tc.2 - u.2)) (ht : l[j]? = some tn) (k2 : u.2 < tn.2) : NB l tc (n + 1) (some (u.1 - tc.1, tc.2 - u.2, n)) := by
  refine ⟨fun e => (by cases e), fun x' y' j' e => ?_⟩
  cases e
  obtain ⟨h1, tn', h2, h3, h4, h5, h6⟩ := h.cns x y j rfl
  rw [ht] at h2
  cases h2
  refine ⟨by omega, u, hu, c, rfl, rfl, fun i w hi hw hl => ?_⟩
  by_cases q : i = n
  · subst q
    rw [hu] at hw
    cases hw
    exact .inr ⟨rfl, Int.le_refl _⟩
  · have y0 : 0 < y := by omega
    have z0 : 0 < tc.2 - u.2 := by omega
    have g1 : (u.1 - tc.1) * y * (tc.2 - w.2) = x * (tc.2 - u.2) * (tc.2 - w.2) := by rw [k]
    rcases h6 i w (by omega) hw hl with e | ⟨e, e2⟩
    · left
      apply mul_lt_of y0
      have g2 := Int.mul_lt_mul_of_pos_right e z0
      grind
    · right
      refine ⟨?_, by omega⟩
      apply Int.eq_of_mul_eq_mul_right (show y ≠ 0 by omega)
      have g2 : x * (tc.2 - w.2) * (tc.2 - u.2) = (w.1 - tc.1) * y * (tc.2 - u.2) := by rw [e]
      grind
theorem NB.keep (h : NB l tc n (some (x, y, j))) (hu : l[n]? = some u) (c : u.2 < tc.2) (ht : l[j]? = some tn) (k : ¬ (u.1 - tc.1) * y < x * (tc.2 - u.2)) (k2 : ¬ ((u.1 - tc.1) * y = x * (tc.2 - u.2) ∧ u.2 < tn.2)) : NB l tc (n + 1) (some (x, y, j)) := by
  refine ⟨fun e => (by cases e), fun x' y' j' e => ?_⟩
  cases e
  obtain ⟨h1, tn', h2, h3, h4, h5, h6⟩ := h.cns x y j rfl
  rw [ht] at h2
  cases h2
  refine ⟨by omega, tn, ht, h3, h4, h5, fun i w hi hw hl => ?_⟩
  by_cases q : i = n
  · subst q
    rw [hu] at hw
    cases hw
    by_cases e : (u.1 - tc.1) * y = x * (tc.2 - u.2)
    · exact .inr ⟨e.symm, by
        by_cases e2 : u.2 < tn.2
        · exact absurd ⟨e, e2⟩ k2
        · omega⟩
    · left; omega
  · exact h6 i w (by omega) hw hl
end
/-! ## the first of the least -/
def enumT : Nat → List Tr → List T3
  | _, [] => []
  | n, t :: l => (t.1, t.2, (n : Int)) :: enumT (n + 1) l
theorem enumT_enc : ∀ (n : Nat) (l : List Tr), enumFrom n (l.map tr) = (enumT n l).map fun t => .tup [.int t.2.2, tr (t.1, t.2.1)]
  | _, [] => rfl
  | n, t :: l => by
    show D.tup [.int (n : Nat), tr t] :: enumFrom (n + 1) (l.map tr) = D.tup [.int (n : Nat), tr t] :: _
    rw [enumT_enc (n + 1) l]
theorem enumT_len : ∀ (n : Nat) (l : List Tr), (enumT n l).length = l.length
  | _, [] => rfl
  | n, t :: l => by
    show (enumT (n + 1) l).length + 1 = l.length + 1
    rw [enumT_len]
theorem enumT_mem : ∀ {n : Nat} {l : List Tr} {t : T3}, t ∈ enumT n l → ∃ i, n ≤ i ∧ l[i - n]? = some (t.1, t.2.1) ∧ t.2.2 = (i : Int)
  | _, [], _, h => by cases h
  | n, x :: l, t, h => by
    rcases List.mem_cons.mp h with rfl | h
    · exact ⟨n, Nat.le_refl _, by rw [Nat.sub_self]; rfl, rfl⟩
    · obtain ⟨i, h1, h2, h3⟩ := enumT_mem h
      refine ⟨i, by omega, ?_, h3⟩
      rw [show i - n = (i - (n + 1)) + 1 by omega]
      exact h2
theorem mem_enumT : ∀ {n : Nat} {l : List Tr} {u : Tr}, u ∈ l → ∃ t ∈ enumT n l, t.1 = u.1 ∧ t.2.1 = u.2
  | n, x :: l, u, h => by
    rcases List.mem_cons.mp h with rfl | h
    · exact ⟨_, List.mem_cons_self, rfl, rfl⟩
    · obtain ⟨t, h1, h2⟩ := mem_enumT (n := n + 1) h
      exact ⟨t, List.mem_cons_of_mem _ h1, h2⟩
theorem min3_spec : ∀ (ts : List T3) (t : T3), (min3 t ts ∈ t :: ts) ∧ ∀ y ∈ t :: ts, lt3 y (min3 t ts) = false
  | [], t => ⟨List.mem_cons_self, fun y hy => by
    obtain rfl := List.mem_singleton.mp hy
    show lt3 y y = false
    unfold lt3
    exact decide_eq_false (by omega)⟩
  | z :: ts, t => by
    have e : min3 t (z :: ts) = min3 (if lt3 z t = true then z else t) ts := rfl
    obtain ⟨h1, h2⟩ := min3_spec ts (if lt3 z t = true then z else t)
    rw [e]
    generalize hm : min3 (if lt3 z t = true then z else t) ts = m at *
    have h0 := h2 _ List.mem_cons_self
    refine ⟨?_, fun y hy => ?_⟩
    · rcases List.mem_cons.mp h1 with h1 | h1
      · rw [h1]
        split
        · exact List.mem_cons_of_mem _ List.mem_cons_self
        · exact List.mem_cons_self
      · exact List.mem_cons_of_mem _ (List.mem_cons_of_mem _ h1)
    · rcases List.mem_cons.mp hy with rfl | hy
      · by_cases c : lt3 z y = true
        · rw [if_pos c] at h0
          unfold lt3 at *
          have c := of_decide_eq_true c
          have h0 := of_decide_eq_false h0
          exact decide_eq_false (by omega)
        · rw [if_neg c] at h0
          exact h0
      · rcases List.mem_cons.mp hy with rfl | hy
        · by_cases c : lt3 y t = true
          · rw [if_pos c] at h0
            exact h0
          · rw [if_neg c] at h0
            unfold lt3 at *
            have c : ¬ _ := fun z => c (decide_eq_true z)
            have h0 := of_decide_eq_false h0
            exact decide_eq_false (by omega)
        · exact h2 y (List.mem_cons_of_mem _ hy)
theorem first_of {l : List Tr} {t : T3} {ts : List T3} (e : enumT 0 l = t :: ts) : ∃ c tc, (min3 t ts).2.2 = ((c : Nat) : Int) ∧ Cur l (0, 1) c tc := by
  obtain ⟨h1, h2⟩ := min3_spec ts t
  rw [← e] at h1 h2
  obtain ⟨c, _, h3, h4⟩ := enumT_mem h1
  refine ⟨c, _, h4, first_cur h3 fun u hu => ?_⟩
  obtain ⟨y, hy, e1, e2⟩ := mem_enumT (n := 0) hu
  have h5 := h2 y hy
  obtain ⟨i, _, _, _⟩ := enumT_mem hy
  unfold lt3 at h5
  have h5 := of_decide_eq_false h5
  show (min3 t ts).1 < u.1 ∨ ((min3 t ts).1 = u.1 ∧ (min3 t ts).2.1 ≤ u.2)
  rw [← e1, ← e2]
  omega
/-! ## last items -/
theorem atI_neg1 {α : Type} {xs : List α} {x : α} (h : xs[xs.length - 1]? = some x) : atI xs (-1) = some x := by
  have hl : 0 < xs.length := by
    cases xs with
    | nil => cases h
    | cons a as => exact Nat.succ_pos _
  have e : ixN xs.length (-1) = some (xs.length - 1) := by
    unfold ixN
    rw [if_neg (by decide), if_pos (by omega)]
    congr 1
    omega
  unfold atI
  rw [e]
  exact h
theorem zipD_at {α β : Type} {f : α → D} {g : β → D} : ∀ {xs : List α} {ys : List β} {i : Nat} {d : D}, (zipD (xs.map f) (ys.map g))[i]? = some d → ∃ x y, xs[i]? = some x ∧ ys[i]? = some y ∧ d = .tup [f x, g y]
  | [], ys, i, d, h => by
    rw [show zipD (([] : List α).map f) (ys.map g) = [] by cases ys <;> rfl] at h
    cases h
  | x :: xs, [], i, d, h => by cases h
  | x :: xs, y :: ys, 0, d, h => by
    cases h
    exact ⟨x, y, rfl, rfl, rfl⟩
  | x :: xs, y :: ys, i + 1, d, h => by
    obtain ⟨a, b, h1, h2, h3⟩ := zipD_at (xs := xs) (ys := ys) (i := i) (d := d) h
    exact ⟨a, b, h1, h2, h3⟩
end Dt
namespace Dt
open PySem PySem.Spec PyProof.Rows L2 He
/-! ## results of one's own -/
abbrev Fl2 := List (Str × List D)
inductive Ow where
  | sh (d : D) | lst (ds : List D) | ins (C : Addr) (fs : Fl2)
def Ow.sl : Ow → Sl
  | .sh d => .sh d
  | .lst ds => .ow ds
  | .ins C fs => .oi C fs
/-- the value v is what o tells -/
def OwV (K : PySem.W.Frag) (P : Addr → Prop) (A H : Hp) (v : V) : Ow → Prop
  | .sh d => Rep K A v d
  | .lst ds => ∃ p vs, v = .ref p ∧ H p = some (.lst vs) ∧ A p = none ∧ Reps K A vs ds ∧ P p
  | .ins C fs => ∃ x dx vfs, v = .ref x ∧ H x = some (.ins C dx vfs) ∧ A x = none ∧ RepL K A H vfs fs ∧ ∀ n q, (n, V.ref q) ∈ vfs → P q
def KO (K : PySem.W.Frag) (P : Addr → Prop) (Q : VK) (E : Addr → Hp → Prop) (H0 H : Hp) : Res Ow → Prop
  | .no => False
  | .ex C => ∀ A H', Grow H0 H A H' → E C H'
  | .ok o => ∀ v A H', Grow H0 H A H' → OwV K P A H' v o → Q v H'
def spDO (K : PySem.W.Frag) (n : Nat) (φ : List D → Res Ow) : Sp := fun vs H Q E => ∃ H0 ds, Same H0 H ∧ Reps K H0 vs ds ∧ ds.length = n ∧ KO K (fun p => H p = none) Q (fun C H' => E (.ref C) none H') H0 H (φ ds)
theorem spDO_len {K : PySem.W.Frag} {n : Nat} {φ : List D → Res Ow} {ps : List Str} (h : ps.length = n) : ∀ vs H Q E, spDO K n φ vs H Q E → vs.length = ps.length := fun vs H Q E ⟨H0, ds, _, r, l, _⟩ => by
  rw [r.length, l, h]
/-! ### a body that gives such a result -/
inductive Fo where
  | fl (f : Fl) | ow (o : Ow)
def KSO (K : PySem.W.Frag) (W : WX) (G : Hp → Hp → Prop) (P : Addr → Prop) (Dd : Ends) : Res Fo → Prop
  | .no => False
  | .ex C => KS K W G P Dd (.ex C)
  | .ok (.fl f) => KS K W G P Dd (.ok f)
  | .ok (.ow o) => ∀ v A H, G A H → OwV K P A H v o → Dd.rt v H
def tSO (K : PySem.W.Frag) (W : WX) (G : Hp → Hp → Prop) (P : Addr → Prop) (g : Env → Res Fo) : TS := fun Dd σ H => ∃ A env, Stt K G P σ A H env ∧ KSO K W G P Dd (g env)
def soSeq (g1 : Env → Res Fl) (g2 : Env → Res Fo) : Env → Res Fo := fun env => match g1 env with
  | .ok (.nx e) => g2 e
  | .ok f => .ok (.fl f)
  | .no => .no
  | .ex C => .ex C
def soRet (i : Nat) : Env → Res Fo := fun env => match env[i]? with
  | some (.ow ds) => .ok (.ow (.lst ds))
  | _ => .no
def allL : Fs → Option Fl2
  | [] => some []
  | (n, .lst ds) :: r => (allL r).map ((n, ds) :: ·)
  | _ => none
theorem allL_eq : ∀ {fs : Fs} {gs : Fl2}, allL fs = some gs → fs = gs.map fun f => (f.1, .lst f.2)
  | [], _, e => by cases e; rfl
  | (n, d) :: r, gs, e => by
    cases d with
    | lst ds =>
      have e : (allL r).map ((n, ds) :: ·) = some gs := e
      cases e1 : allL r with
      | none => rw [e1] at e; cases e
      | some g =>
        rw [e1] at e
        cases e
        rw [allL_eq e1]
        rfl
    | _ => cases e
def soMk (C : Addr) (g : List D → Option Fs) (fl : Env → Res (List D)) : Env → Res Fo := fun env => (fl env).bind fun ds => match (g ds).bind allL with
  | some fs => .ok (.ow (.ins C fs))
  | none => .no
theorem RepO.repl {K : PySem.W.Frag} {A H H' : Hp} : ∀ {L : List Addr} {vs : List (Str × V)} {fs : Fl2}, RepO K A H H' L vs (fs.map fun f => (f.1, .lst f.2)) → Same A H → RepL K A H' vs fs ∧ (∀ n q, (n, V.ref q) ∈ vs → q ∈ L)
  | _, _, [], .nil, _ => ⟨.nil, fun n q h => by cases h⟩
  | _, _, f :: fs, h, s => by
    have h : RepO K A H H' _ _ ((f.1, .lst f.2) :: fs.map fun f => (f.1, .lst f.2)) := h
    cases h with
    | sh nl _ _ => cases nl
    | ow h1 h2 h3 h4 h5 =>
      obtain ⟨r, m⟩ := RepO.repl h5 s
      refine ⟨.cons h2 (Same.free s h1) h3 (fun n z => h4 (m n _ z)) r, fun n q z => ?_⟩
      rcases List.mem_cons.mp z with e | z
      · cases e
        exact List.mem_cons_self
      · exact List.mem_cons_of_mem _ (m n q z)
section
variable {X : Cx} {W : WX} {G : Hp → Hp → Prop} {P : Addr → Prop} {st : Stmt} {rest : List Stmt} {g1 : Env → Res Fl} {g2 g : Env → Res Fo} {pos : Pos}
theorem so_cons (h1 : PS X st (tS X.K W G P g1)) (h2 : PSs X rest (tSO X.K W G P g2)) : PSs X (st :: rest) (tSO X.K W G P (soSeq g1 g2)) := PSs.imp (pss_cons h1 h2) fun Dd σ H h => by
  obtain ⟨A, env, s, k⟩ := h
  refine ⟨A, env, s, ?_⟩
  unfold soSeq at k
  cases e : g1 env with
  | no => rw [e] at k; exact k
  | ex C => rw [e] at k; exact k
  | ok f =>
    rw [e] at k
    cases f with
    | nx e2 => exact fun σ' A' H' s' => ⟨A', e2, s', k⟩
    | rt d => exact k
    | bk e2 => exact k
    | ct e2 => exact k
theorem so_one (h : PS X st (tSO X.K W G P g)) : PSs X [st] (tSO X.K W G P g) := pss_one h
theorem so_frz (gd : Gd G P) (i : Nat) (h : PSs X rest (tSO X.K W G P g)) : PSs X rest (tSO X.K W G P fun env => g (frz i env)) := PSs.imp h fun Dd σ H h => by
  obtain ⟨A, env, s, k⟩ := h
  obtain ⟨A', s'⟩ := stt_frz gd i s
  exact ⟨A', _, s', k⟩
/-- return xs, one's own -/
theorem so_ret (gd : Gd G P) (i : Nat) {x : Str} {xp : Pos} (hi : X.N[i]? = some x := by rfl) (hv : Vis X.env.scope x := by first | exact Or.inl rfl | exact Or.inr (Or.inl rfl)) (hd : (x == ("__debug__" : Str)) = false := by decide) (hcd : (x == ("__classdict__" : Str)) = false := by decide) :
    PS X (.Return (some (.Name x xp)) pos) (tSO X.K W G P (soRet i)) := PS.imp (ps_ret (pe_var hi hv hd hcd)) fun Dd σ H h => by
  obtain ⟨A, env, s, k⟩ := h
  unfold soRet at k
  cases e : env[i]? with
  | none => rw [e] at k; exact k.elim
  | some sl =>
    rw [e] at k
    cases sl with
    | ow ds =>
      obtain ⟨p, vs, h1, h2, h3, h4⟩ := s.er.ow i ds e
      exact ⟨_, h1, k _ A H s.g ⟨p, vs, rfl, h2, h3, h4, s.ow.l i ds p e h1⟩⟩
    | _ => exact k.elim
/-- return C(..), lists copied -/
theorem so_retMk (gd : Gd G P) {f C : Addr} {n : Nat} {gi : List D → Option Fs} {x : Str} {p cpos : Pos} {e : Expr} {es : List Expr} {fl : Env → Res (List D)} (F : HeldI X.prog X.w X.K X.mg X.base f C n gi) (hr : Room 2 X.A) (M : Mk X.K C f) (hg : Gl X x) (hm : X.mg x = some (.ref C)) (ha : PA X (e :: es) (tDs X.K W fl)) (hn : ArgE n fl)
    (hdb : (x == ("__debug__" : Str)) = false := by decide) (he : starEach (e :: es) X.env = (false, eval e X.env) :: starEach es X.env := by rfl) (hpl : (backTo cpos (starEach es X.env)).any (·.1) = false := by rfl) :
    PS X (.Return (some (.Call (.Name x p) (e :: es) [] cpos)) pos) (tSO X.K W G P (soMk C gi fl)) := by
  obtain ⟨fd, ps, F, b⟩ := F
  refine PS.imp (ps_ret (pe_make (E := fun _ _ _ => False) M F hr hg hm b .nil (fun pins σ H s e s' I h => (cx_false H s e s' h).elim) ha hdb he hpl)) fun Dd σ H h => ?_
  obtain ⟨A0, env, s, k⟩ := h
  have hl := hn env
  refine ⟨A0, env, s.er, ?_⟩
  unfold soMk at k
  cases e1 : fl env with
  | no => rw [e1] at k; exact k
  | ex C => rw [e1] at k; exact fun A' H' g => k σ A' H' (gd.grow s.g g)
  | ok ds =>
    rw [e1, Res.bind_ok] at k
    intro us A B gr r x dx hx hd ne
    have hle := hl ds e1
    have s' := s.grow gd gr
    have er' := s'.er
    rw [List.append_nil]
    cases e2 : gi ds with
    | none => rw [e2] at k; exact k.elim
    | some fs =>
      cases e3 : allL fs with
      | none => rw [e2, Option.bind_some, e3] at k; exact k.elim
      | some gs =>
        rw [e2, Option.bind_some, e3] at k
        have ax : A x = none := Same.free er'.sub hx
        have subI : Same A (upd (upd B dx (.own x)) x (.ins C dx [])) := fun b o z => by
          rw [upd_ne (ne_of_none z ax), upd_ne (ne_of_none z (Same.free er'.sub hd))]
          exact er'.sub b o z
        refine ⟨x, dx, us, A, ds, fs, rfl, upd_same, ax, subI, r, hle, e2, fun vfs L H' kp hx' ro => ⟨rfl, ?_⟩⟩
        rw [allL_eq e3] at ro
        obtain ⟨rl, mL⟩ := RepO.repl ro subI
        have bk : Same B H' := fun b o e => by
          have n1 : b ≠ x := ne_of_none e hx
          have n2 : b ≠ dx := ne_of_none e hd
          exact kp b o n1 (by rw [upd_ne n1, upd_ne n2]; exact e)
        have gH : G A H' := gd.grow s'.g (Grow.keep er'.sub bk)
        refine k _ A H' gH ⟨x, dx, vfs, rfl, hx', ax, rl, fun n q hq => ?_⟩
        have z := (ro.new q (mL n q hq)).1
        have n1 : q ≠ x := fun e => by rw [e, upd_same] at z; cases z
        rw [upd_ne n1] at z
        have n2 : q ≠ dx := fun e => by rw [e, upd_same] at z; cases z
        rw [upd_ne n2] at z
        exact gd.fresh s'.g z
end
def runO (n : Nat) (g : Env → Res Fo) (ds : List D) : Res Ow := match g (envOf n ds) with
  | .ok (.fl (.nx _)) => .ok (.sh .non)
  | .ok (.fl (.rt d)) => .ok (.sh d)
  | .ok (.ow o) => .ok o
  | .ex C => .ex C
  | _ => .no
section
variable {P : Program} {w : World} {K : PySem.W.Frag} {mg : Str → Option Value} {base : Heap} {x qual : Str} {params : Arguments} {body : List Stmt} {scope : Scope} {f : Addr} {fd : FuncData} {dvs : List V} {kws : List (Str × V)}
theorem fn_dtO {N ps : List Str} {k : Nat} {g : Env → Res Fo} (F : L2.FunD K x qual params body scope dvs kws f fd) (S : FnScope N ps scope)
    (hb : ∀ (cdv : Value) (A : Around) (outer : List PySem.Env) (s : Shared) (H : Hp) (E : XK) (G : Hp → Hp → Prop) (P' : Addr → Prop), Room k (A.deeper (envOfC qual scope s.heap.objs.size f cdv)) → Gd G P' →
      PSs (cxOf (L2N.CX P w) P w K mg base N qual scope f cdv A outer s H E) body (tSO K (fun c d _ H => E c d H) G P' g)) : FnOk P w K mg base (L2N.CX P w) (k + 1) f fd ps (spDO K ps.length (runO N.length g)) := by
  refine F.ok S (spDO_len rfl) fun cdv A outer s H vs Q E hr h => ?_
  obtain ⟨H0, ds, sm, r, hl, kk⟩ := h
  refine ⟨_, hb cdv A outer s H E _ _ hr (gd_entry H0 H), H0, envOf N.length ds, ⟨er_start sm r, own_start, Grow.refl sm⟩, ?_⟩
  unfold runO at kk
  cases e : g (envOf N.length ds) with
  | no => rw [e] at kk; exact kk
  | ex C =>
    rw [e] at kk
    exact fun σ A B g => kk A B g
  | ok fl =>
    rw [e] at kk
    cases fl with
    | ow o => exact fun v A B g r => kk v A B g r
    | fl fl =>
      cases fl with
      | nx env => exact fun σ A B s => kk .non A B s.g .non
      | rt d => exact fun v A B g r => kk v A B g r
      | bk env => exact kk.elim
      | ct env => exact kk.elim
end
def HeldO (P : Program) (w : World) (K : PySem.W.Frag) (mg : Str → Option Value) (base : Heap) (k : Nat) (f : Addr) (ps : List Str) (φ : List D → Res Ow) : Prop :=
  ∃ fd, FnOk P w K mg base (L2N.CX P w) k f fd ps (spDO K ps.length φ) ∧ Binds K fd ps [] ∧ PySem.W.keepIn K (.ref f) = true
/-! ### name = f(..) -/
def noOi (env : Env) : Bool := env.all fun s => match s with
  | .oi _ _ => false
  | _ => true
def okSl (i : Nat) (env : Env) : Ow → Bool
  | .ins _ _ => noOi (env.set i .no)
  | _ => true
def sAsgOwn (i : Nat) (φ : List D → Res Ow) (fl : Env → Res (List D)) : Env → Res Fl := fun env => (fl env).bind fun ds => (φ ds).bind fun o => if okSl i env o = true then .ok (.nx (env.set i o.sl)) else .no
theorem noOi_get {env : Env} (h : noOi env = true) {i : Nat} {C : Addr} {fs : Fl2} : env[i]? ≠ some (.oi C fs) := fun e => by
  have := List.all_eq_true.mp h _ (List.mem_of_getElem? e)
  cases this
theorem stt_own {K : PySem.W.Frag} {G : Hp → Hp → Prop} {P : Addr → Prop} {σ : L2.St} {A H : Hp} {env : Env} {i : Nat} {v : V} {o : Ow} (s : Stt K G P σ A H env) (h : OwV K P A H v o) (ok : okSl i env o = true)
    (new : ∀ (j : Nat) (es : List D) (p : Addr), env[j]? = some (.ow es) → σ[j]? = some (some (.ref p)) → (∀ ds, o = .lst ds → v ≠ .ref p) ∧ (∀ C fs, o = .ins C fs → ∀ x C' dx vfs, v = .ref x → H x = some (.ins C' dx vfs) → ∀ n, (n, V.ref p) ∉ vfs))
    (newo : ∀ (j : Nat) (C : Addr) (fs : Fl2) (x C' dx : Addr) (vfs : List (Str × V)) (n : Str) (p : Addr), env[j]? = some (.oi C fs) → σ[j]? = some (some (.ref x)) → H x = some (.ins C' dx vfs) → (∀ ds, o = .lst ds → v = .ref p → (n, V.ref p) ∉ vfs)) :
    Stt K G P (σ.set i (some v)) A H (env.set i o.sl) := by
  cases o with
  | sh d => exact ⟨s.er.set h, s.ow.set, s.g⟩
  | lst ds =>
    obtain ⟨p, vs, rfl, h2, h3, h4, h5⟩ := h
    exact ⟨s.er.setO h2 h3 h4 (fun j es e z => (new j es p e z).1 ds rfl rfl) (fun j C fs x C' dx vfs n e1 e2 e3 => newo j C fs x C' dx vfs n p e1 e2 e3 ds rfl rfl), s.ow.setO h5, s.g⟩
  | ins C fs =>
    obtain ⟨x, dx, vfs, rfl, h2, h3, h4, h5⟩ := h
    have r := s.er
    have only : ∀ {j : Nat} {C' : Addr} {fs' : Fl2}, (env.set i (.oi C fs))[j]? = some (.oi C' fs') → j = i := fun {j C' fs'} e => by
      rcases set_some e with ⟨rfl, _⟩ | ⟨hj, z⟩
      · rfl
      · exfalso
        have ok : noOi (env.set i .no) = true := ok
        exact noOi_get ok (i := j) (by rw [List.getElem?_set_ne hj]; exact z)
    refine ⟨⟨r.sub, by show (env.set i _).length = (σ.set i _).length; rw [List.length_set, List.length_set, r.len], fun j d' e => ?_, fun j es e => ?_, fun j k d1 d2 q e1 e2 e3 e4 => ?_, fun j C' fs' e => ?_, fun j k C1 C2 f1 f2 e1 e2 => (only e1).trans (only e2).symm⟩, ⟨fun j es q e1 e2 => ?_, fun j C' fs' x' C2 dx' vfs' n q e1 e2 e3 e4 => ?_⟩, s.g⟩
    · rcases set_some e with ⟨rfl, e2⟩ | ⟨hj, e2⟩
      · cases e2
      · obtain ⟨w, g1, g2⟩ := r.sh j d' e2
        exact ⟨w, by rw [List.getElem?_set_ne hj]; exact g1, g2⟩
    · rcases set_some e with ⟨rfl, e2⟩ | ⟨hj, e2⟩
      · cases e2
      · obtain ⟨p, vs, g1, g2⟩ := r.ow j es e2
        exact ⟨p, vs, by rw [List.getElem?_set_ne hj]; exact g1, g2⟩
    · rcases set_some e1 with ⟨rfl, z⟩ | ⟨hj, z⟩
      · cases z
      · rcases set_some e2 with ⟨rfl, z2⟩ | ⟨hk, z2⟩
        · cases z2
        · rw [List.getElem?_set_ne hj] at e3
          rw [List.getElem?_set_ne hk] at e4
          exact r.ap j k d1 d2 q z z2 e3 e4
    · obtain rfl := only e
      have e' := e
      rcases set_some e with ⟨_, e2⟩ | ⟨hj, _⟩
      · cases e2
        have hl : j < env.length := by
          by_cases hl : j < env.length
          · exact hl
          · rw [List.getElem?_eq_none (by rw [List.length_set]; omega)] at e'
            cases e'
        refine ⟨x, dx, vfs, by rw [List.getElem?_set_self (by rw [← r.len]; exact hl)], h2, h3, h4, fun k ds n q e3 hq e4 => ?_⟩
        rcases set_some e3 with ⟨rfl, z⟩ | ⟨hk, z⟩
        · cases z
        · rw [List.getElem?_set_ne hk] at e4
          exact (new k ds q z e4).2 C fs rfl x C dx vfs rfl h2 n hq
      · exact absurd rfl hj
    · rcases set_some e1 with ⟨rfl, z⟩ | ⟨hj, z⟩
      · cases z
      · rw [List.getElem?_set_ne hj] at e2
        exact s.ow.l j es q z e2
    · obtain rfl := only e1
      rcases set_some e2 with ⟨_, z⟩ | ⟨hj, _⟩
      · cases z
        rw [h2] at e3
        cases e3
        exact h5 n q e4
      · exact absurd rfl hj
section
variable {X : Cx} {W : WX} {G : Hp → Hp → Prop} {P : Addr → Prop} {k : Nat} {f : Addr} {ps : List Str} {φ : List D → Res Ow} {x y : Str} {p pos pos' cpos : Pos} {e : Expr} {es : List Expr} {fl : Env → Res (List D)}
/-- a result's parts are new -/
theorem OwV.imp {K : PySem.W.Frag} {P P' : Addr → Prop} {A H : Hp} {v : V} {o : Ow} (h : OwV K P A H v o) (i : ∀ p, P p → P' p) : OwV K P' A H v o := by
  cases o with
  | sh d => exact h
  | lst ds =>
    obtain ⟨p, vs, h1, h2, h3, h4, h5⟩ := h
    exact ⟨p, vs, h1, h2, h3, h4, i p h5⟩
  | ins C fs =>
    obtain ⟨x, dx, vfs, h1, h2, h3, h4, h5⟩ := h
    exact ⟨x, dx, vfs, h1, h2, h3, h4, fun n q hq => i q (h5 n q hq)⟩
theorem sd_setOwn (gd : Gd G P) {i : Nat} (F : HeldO X.prog X.w X.K X.mg X.base k f ps φ) (hr : Room k X.A) (tk : L2N.Takes X W) (hg : Gl X y) (hm : X.mg y = some (.ref f)) (hN : X.N.Nodup) (ha : PA X (e :: es) (tDs X.K W fl)) (hn : ArgE ps.length fl)
    (hi : X.N[i]? = some x := by rfl) (hx : Loc X.env.scope x := by first | exact Or.inl rfl | exact Or.inr rfl) (hs : swapsWith (.Call (.Name y p) (e :: es) [] cpos) (some (.Name x pos')) pos.line X.env = pure false := by rfl) (hf : X.fn x = true ∨ X.env.scope.names.lookup x = some .local := by first | exact .inl rfl | exact .inr rfl | assumption)
    (hdb : (y == ("__debug__" : Str)) = false := by decide) (he : starEach (e :: es) X.env = (false, eval e X.env) :: starEach es X.env := by rfl) (hpl : (backTo cpos (starEach es X.env)).any (·.1) = false := by rfl) :
    PS X (.Assign [.Name x pos'] (.Call (.Name y p) (e :: es) [] cpos) pos) (tS X.K W G P (sAsgOwn i φ fl)) := by
  obtain ⟨fd, F, b, kp⟩ := F
  refine PS.imp (ps_set hN hi hx (pe_callS F hr hg hm kp b (fun σ => L2N.passAt tk σ) ha hdb he hpl) hs hf) fun Dd σ H h => ?_
  obtain ⟨A, env, s, kk⟩ := h
  have hl := hn env
  refine ⟨A, env, s.er, ?_⟩
  unfold sAsgOwn at kk
  cases e1 : fl env with
  | no => rw [e1] at kk; exact kk
  | ex C => rw [e1] at kk; exact fun A' H' g => kk σ A' H' (gd.grow s.g g)
  | ok ds =>
    rw [e1, Res.bind_ok] at kk
    intro vs A1 H1 g1 r
    have s1 := s.grow gd g1
    refine ⟨A1, ds, s1.er.sub, r, hl ds e1, ?_⟩
    cases e2 : φ ds with
    | no => rw [e2] at kk; exact kk
    | ex C => rw [e2] at kk; exact fun A2 H2 g2 => kk σ A2 H2 (gd.grow s1.g g2)
    | ok o =>
      rw [e2, Res.bind_ok] at kk
      intro v A2 H2 g2 ov
      by_cases c : okSl i env o = true
      · rw [if_pos c] at kk
        have s2 := s1.grow gd g2
        refine kk _ A2 H2 (stt_own s2 (ov.imp fun p hp => gd.fresh s1.g hp) c (fun j es p e3 e4 => ⟨fun ds eo ev => ?_, fun C fs eo x C' dx vfs ev e5 n e6 => ?_⟩) (fun j C fs x C' dx vfs n p e3 e4 e5 ds eo ev e6 => ?_))
        · obtain ⟨p', ws, h1, h2, _⟩ := s1.er.ow j es e3
          rw [e4] at h1
          cases h1
          subst eo
          obtain ⟨p', vs', h1, _, _, _, h5⟩ := ov
          rw [ev] at h1
          cases h1
          rw [h2] at h5
          cases h5
        · obtain ⟨p', ws, h1, h2, _⟩ := s1.er.ow j es e3
          rw [e4] at h1
          cases h1
          subst eo
          obtain ⟨x', dx', vfs', h1, h3, _, _, h6⟩ := ov
          rw [ev] at h1
          cases h1
          rw [h3] at e5
          cases e5
          have this : H1 p = none := h6 n p e6
          rw [h2] at this
          cases this
        · obtain ⟨x', dx', vfs', h1, h2, _, h4, _⟩ := s1.er.oi j C fs e3
          rw [e4] at h1
          cases h1
          have h3 := g2.s _ _ h2
          rw [e5] at h3
          cases h3
          subst eo
          obtain ⟨p', vs', g1', _, _, _, h5⟩ := ov
          rw [ev] at g1'
          cases g1'
          obtain ⟨⟨ws, h6⟩, _⟩ := h4.mem e6
          rw [h6] at h5
          cases h5
      · rw [if_neg c] at kk
        exact kk.elim
end
/-! ### tests that look at one's own -/
def bView (fa : Env → Res Bool) : Env → Res Bool := fun env => fa (Dt.view env)
theorem pt_view {X : Cx} {W : WX} {e : Expr} {fa : Env → Res Bool} (h : PT X e (tDB X.K W fa)) : PT X e (tDB X.K W (bView fa)) := PT.imp h fun σ H Q h => by
  obtain ⟨A, env, er, k⟩ := h
  obtain ⟨A', sm, er'⟩ := view_er er
  refine ⟨A', Dt.view env, er', ?_⟩
  unfold bView at k
  cases e : fa (Dt.view env) with
  | no => rw [e] at k; exact k
  | ex C => rw [e] at k; exact fun B H' g => k A H' (Grow.keep er.sub g.s)
  | ok d => rw [e] at k; exact fun v B H' g r => k v A H' (Grow.keep er.sub g.s) r
/-! ### a field of one's own instance: append, pop -/
def putL (f : Str) (ds : List D) : Fl2 → Fl2
  | [] => []
  | (n, es) :: r => if n = f then (n, ds) :: r else (n, es) :: putL f ds r
section
variable {K : PySem.W.Frag} {A H : Hp}
theorem RepL.look {f : Str} {ds : List D} : ∀ {vs : List (Str × V)} {fs : Fl2}, RepL K A H vs fs → fs.lookup f = some ds → ∃ q ws, vs.lookup f = some (.ref q) ∧ H q = some (.lst ws) ∧ A q = none ∧ Reps K A ws ds ∧ (f, V.ref q) ∈ vs
  | _, _, .nil, h => by cases h
  | _, _, @RepL.cons _ _ _ n q ws es vs fs h1 h2 h3 h4 r, h => by
    by_cases e : (f == n) = true
    · simp only [List.lookup, e] at h ⊢
      cases h
      obtain rfl := beq_iff_eq.mp e
      exact ⟨q, ws, rfl, h1, h2, h3, List.mem_cons_self⟩
    · have e' : (f == n) = false := by simpa using e
      simp only [List.lookup, e'] at h ⊢
      obtain ⟨q, ws, g1, g2, g3, g4, g5⟩ := RepL.look r h
      exact ⟨q, ws, g1, g2, g3, g4, List.mem_cons_of_mem _ g5⟩
theorem RepL.put {f : Str} {ds es : List D} {q : Addr} {ws : List V} (hr : Reps K A ws es) : ∀ {vs : List (Str × V)} {fs : Fl2}, RepL K A H vs fs → fs.lookup f = some ds → vs.lookup f = some (.ref q) → RepL K A (upd H q (.lst ws)) vs (putL f es fs)
  | _, _, .nil, h, _ => by cases h
  | _, _, @RepL.cons _ _ _ n q' ws' es' vs fs h1 h2 h3 h4 r, h, h' => by
    by_cases e : (f == n) = true
    · simp only [List.lookup, e] at h h'
      cases h
      cases h'
      obtain rfl := beq_iff_eq.mp e
      show RepL K A _ _ (if f = f then (f, es) :: fs else _)
      rw [if_pos rfl]
      refine .cons upd_same h2 hr h4 (r.heap fun m q2 hm => ?_)
      have ne : q2 ≠ q := fun z => h4 m (z ▸ hm)
      rw [upd_ne ne]
    · have e' : (f == n) = false := by simpa using e
      simp only [List.lookup, e'] at h h'
      have nf : n ≠ f := fun z => e (beq_iff_eq.mpr z.symm)
      show RepL K A _ _ (if n = f then _ else (n, es') :: putL f es fs)
      rw [if_neg nf]
      have qq : q' ≠ q := fun z => by
        obtain ⟨q2, _, g1, _, _, _, g5⟩ := RepL.look r h
        rw [h'] at g1
        cases g1
        exact h4 f (z ▸ g5)
      exact .cons (by rw [upd_ne qq]; exact h1) h2 h3 h4 (RepL.put hr r h h')
end
theorem stt_putF {K : PySem.W.Frag} {G : Hp → Hp → Prop} {P : Addr → Prop} {σ : L2.St} {A H : Hp} {env : Env} {i : Nat} {C x dx q : Addr} {fs : Fl2} {vfs : List (Str × V)} {f : Str} {ds es : List D} {ws : List V} (gd : Gd G P) (s : Stt K G P σ A H env) (hi : env[i]? = some (.oi C fs)) (hσ : σ[i]? = some (some (.ref x))) (hx : H x = some (.ins C dx vfs)) (hf : fs.lookup f = some ds) (hq : vfs.lookup f = some (.ref q)) (hm : (f, V.ref q) ∈ vfs) (hr : Reps K A ws es) :
    Stt K G P σ A (upd H q (.lst ws)) (env.set i (.oi C (putL f es fs))) := by
  have r := s.er
  obtain ⟨x', dx', vfs', h1, h2, h3, h4, h5⟩ := r.oi i C fs hi
  rw [hσ] at h1
  cases h1
  rw [hx] at h2
  cases h2
  obtain ⟨⟨ws0, hq0⟩, aq⟩ := h4.mem hm
  have xq : x ≠ q := fun z => by
    rw [z, hq0] at hx
    cases hx
  have only : ∀ {j : Nat} {C' : Addr} {fs' : Fl2}, (env.set i (.oi C (putL f es fs)))[j]? = some (.oi C' fs') → j = i := fun {j C' fs'} e => by
    rcases set_some e with ⟨rfl, _⟩ | ⟨hj, z⟩
    · rfl
    · exact r.o1 j i C' C fs' fs z hi
  refine ⟨⟨fun b o e => ?_, by rw [List.length_set, r.len], fun j d' e => ?_, fun j es' e => ?_, fun j k d1 d2 a e1 e2 e3 e4 => ?_, fun j C' fs' e => ?_, fun j k C1 C2 f1 f2 e1 e2 => (only e1).trans (only e2).symm⟩, ⟨fun j es' a e1 e2 => ?_, fun j C' fs' x' C2 dx' vfs' n a e1 e2 e3 e4 => ?_⟩, gd.put s.g aq (s.ow.o i C fs x C dx vfs f q hi hσ hx hm)⟩
  · rw [upd_ne (ne_of_none e aq)]
    exact r.sub b o e
  · rcases set_some e with ⟨rfl, e2⟩ | ⟨hj, e2⟩
    · cases e2
    · exact r.sh j d' e2
  · rcases set_some e with ⟨rfl, e2⟩ | ⟨hj, e2⟩
    · cases e2
    · obtain ⟨p, vs, g1, g2, g3⟩ := r.ow j es' e2
      have pq : p ≠ q := fun z => h5 j es' f q e2 hm (by rw [← z]; exact g1)
      exact ⟨p, vs, g1, by rw [upd_ne pq]; exact g2, g3⟩
  · rcases set_some e1 with ⟨rfl, z⟩ | ⟨hj, z⟩
    · cases z
    · rcases set_some e2 with ⟨rfl, z2⟩ | ⟨hk, z2⟩
      · cases z2
      · exact r.ap j k d1 d2 a z z2 e3 e4
  · obtain rfl := only e
    rcases set_some e with ⟨_, e2⟩ | ⟨hj, _⟩
    · cases e2
      refine ⟨x, dx, vfs, hσ, by rw [upd_ne xq]; exact hx, h3, h4.put hr hf hq, fun k ds' n q' e3 hq' => ?_⟩
      rcases set_some e3 with ⟨rfl, z⟩ | ⟨hk, z⟩
      · cases z
      · exact h5 k ds' n q' z hq'
    · exact absurd rfl hj
  · rcases set_some e1 with ⟨rfl, z⟩ | ⟨hj, z⟩
    · cases z
    · exact s.ow.l j es' a z e2
  · obtain rfl := only e1
    rw [hσ] at e2
    cases e2
    rw [upd_ne xq, hx] at e3
    cases e3
    exact s.ow.o j C fs x C dx vfs n a hi hσ hx e4
def sAppF (Cs : List Addr) (i : Nat) (f : Str) (fa : Env → Res D) : Env → Res Fl := fun env => match env[i]? with
  | some (.oi C fs) => if C ∈ Cs then (match fs.lookup f with
    | some ds => if ds.length < 1000000 then (fa env).bind fun d => .ok (.nx (env.set i (.oi C (putL f (ds ++ [d]) fs)))) else .no
    | none => .no) else .no
  | _ => .no
def sPopF (Cs : List Addr) (i : Nat) (f : Str) : Env → Res Fl := fun env => match env[i]? with
  | some (.oi C fs) => if C ∈ Cs then (match fs.lookup f with
    | some ds => if ds.length = 0 then .no else .ok (.nx (env.set i (.oi C (putL f ds.dropLast fs))))
    | none => .no) else .no
  | _ => .no
theorem Reps.dropLast {K : PySem.W.Frag} {H : Hp} {vs : List V} {ds : List D} (r : Reps K H vs ds) : Reps K H vs.dropLast ds.dropLast := by
  rw [List.dropLast_eq_take, List.dropLast_eq_take, r.length]
  exact r.take _
section
variable {X : Cx} {W : WX} {G : Hp → Hp → Prop} {P : Addr → Prop} {pos : Pos} {e : Expr} {fa : Env → Res D} {Cs : List Addr}
theorem sd_appF (gd : Gd G P) (i : Nat) {x f : Str} {xp ap apos cpos : Pos} (hC : ∀ C ∈ Cs, Cls X.K C ∧ NoAttr X.K C f) (he : PE X e (tD X.K W fa)) (hi : X.N[i]? = some x := by rfl) (hv : Vis X.env.scope x := by first | exact Or.inl rfl | exact Or.inr (Or.inl rfl) | exact Or.inr (Or.inr rfl))
    (hb : attributeBase (.Name x xp) f X.env (eval (.Name x xp) X.env) = eval (.Name x xp) X.env := by rfl)
    (hse : starEach [e] X.env = (false, eval e X.env) :: starEach [] X.env := by rfl)
    (hbase : attributeBase (.Attribute (.Name x xp) f ap) "append" X.env (eval (.Attribute (.Name x xp) f ap) X.env) = eval (.Attribute (.Name x xp) f ap) X.env := by rfl)
    (hfew : ((backTo cpos (starEach [e] X.env)).all (fun x => !x.1) && (backToKw cpos (keywordEach [] X.env)).all (fun x => x.1.isSome)
      && decide (([e] : List Expr).length + ([] : List Keyword).length + (if ([] : List Keyword).isEmpty then 0 else 1) < 30)) = true := by rfl)
    (hline : (apos.endLine == cpos.line) = true := by rfl) (hplain : (backTo cpos (starEach ([] : List Expr) X.env)).any (·.1) = false := by rfl)
    (hsw : swapsWith (.Call (.Attribute (.Attribute (.Name x xp) f ap) "append" apos) [e] [] cpos) none pos.line X.env = pure false := by rfl)
    (hd : (x == ("__debug__" : Str)) = false := by decide) (hcd : (x == ("__classdict__" : Str)) = false := by decide) :
    PS X (.Expr (.Call (.Attribute (.Attribute (.Name x xp) f ap) "append" apos) [e] [] cpos) pos) (tS X.K W G P (sAppF Cs i f fa)) :=
  PS.imp (ps_expr (pe_bm PySem.F.plainAttrs_list PySem.F.slot_list_append PySem.F.type_list_append mt_append (pe_fld (pe_var hi hv hd hcd) hb) (pa_cons he pa_nil hse) hbase hfew hline hse hplain) hsw) fun Dd σ H h => by
  obtain ⟨A, env, s, k⟩ := h
  unfold sAppF at k
  cases e1 : env[i]? with
  | none => rw [e1] at k; exact k.elim
  | some sl =>
    rw [e1] at k
    cases sl with
    | oi C fs =>
      have k : KS X.K W G P Dd (if C ∈ Cs then (match fs.lookup f with
        | some ds => if ds.length < 1000000 then (fa env).bind fun d => .ok (.nx (env.set i (.oi C (putL f (ds ++ [d]) fs)))) else .no
        | none => .no) else .no) := k
      by_cases c : C ∈ Cs
      · rw [if_pos c] at k
        cases e2 : fs.lookup f with
        | none => rw [e2] at k; exact k.elim
        | some ds =>
          rw [e2] at k
          have k : KS X.K W G P Dd (if ds.length < 1000000 then (fa env).bind fun d => .ok (.nx (env.set i (.oi C (putL f (ds ++ [d]) fs)))) else .no) := k
          by_cases hl : ds.length < 1000000
          · rw [if_pos hl] at k
            obtain ⟨x1, dx, vfs, h1, h2, h3, h4, h5⟩ := s.er.oi i C fs e1
            obtain ⟨q, ws, g1, g2, g3, g4, g5⟩ := h4.look e2
            refine ⟨_, h1, x1, C, dx, vfs, .ref q, rfl, h2, (hC C c).1, (hC C c).2, g1, .inl ⟨rfl, ws, SqL.of g2⟩, ?_⟩
            refine ⟨A, env, s.er, ?_⟩
            cases e3 : fa env with
            | no => rw [e3] at k; exact k
            | ex C' => rw [e3] at k; exact fun A' H' g => k σ A' H' (gd.grow s.g g)
            | ok d =>
              rw [e3, Res.bind_ok] at k
              intro y A' H' g ry
              have s' := s.grow gd g
              have h4' := h4.grow g
              obtain ⟨q2, ws2, j1, j2, j3, j4, j5⟩ := h4'.look e2
              rw [g1] at j1
              cases j1
              exact ⟨q, ws2, y, rfl, rfl, j2, by rw [j4.length]; exact sz_lt hl, k σ A' _ (stt_putF gd s' e1 h1 (g.s _ _ h2) e2 g1 g5 (j4.append (.cons ry .nil)))⟩
          · rw [if_neg hl] at k
            exact k.elim
      · rw [if_neg c] at k
        exact k.elim
    | _ => exact k.elim
/-- x.f.pop() -/
theorem sd_popF (gd : Gd G P) (i : Nat) {x f : Str} {xp ap apos cpos : Pos} (hC : ∀ C ∈ Cs, Cls X.K C ∧ NoAttr X.K C f) (hi : X.N[i]? = some x := by rfl) (hv : Vis X.env.scope x := by first | exact Or.inl rfl | exact Or.inr (Or.inl rfl) | exact Or.inr (Or.inr rfl))
    (hb : attributeBase (.Name x xp) f X.env (eval (.Name x xp) X.env) = eval (.Name x xp) X.env := by rfl)
    (hbase : attributeBase (.Attribute (.Name x xp) f ap) "pop" X.env (eval (.Attribute (.Name x xp) f ap) X.env) = eval (.Attribute (.Name x xp) f ap) X.env := by rfl)
    (hline : (apos.endLine == cpos.line) = true := by rfl)
    (hsw : swapsWith (.Call (.Attribute (.Attribute (.Name x xp) f ap) "pop" apos) [] [] cpos) none pos.line X.env = pure false := by rfl)
    (hd : (x == ("__debug__" : Str)) = false := by decide) (hcd : (x == ("__classdict__" : Str)) = false := by decide) :
    PS X (.Expr (.Call (.Attribute (.Attribute (.Name x xp) f ap) "pop" apos) [] [] cpos) pos) (tS X.K W G P (sPopF Cs i f)) :=
  PS.imp (ps_expr (pe_bm0 PySem.F.plainAttrs_list PySem.F.slot_list_pop PySem.F.type_list_pop mt_pop (pe_fld (pe_var hi hv hd hcd) hb) hbase hline) hsw) fun Dd σ H h => by
  obtain ⟨A, env, s, k⟩ := h
  unfold sPopF at k
  cases e1 : env[i]? with
  | none => rw [e1] at k; exact k.elim
  | some sl =>
    rw [e1] at k
    cases sl with
    | oi C fs =>
      have k : KS X.K W G P Dd (if C ∈ Cs then (match fs.lookup f with
        | some ds => if ds.length = 0 then .no else .ok (.nx (env.set i (.oi C (putL f ds.dropLast fs))))
        | none => .no) else .no) := k
      by_cases c : C ∈ Cs
      · rw [if_pos c] at k
        cases e2 : fs.lookup f with
        | none => rw [e2] at k; exact k.elim
        | some ds =>
          rw [e2] at k
          have k : KS X.K W G P Dd (if ds.length = 0 then .no else .ok (.nx (env.set i (.oi C (putL f ds.dropLast fs))))) := k
          by_cases hl : ds.length = 0
          · rw [if_pos hl] at k
            exact k.elim
          · rw [if_neg hl] at k
            obtain ⟨x1, dx, vfs, h1, h2, h3, h4, h5⟩ := s.er.oi i C fs e1
            obtain ⟨q, ws, g1, g2, g3, g4, g5⟩ := h4.look e2
            obtain ⟨y, hy⟩ : ∃ y, ws[ws.length - 1]? = some y := ⟨_, List.getElem?_eq_getElem (by have := g4.length; omega)⟩
            exact ⟨_, h1, x1, C, dx, vfs, .ref q, rfl, h2, (hC C c).1, (hC C c).2, g1, .inl ⟨rfl, ws, SqL.of g2⟩, q, ws, y, rfl, rfl, g2, hy, k σ A _ (stt_putF gd s e1 h1 h2 e2 g1 g5 g4.dropLast)⟩
      · rw [if_neg c] at k
        exact k.elim
    | _ => exact k.elim
end
/-! ### plain: a for that looks at each, its items of any kind -/
section
variable {d : D} {env : Env} {g1 g2 gb : Env → Res Fl} {fc : Env → Res Bool} {bt : Bt} {fi : Env → Res (List D)}
theorem ifT (h : fc env = .ok true) (hr : g1 env = .ok (.rt d)) : sIf fc g1 g2 env = .ok (.rt d) := by
  unfold sIf
  rw [h]
  exact hr
theorem forS_rt1 {ds : List D} {d0 : D} {e1 : Env} (h1 : bt d0 env = .ok e1) (h2 : gb e1 = .ok (.rt d)) : forS bt gb (d0 :: ds) env = .ok (.rt d) := by
  show bOk (bt d0 env) _ = _
  rw [h1, bOk_ok, h2]
theorem sFor_of {ds : List D} (hi : fi env = .ok ds) : sFor fi bt gb env = forS bt gb ds env := by
  unfold sFor
  rw [hi]
  rfl
theorem for_checkK {α : Type} (xs : List α) (enc : α → D) (ok : α → Bool) (I : Env → Prop) {d0 d1 : D} (hi : fi env = .ok (xs.map enc)) (h0 : I env)
    (H : ∀ x ∈ xs, ∀ env, I env → ∃ e1, bt (enc x) env = .ok e1 ∧ (ok x = true → ∃ e2, gb e1 = .ok (.nx e2) ∧ I e2) ∧ (ok x = false → gb e1 = .ok (.rt d0))) (hr : ∀ e, I e → g2 e = .ok (.rt d1)) :
    sSeq (sFor fi bt gb) g2 env = .ok (.rt (if xs.all ok = true then d1 else d0)) := for_check xs enc ok I hi h0 H hr
end
end Dt
namespace Dt
open PySem PySem.Spec PyProof.Rows L2 He
theorem takes0N {X : Cx} : L2N.Takes X (fun _ _ _ _ => False) := fun _ _ x => by
  obtain ⟨_, _, _, _, _, _, _, _, _, _, _, _, _, _, _, _, w⟩ := x
  exact w.elim
/-! ## isinstance of a caught exception -/
def isED (K : PySem.W.Frag) (a C : Addr) : List D → Option D
  | [.err b E, c] => if b = a ∧ E = C then (match clsD c with
    | some u => (PySem.W.kitOne K (.ref C) u).map .bl
    | none => none) else none
  | _ => none
theorem clsV_eq {c : V} {u : Value} (h : ClsV c u) : ∀ w, RelV c w → w = u := fun w r => by
  cases h with
  | ty n => cases r; rfl
  | own a => cases r; rfl
theorem good_isE {K : PySem.W.Frag} {a C : Addr} : GoodN K (rIsE K C a) (isED K a C) := by
  intro H0 H xs as d Q s r e q
  match as, e with
  | [.err b E, c], e =>
    obtain ⟨v, w, rfl, rv, rw'⟩ := reps2 r
    have ee : (if b = a ∧ E = C then (match clsD c with
      | some u => (PySem.W.kitOne K (.ref C) u).map D.bl
      | none => none) else none) = some d := e
    clear e
    by_cases h : b = a ∧ E = C
    · rw [if_pos h] at ee
      obtain ⟨rfl, rfl⟩ := h
      cases rv
      cases e2 : clsD c with
      | none => rw [e2] at ee; cases ee
      | some u =>
        rw [e2] at ee
        have ee : (PySem.W.kitOne K (.ref E) u).map D.bl = some d := ee
        cases e3 : PySem.W.kitOne K (.ref E) u with
        | none => rw [e3] at ee; cases ee
        | some k =>
          rw [e3] at ee
          cases ee
          exact ⟨w, u, k, rfl, clsV_eq (clsD_ok rw' e2), e3, q _ _ _ (Grow.refl s) (.bl _)⟩
    · rw [if_neg h] at ee
      cases ee
theorem pd_isE {X : Cx} {W : WX} {e : Expr} {es : List Expr} {pos p : Pos} {fl : Env → Res (List D)} {a C : Addr} {oe : Obj} {pn : List (Addr × Obj)} (E : ExcC X.K C) (hz : Zc (.ref C) none oe) (hf : ∃ vs, oe.data = .fields vs)
    (hg : Gl (X.suite a ((a, oe) :: pn)) "isinstance") (hm : X.mg "isinstance" = none) (ha : PA (X.suite a ((a, oe) :: pn)) (e :: es) (tDs X.K W fl)) (he : starEach (e :: es) X.env = (false, eval e X.env) :: starEach es X.env := by rfl) (hpl : (backTo pos (starEach es X.env)).any (·.1) = false := by rfl) :
    PE (X.suite a ((a, oe) :: pn)) (.Call (.Name "isinstance" p) (e :: es) [] pos) (tD X.K W (eFn (isED X.K a C) fl)) := pd_fnB (X := X.suite a ((a, oe) :: pn)) (call_isE E hz hf) good_isE (by decide +kernel) hg hm ha (by decide) (by decide) he hpl
/-! ## try: f(..) except C as e: .. that returns -/
open Classical in
noncomputable def sTryE (i : Nat) (f : Env → Res D) (Cs : List Addr) (gs : Addr → Addr → Env → Res Fl) : Env → Res Fl := fun env => match f env with
  | .ok _ => .ok (.nx env)
  | .no => .no
  | .ex C => if h : C ∈ Cs ∧ ∃ d, ∀ a, gs a C (env.set i (.sh (.err a C))) = .ok (.rt d) then .ok (.rt h.2.choose) else .no
theorem tryE_ok {i : Nat} {f : Env → Res D} {Cs : List Addr} {gs : Addr → Addr → Env → Res Fl} {env : Env} {d : D} (h : f env = .ok d) : sTryE i f Cs gs env = .ok (.nx env) := by
  unfold sTryE
  rw [h]
open Classical in
theorem tryE_ex {i : Nat} {f : Env → Res D} {Cs : List Addr} {gs : Addr → Addr → Env → Res Fl} {env : Env} {C : Addr} {d : D} (h : f env = .ex C) (hC : C ∈ Cs) (hd : ∀ a, gs a C (env.set i (.sh (.err a C))) = .ok (.rt d)) : sTryE i f Cs gs env = .ok (.rt d) := by
  unfold sTryE
  rw [h]
  have hh : C ∈ Cs ∧ ∃ d, ∀ a, gs a C (env.set i (.sh (.err a C))) = .ok (.rt d) := ⟨hC, d, hd⟩
  show (if h : C ∈ Cs ∧ ∃ d, ∀ a, gs a C (env.set i (.sh (.err a C))) = .ok (.rt d) then Res.ok (Fl.rt h.2.choose) else .no) = _
  rw [dif_pos hh]
  have e := hh.2.choose_spec 0
  rw [hd 0] at e
  cases e
  rfl
section
variable {X : Cx} {W : WX} {G : Hp → Hp → Prop} {P : Addr → Prop} {x n : Str} {c : Addr} {i : Nat} {e : Expr} {suite : List Stmt} {b₀ : Stmt} {np pos pos' pe : Pos} {f : Env → Res D} {Cs : List Addr} {gs : Addr → Addr → Env → Res Fl}
/-- what the suite is to show -/
def tSuite (K : PySem.W.Frag) (G : Hp → Hp → Prop) (P : Addr → Prop) (Cs : List Addr) (gs : Addr → Addr → Env → Res Fl) (a : Addr) (cls : Value) (d : Option Addr) : TS := fun Dd σ H => ∃ C, cls = .ref C ∧ d = none ∧ C ∈ Cs ∧ tS K W0 G P (gs a C) Dd σ H
open Classical in
theorem sd_tryE (gd : Gd G P) (hs : X.stack = X.env :: X.outer) (hf : X.env.frame = some X.env.locals) (hN : X.N.Nodup) (hi : X.N[i]? = some n) (hln : X.env.kindOf n = some .local) (hc : Names X x (.ref c)) (tk : L2N.Takes X W)
    (hC : ∀ C ∈ Cs, ExcC X.K C ∧ PySem.W.exmOne X.K (.ref C) (.ref c) = some true)
    (hb : ∀ (W : WX) (pn : List (Addr × Obj)) (xe : Value → Shared → Prop), L2N.Takes (X.tr pn xe) W → PE (X.tr pn xe) e (tD X.K W f))
    (hsu : ∀ (a : Addr) (oe : Obj) (C : Addr) (pn : List (Addr × Obj)), ExcC X.K C → L2N.Zn (.ref C) none oe → (∃ vs, oe.data = .fields vs) → PSs (X.suite a ((a, oe) :: pn)) (b₀ :: suite) (tS X.K W0 G P (gs a C)))
    (hsw : swapsWith e none pe.line X.env = pure false := by rfl) :
    PS X (.Try [.Expr e pe] [.ExceptHandler (some (.Name x np)) (some n) (b₀ :: suite) pos'] [] [] pos) (tS X.K W G P (sTryE i f Cs gs)) := by
  refine PS.imp (L2N.ps_try_as (i := i) (tb := fun W Dd σ H => tD X.K W f σ H fun _ H' => Dd.nx σ H') (ts := tSuite X.K G P Cs gs) (Wout := W) hs hf hN hi hln hc tk (fun W' pn xe tk' _ => pss_one (ps_expr (X := X.tr pn xe) (hb W' pn xe tk') hsw)) (fun a oe cls d pn hz hv => ?_)) fun Dd σ H h => ?_
  · refine ⟨fun pins s σ H Q I w => ?_⟩
    obtain ⟨C, rfl, rfl, hm, w⟩ := w
    exact (hsu a oe C pn (hC C hm).1 hz hv).run pins s σ H Q I w
  · obtain ⟨A, env, s, k⟩ := h
    refine ⟨A, env, s.er, ?_⟩
    unfold sTryE at k
    cases e1 : f env with
    | no => rw [e1] at k; exact k
    | ok d =>
      rw [e1] at k
      exact fun v A' H' g r => k σ A' H' (s.grow gd g)
    | ex C =>
      rw [e1] at k
      intro A' H' g
      have k : KS X.K W G P Dd (if h : C ∈ Cs ∧ ∃ d, ∀ a, gs a C (env.set i (.sh (.err a C))) = .ok (.rt d) then .ok (.rt h.2.choose) else .no) := k
      by_cases hh : C ∈ Cs ∧ ∃ d, ∀ a, gs a C (env.set i (.sh (.err a C))) = .ok (.rt d)
      · rw [dif_pos hh] at k
        refine ⟨true, (hC C hh.1).2, fun _ a na => ⟨C, rfl, rfl, hh.1, A', env.set i (.sh (.err a C)), ?_, ?_⟩, fun z => (by cases z)⟩
        · have s' := s.grow gd g
          exact ⟨s'.er.set (.err a C), s'.ow.set, s'.g⟩
        · rw [hh.2.choose_spec a]
          exact k
      · rw [dif_neg hh] at k
        exact k.elim
end
/-! ## a def held by a slot -/
def eCallL (i : Nat) (a : Addr) (φ : List D → Res D) (fl : Env → Res (List D)) : Env → Res D := fun env => match env[i]? with
  | some (.sh (.cls b)) => if b = a then eCall φ fl env else .no
  | _ => .no
section
variable {X : Cx} {W : WX} {k i : Nat} {f : Addr} {ps : List Str} {φ : List D → Res D} {x : Str} {p pos : Pos} {e : Expr} {es : List Expr} {fl : Env → Res (List D)}
theorem pd_callL (F : Held X.prog X.w X.K X.mg X.base k f ps φ) (hr : Room k X.A) (tk : L2N.Takes X W) (i : Nat)
    (ha : PA X (e :: es) (tDs X.K W fl)) (hn : ArgE ps.length fl) (hN : X.N[i]? = some x := by rfl) (hv : Vis X.env.scope x := by first | exact Or.inl rfl | exact Or.inr (Or.inl rfl) | exact Or.inr (Or.inr rfl)) (hdb : (x == ("__debug__" : Str)) = false := by decide) (hcd : (x == ("__classdict__" : Str)) = false := by decide)
    (he : starEach (e :: es) X.env = (false, eval e X.env) :: starEach es X.env := by rfl) (hpl : (backTo pos (starEach es X.env)).any (·.1) = false := by rfl) :
    PE X (.Call (.Name x p) (e :: es) [] pos) (tD X.K W (eCallL i f φ fl)) := by
  obtain ⟨fd, F, b, kp⟩ := F
  refine ⟨fun pins s σ H Q I h => ?_⟩
  obtain ⟨H0, env, er, k⟩ := h
  unfold eCallL at k
  cases e1 : env[i]? with
  | none => rw [e1] at k; exact k.elim
  | some sl =>
    rw [e1] at k
    cases sl with
    | sh d =>
      cases d with
      | cls c =>
        have kk : Kt (rD X.K) W σ H0 H (if c = f then eCall φ fl env else .no) Q := k
        by_cases hc : c = f
        · rw [if_pos hc] at kk
          clear k
          subst hc
          obtain ⟨v, h1, h2⟩ := er.sh i _ e1
          cases h2
          have ht : tCallS (spD X.K ps.length φ) (WE W) (tDs X.K W fl) σ H Q := t_call hn ⟨H0, env, er, kk⟩
          refine wpAny_Call_Name_kw (thn ((pe_var (pos := p) hN hv hdb hcd).run pins s σ H (fun v H1 => v = .ref c ∧ H1 = H) I ⟨.ref c, h1, rfl, rfl⟩) fun u s1 ⟨v, H1, I1, r1, q1⟩ => ?_)
          obtain ⟨rfl, rfl⟩ := q1
          cases r1
          refine PySem.W.callWith_K (h₀ := X.base) I.ok.mod.kin kp (thn (ha.run pos pins s1 σ _ _ I1 ht) fun us s2 ⟨vs, H2, I2, r, q⟩ => ⟨I2.kIn, ?_⟩) he hpl
          exact run_fnS (E := WE W) F hr b (L2N.passAt tk σ) I2 r q
        · rw [if_neg hc] at kk
          exact kk.elim
      | _ => exact k.elim
    | _ => exact k.elim
end
/-! ## facts of own exceptions -/
def excB (x : Str) (K : PySem.W.Frag) : Bool := (Fa.exc x).ok K
theorem mk_exc {X : Cx} {x m : Str} {j : Nat} {p p2 pos : Pos} (h : excB x X.K = true) (gC : X.mg x = some (.ref (ga X.K x))) (hg : Gl X x) (hdb : (x == ("__debug__" : Str)) = false := by decide) :
    L2N.PMk X (.Call (.Name x p) [.Constant (.str m) j p2] [] pos) (fun _ H Q => Q (.ref (ga X.K x)) none H) := by
  obtain ⟨h1, h2, h3, h4⟩ := exc_ok h
  exact L2N.pmk_own PySem.F.excBase_ValueError h1 gC h2 (raises_own h3 h4) hg hdb
def excCB (x : Str) (K : PySem.W.Frag) : Bool := eqO (PySem.W.findIn K (.ref (ga K x)) "__getattribute__") (some (some (.builtin "BaseException.__getattribute__"))) && (eqO (PySem.W.findIn K (.ref (ga K x)) "__getattr__") (some none) && (decide (PySem.W.subIn K (.ref (ga K x)) (.type "BaseException") = some true) && (PySem.W.hasDictIn K (ga K x) &&
  (eqO (PySem.W.findIn K (.ref (ga K x)) "__class__") (some (some (.builtin "object.__class__"))) && (eqO (PySem.W.specialIn K (.builtin "object.__class__") "__get__") (some (some (.builtin "getset_descriptor.__get__"))) && (decide (PySem.W.takesIn K (.builtin "object.__class__") = some true) && decide (PySem.W.mroIn K (ga K x) (.type "object") = some true)))))))
theorem excCB_ok {K : PySem.W.Frag} {x : Str} (h : excCB x K = true) : ExcC K (ga K x) := by
  obtain ⟨h1, h⟩ := ba h
  obtain ⟨h2, h⟩ := ba h
  obtain ⟨h3, h⟩ := ba h
  obtain ⟨h4, h⟩ := ba h
  obtain ⟨h5, h⟩ := ba h
  obtain ⟨h6, h⟩ := ba h
  obtain ⟨h7, h8⟩ := ba h
  exact ⟨eqO_ok h1, eqO_ok h2, of_decide_eq_true h3, h4, eqO_ok h5, eqO_ok h6, of_decide_eq_true h7, of_decide_eq_true h8⟩
def excsB (xs : List Str) (y : Str) (K : PySem.W.Frag) : Bool := xs.all fun x => excCB x K && (Fa.exm x y true).ok K
theorem excsB_ok {K : PySem.W.Frag} {xs : List Str} {y : Str} (h : excsB xs y K = true) : ∀ C ∈ xs.map (ga K), ExcC K C ∧ PySem.W.exmOne K (.ref C) (.ref (ga K y)) = some true := fun C hC => by
  obtain ⟨x, hx, rfl⟩ := List.mem_map.mp hC
  obtain ⟨h1, h2⟩ := ba (List.all_eq_true.mp h x hx)
  exact ⟨excCB_ok h1, exm_ok h2⟩
def kitTB (x : Str) (t : String) (b : Bool) (K : PySem.W.Frag) : Bool := decide (PySem.W.kitOne K (.ref (ga K x)) (.type t) = some b)
theorem kitTB_ok {K : PySem.W.Frag} {x : Str} {t : String} {b : Bool} (h : kitTB x t b K = true) : PySem.W.kitOne K (.ref (ga K x)) (.type t) = some b := of_decide_eq_true h
theorem isE_own {K : PySem.W.Frag} {a C C' : Addr} {b : Bool} (h : PySem.W.kitOne K (.ref C) (.ref C') = some b) : isED K a C [.err a C, .cls C'] = some (.bl b) := by
  show (if a = a ∧ C = C then (PySem.W.kitOne K (.ref C) (.ref C')).map D.bl else none) = _
  rw [if_pos ⟨rfl, rfl⟩, h]
  rfl
theorem isE_ty {K : PySem.W.Frag} {a C : Addr} {t : String} {b : Bool} (h : PySem.W.kitOne K (.ref C) (.type t) = some b) : isED K a C [.err a C, .ty t] = some (.bl b) := by
  show (if a = a ∧ C = C then (PySem.W.kitOne K (.ref C) (.type t)).map D.bl else none) = _
  rw [if_pos ⟨rfl, rfl⟩, h]
  rfl
end Dt
/-! [.. for x in range(n)] in an except suite -/
namespace Dt
open PySem PySem.Spec PyProof.Rows L2 L2H HotX
structure TurnR (P : Program) (w : World) (K : PySem.W.Frag) (tg : Expr) (J : It) (fp : List Addr) (it : Addr) (tn : Nat → Heap → Prop) : Prop where
  mem : it ∈ fp
  obj : ∀ i h, tn i h → ∀ b ∈ fp, ∃ o, h.get? b = some o ∧ ∀ v, o.data ≠ .cell v
  keep : ∀ i h h', tn i h → (∀ b ∈ fp, ∀ o, h.get? b = some o → h'.get? b = some o) → tn i h'
  item : ∀ (X : Cx), X.prog = P → X.w = w → X.K = K → ∀ (i : Nat) (pins : List (Addr × Obj)) (s : Shared) (σ : L2.St) (H : Hp) (E : Value → Shared → Prop), Inv X pins σ H s → (∀ b ∈ fp, FpOk X pins H b) → tn i s.heap → J.go i H →
    wpAny (model P w) X.A (pyNext (.ref it)) (fun r s1 => ∃ u, r = some u ∧
      wpAny (model P w) X.A (letOwnedTupleGo tg (.ref it) u) (fun _ s2 => ∃ x H', Inv X pins σ H' s2 ∧ RelV x u ∧ J.yld i H x H' ∧ tn (i + 1) s2.heap ∧ ∀ b ∈ fp, H' b = none) E s1) E s
  done : ∀ (X : Cx), X.prog = P → X.w = w → X.K = K → ∀ (i : Nat) (pins : List (Addr × Obj)) (s : Shared) (σ : L2.St) (H : Hp) (E : Value → Shared → Prop), (∃ x1, HotAt X.A x1 s.heap) → Inv X pins σ H s → (∀ b ∈ fp, FpOk X pins H b) → tn i s.heap → J.stop i H →
    wpAny (model P w) X.A (pyNext (.ref it)) (fun r s1 => r = none ∧ Inv X pins σ H s1) E s
  self : ∀ (A : Around) (i : Nat) (s : Shared) (Q : Value → Shared → Prop) (E : Value → Shared → Prop), tn i s.heap → Q (.ref it) s → wpAny (model P w) A (pyIter (.ref it)) Q E s
theorem turn_rangeR {P : Program} {w : World} {K : PySem.W.Frag} {tg : Expr} (it : Addr) (lo : Int) (n : Nat) : TurnR P w K tg (Itr lo n) [it] it (fun i h => IsRangeIter h it (lo + (i : Nat) * 1) ((n : Int) - (i : Nat)) 1) where
  mem := by simp
  obj := fun i h st b hb => by
    have e : b = it := by simpa using hb
    subst e
    exact ⟨_, st, fun v z => by
      have z' : Data.fields _ = Data.cell v := z
      cases z'⟩
  keep := fun i h h' st k => k it (by simp) _ st
  item := by
    intro X hP hw hK i pins s σ H E I hf st hg
    subst hP hw hK
    obtain ⟨f0, f1, f2, f3, f4, f5⟩ := hf it (by simp)
    have hlt : i < n := hg
    refine wpAny_pyNext_range_item st (by omega) fun h' st' sb => ?_
    have st2 : IsRangeIter h' it (lo + ((i + 1 : Nat) : Int) * 1) ((n : Int) - ((i + 1 : Nat) : Int)) 1 := by
      have e1 : lo + ((i : Nat) : Int) * 1 + 1 = lo + ((i + 1 : Nat) : Int) * 1 := by omega
      have e2 : (n : Int) - ((i : Nat) : Int) - 1 = (n : Int) - ((i + 1 : Nat) : Int) := by omega
      rw [← e1, ← e2]
      exact st'
    have I1 : Inv X pins σ H { s with heap := h', toks := s.toks + 1 } := I.turned (fun b o hb e => (sb.2 b hb).trans e) f0 f1 f3 f4 f5
    refine ⟨_, rfl, go_of (s := { s with heap := h', toks := s.toks + 1 }) (n := "range_iterator") st2 rfl rfl (by decide) ⟨.int (lo + i), H, I1, ⟨s.toks, ?_⟩, ⟨rfl, rfl⟩, st2, fun b hb => (hf b hb).1⟩⟩
    rw [Int.mul_one]
  done := by
    intro X hP hw hK i pins s σ H E hot I hf st hg
    subst hP hw hK
    obtain ⟨f0, f1, f2, f3, f4, f5⟩ := hf it (by simp)
    obtain ⟨x1, hot⟩ := hot
    exact pyNext_range_end_hot hot st (by have : n ≤ i := hg; omega) fun h' eb => ⟨rfl, I.turned (t' := s.toks) (fun b o _ e => eb b o e) f0 f1 f3 f4 f5⟩
  self := fun _ _ _ _ _ st h => wpAny_pyIter_rangeiter st h
def PIER (X : Cx) (pins : List (Addr × Obj)) (σ : L2.St) (tg : Expr) (R : It → Hp → Prop) (itv : Value) (s2 : Shared) : Prop :=
  ∃ (it : Addr) (fp : List Addr) (tn : Nat → Heap → Prop) (J : It) (H' : Hp), itv = .ref it ∧ Inv X pins σ H' s2 ∧ TurnR X.prog X.w X.K tg J fp it tn ∧ tn 0 s2.heap ∧ (∀ b ∈ fp, FpOk X pins H' b) ∧ R J H'
structure PIR (X : Cx) (tg iter : Expr) (wi : TI) : Prop where
  run : ∀ (pins : List (Addr × Obj)) (s : Shared) (σ : L2.St) (H : Hp) (R : It → Hp → Prop), Inv X pins σ H s → wi σ H R →
    wpAny (model X.prog X.w) X.A (eval iter X.env) (fun v s1 => wpAny (model X.prog X.w) X.A (pyIter v) (PIER X pins σ tg R) X.xe s1) X.xe s
section
variable {X : Cx} {tg : Expr}
theorem range_itR {pins : List (Addr × Obj)} {σ : L2.St} {H : Hp} {s : Shared} {R : It → Hp → Prop} {E : Value → Shared → Prop} {lo hi : Int} {t u v : Tok} {tk : Nat} (I : Inv X pins σ H s) (h1 : -(2 ^ 62) ≤ lo) (h2 : lo < 2 ^ 62) (h3 : -(2 ^ 62) ≤ hi) (h4 : hi < 2 ^ 62)
    (q : R (Itr lo (hi - lo).toNat) H) : wpAny (model X.prog X.w) X.A (pyIter (.ref s.heap.objs.size)) (PIER X pins σ tg R) E { s with heap := s.heap.push { cls := .type "range", data := .fields #[.int lo t, .int hi u, .int 1 v] }, toks := tk } := by
  refine wpAny_pyIter_range (IsRange.new ..) (small_one h1 h2 h3 h4) ?_
  have I1 : Inv X pins σ H { s with heap := s.heap.push { cls := .type "range", data := .fields #[.int lo t, .int hi u, .int 1 v] }, toks := tk } := I.kept fun b o e => Heap.get?_push_of_some _ e
  refine ⟨(s.heap.push { cls := .type "range", data := .fields #[.int lo t, .int hi u, .int 1 v] }).objs.size, [(s.heap.push { cls := .type "range", data := .fields #[.int lo t, .int hi u, .int 1 v] }).objs.size], _, _, H, rfl,
    I1.kept (t' := tk) fun b o e => Heap.get?_push_of_some _ e, turn_rangeR _ lo (hi - lo).toNat, ?_, fun b hb => ?_, q⟩
  · have e1 : lo + ((0 : Nat) : Int) * 1 = lo := by simp
    have e2 : (((hi - lo).toNat : Nat) : Int) - ((0 : Nat) : Int) = Builtin.Range.rangeSize lo hi 1 := by rw [rangeSize_one]; split <;> omega
    show IsRangeIter _ _ (lo + ((0 : Nat) : Int) * 1) ((((hi - lo).toNat : Nat) : Int) - ((0 : Nat) : Int)) 1
    rw [e1, e2]
    exact Heap.get?_push_size _ rfl
  · have e : b = (s.heap.push { cls := .type "range", data := .fields #[.int lo t, .int hi u, .int 1 v] }).objs.size := by simpa using hb
    subst e
    exact I1.fpOk (Nat.le_refl _) (I1.hok.fresh (Nat.le_refl _))
theorem pi_range1R {a : Expr} {ta : TA} {p pos : Pos} (hg : Gl X "range") (hm : X.mg "range" = none) (ha : PA X [a] ta) (hs : starEach [a] X.env = [(false, eval a X.env)] := by rfl) : PIR X tg (.Call (.Name "range" p) [a] [] pos) (iRng1 ta) := by
  refine ⟨fun pins s σ H R I h => ?_⟩
  refine Call_ (ld_blt I hg hm boot_range (PyProof.Rows.callWith_type1 (thn (ha.run pos pins s σ H _ I h) fun us s1 ⟨vs, H1, I1, r1, q1⟩ => ?_) hs rfl))
  obtain ⟨j, e, q1, q2, q⟩ := q1
  subst e
  cases r1 with
  | cons r rr =>
    cases rr
    obtain ⟨t, rfl⟩ := r
    exact call_range_1 (range_itR I1 (by omega) (by omega) q1 q2 (by simpa using q))
theorem lc_coreR {pins : List (Addr × Obj)} {s : Shared} {σ : L2.St} {H : Hp} {Q : VK} {elt iter : Expr} {ifs : List Expr} {scope : Scope} {own : List (Str × Nat)} {pos pos' : Pos} {wi : TI} {g : TG} {tt : TT} {te : TE} {use : Option (Value → Sem Unit)} {Qf : Value → Shared → Prop}
    (hc : HotC X) (hN : X.N.Nodup) (I : Inv X pins σ H s) (hi : PIR X tg iter wi) (ok : BlkOk X.N X.env.scope scope own)
    (hg : ∀ (s : Shared) (H : Hp) (C : Addr) (cl : List (Str × Addr)) (fp : List Addr), PG (X.blk s H scope (compEnvC scope cl C X.env) fp) tg g) (ht : ∀ (s : Shared) (H : Hp) (C : Addr) (cl : List (Str × Addr)) (fp : List Addr), PTs (X.blk s H scope (compEnvC scope cl C X.env) fp) ifs tt)
    (he : ∀ (s : Shared) (H : Hp) (C : Addr) (cl : List (Str × Addr)) (fp : List Addr), PE (X.blk s H scope (compEnvC scope cl C X.env) fp) elt te) (hs : ∀ x, foldedSetIterable iter X.env x = pure x)
    (h : tLc wi g tt te (own.map (·.2)) σ H Q)
    (hRR : ∀ D C s' m H', Inv X pins σ H' s' → Q (.ref D) H' → s'.heap.Ns C m → FpOk X pins H' C → compPost (model X.prog X.w) X.A X.xe use Qf (.ref D) C (.ok .next) s') :
    wpAny (model X.prog X.w) X.A (comprehension (.ListComp elt [⟨tg, iter, ifs, 0⟩] scope pos) scope X.env pos' (newList []) false (eval iter X.env) use) Qf X.xe s := by
  have hfree : ∀ y ∈ scope.names, y.2 = .free → ∃ c, X.env.cells.lookup y.1 = some c := fun y hy e => by
    rcases ok.free y hy e with k | k
    · exact I.ok.has _ (.inl k)
    · exact I.ok.has _ (.inr k)
  refine wpAny_comprehension_free (use := use) rfl hs (closure_ok hfree) ok.kind (fun y hy e => by rw [ok.uniq y hy, e])
    (thn (hi.run pins s σ H _ I h) fun xv s1 hx => thn hx fun itv s2 h2 => ?_)
  obtain ⟨it, fp, tn, J, H2, e, I2, T, st2, f2, q⟩ := h2
  subst e
  refine wpAny_newObj_type (newEnv_comp ?_) (by show 0 ≤ sizeLine; decide)
  generalize hD : s2.heap.objs.size = D
  have hDn : H2 D = none := I2.hok.fresh (Nat.le_of_eq hD)
  obtain ⟨W, ⟨m0, w0⟩, turn⟩ := q D hDn
  generalize hs3 : ({ s2 with heap := s2.heap.push { cls := .type "list", data := .seq ([] : List Value).toArray } } : Shared) = s3
  have I3 : Inv X pins σ (upd H2 D (.lst [])) s3 := by
    rw [← hs3]
    refine I2.laid (t' := s2.toks) (fun b o e => Heap.get?_push_of_some _ e) (Nat.le_of_eq hD) ⟨Nat.zero_le _, [], 0, .nil, ?_⟩
    rw [← hD]
    exact Heap.get?_push_size _ rfl
  have h3 : s3.heap = s2.heap.push { cls := .type "list", data := .seq ([] : List Value).toArray } := by rw [← hs3]
  have sz : ∀ b ∈ fp, b < s2.heap.objs.size := fun b hb => by
    obtain ⟨o, e, _⟩ := T.obj _ _ st2 b hb
    exact Heap.lt_size e
  have f3 : ∀ b ∈ fp, FpOk X pins (upd H2 D (.lst [])) b ∧ b < s3.heap.objs.size := fun b hb => by
    have hlt := sz b hb
    refine ⟨⟨?_, (f2 b hb).2⟩, by rw [h3, Heap.size_push]; exact Nat.lt_succ_of_lt hlt⟩
    rw [upd_ne (by rw [← hD]; exact Nat.ne_of_lt hlt)]
    exact (f2 b hb).1
  have st3 : tn 0 s3.heap := T.keep _ _ _ st2 fun b _ o e => by rw [h3]; exact Heap.get?_push_of_some _ e
  have I4 := block_start I3 ok hN f3
  have pg := hg s3 (upd H2 D (.lst [])) s3.heap.objs.size (cellsFrom (s3.heap.objs.size + 1) scope.names (cloFrom X.env.cells scope.names [])) fp
  have pt := ht s3 (upd H2 D (.lst [])) s3.heap.objs.size (cellsFrom (s3.heap.objs.size + 1) scope.names (cloFrom X.env.cells scope.names [])) fp
  have pe := he s3 (upd H2 D (.lst [])) s3.heap.objs.size (cellsFrom (s3.heap.objs.size + 1) scope.names (cloFrom X.env.cells scope.names [])) fp
  show codeAny _ _ (.compStart (.ListComp elt [⟨tg, iter, ifs, 0⟩] scope pos) 0 (.ref it) (.ref D) (compEnvC scope (cellsFrom (s3.heap.objs.size + 1) scope.names (cloFrom X.env.cells scope.names [])) s3.heap.objs.size X.env)) (compPost (model X.prog X.w) X.A X.xe use Qf (.ref D) s3.heap.objs.size) { s3 with heap := pushCells (s3.heap.push { cls := .type "dict", data := .dict #[] }) scope.names }
  have nfp : ∀ b ∈ fp, (upd H2 D (.lst [])) b = none := fun b hb => (f3 b hb).1.1
  generalize hce : compEnvC scope (cellsFrom (s3.heap.objs.size + 1) scope.names (cloFrom X.env.cells scope.names [])) s3.heap.objs.size X.env = ce at I4 pg pt pe ⊢
  have cL : ce.locals = s3.heap.objs.size := by subst hce; rfl
  generalize hH3 : upd H2 D (.lst []) = H3 at I3 I4 pg pt pe w0 nfp f3
  generalize hs4 : ({ s3 with heap := pushCells (s3.heap.push { cls := .type "dict", data := .dict #[] }) scope.names } : Shared) = s4 at I4 ⊢
  have st4 : tn 0 s4.heap := T.keep _ _ _ st3 fun b _ o e => by rw [← hs4]; exact pushCells_keeps _ _ _ _ (Heap.get?_push_of_some _ e)
  have hotB : ∀ {σ' : L2.St} {H' : Hp} {s' : Shared}, Inv (X.blk s3 H3 scope ce fp) [] σ' H' s' → ∃ x1, HotAt X.A x1 s'.heap := fun {σ' H' s'} I' => by
    obtain ⟨p, ⟨hh, v1, e1, c1⟩, hp⟩ := hc
    obtain ⟨g1, g2, g3, g4, g5⟩ := I3.pin p (List.mem_append_left _ hp)
    have nf : p.1 ∉ fp := fun z => (f3 p.1 z).1.2.2.2.2.2 p (List.mem_append_left _ hp) rfl
    obtain ⟨sl, ge⟩ := I'.base.any g1 g2 nf
    exact ⟨p.1, hh, _, v1, ge, e1, c1⟩
  have stat : ∀ {σ' : L2.St} {H' : Hp} {s' : Shared}, Inv (X.blk s3 H3 scope ce fp) [] σ' H' s' → (∀ b ∈ fp, H' b = none) → ∀ b ∈ fp, FpOk (X.blk s3 H3 scope ce fp) [] H' b := fun {σ' H' s'} I' hn b hb =>
    ⟨hn b hb, (I'.ok.exf b hb).1, I'.ok.exfs b hb, .inl hb, fun x c e => (I'.ok.exf b hb).2 x c e, fun p hp => absurd (show p ∈ ([] : List (Addr × Obj)) ++ [] from hp) (by simp)⟩
  have loop : codeAny (model X.prog X.w) X.A (.compLoop (.ListComp elt [⟨tg, iter, ifs, 0⟩] scope pos) 0 (.ref it) (.ref D) ce) (compPost (model X.prog X.w) X.A X.xe use Qf (.ref D) s3.heap.objs.size) s4 := by
    refine compLoop_any (fun n s' => ∃ i H', Inv (X.blk s3 H3 scope ce fp) [] (wipe σ (own.map (·.2))) H' s' ∧ tn i s'.heap ∧ (∀ b ∈ fp, H' b = none) ∧ W i n H') ?_ m0 ⟨0, H3, I4, st4, nfp, w0⟩
    rintro n s5 ⟨i, H5, I5, st5, n5, w5⟩
    rcases turn i n H5 w5 with ⟨stop, qq⟩ | ⟨go, Nx, hNx, step⟩
    · have td := T.done (X.blk s3 H3 scope ce fp) rfl rfl rfl i [] s5 _ H5 (fun _ _ => False) (hotB I5) I5 (stat I5 n5) st5 stop
      refine thnF td fun r s6 ⟨hr, I6⟩ => ?_
      subst hr
      have I7 : Inv X pins σ H5 s6 := I3.call' (ch := fp) I6.os I6.base I6.hok I6.bare fun b hb => ⟨(f3 b hb).1.2.2.2.1, (f3 b hb).1.2.1, (f3 b hb).1.2.2.2.2.1, (f3 b hb).1.2.2.2.2.2⟩
      have nC : H5 s3.heap.objs.size = none := by
        have z : H5 ce.locals = none := I6.free
        rw [cL] at z
        exact z
      obtain ⟨m, hn, _⟩ := I6.loc
      have hn : s6.heap.Ns ce.locals m := hn
      rw [cL] at hn
      exact hRR D s3.heap.objs.size s6 m H5 I7 qq hn (I3.fpOk (Nat.le_refl _) nC)
    · have ti := T.item (X.blk s3 H3 scope ce fp) rfl rfl rfl i [] s5 _ H5 (fun _ _ => False) I5 (stat I5 n5) st5 go
      refine thnF ti fun r s6 ⟨u, hr, h6⟩ => ?_
      subst hr
      refine thnF h6 fun _ s7 ⟨x, H7, I7, r7, y7, st7, n7⟩ => ?_
      have I7' := I7.pinned (stat I7 n7) (T.obj _ _ st7)
      refine thnF (pg.run _ s7 _ H7 x u _ I7' r7 (step x H7 y7)) fun _ s8 ⟨σ8, H8, I8, hw8, q8⟩ => ?_
      refine thnF (pt.run _ s8 σ8 H8 _ I8 q8) fun b s9 ⟨H9, I9, q9⟩ => ?_
      have fin : ∀ {s' : Shared} {H' : Hp}, Inv (X.blk s3 H3 scope ce fp) ([] ++ pinsAt fp s7.heap) σ8 H' s' → Nx H' → ∃ m, m < n ∧ ∃ i H', Inv (X.blk s3 H3 scope ce fp) [] (wipe σ (own.map (·.2))) H' s' ∧ tn i s'.heap ∧ (∀ b ∈ fp, H' b = none) ∧ W i m H' := fun {s' H'} I' nx => by
        obtain ⟨m', hm, w'⟩ := hNx H' nx
        have pin' : ∀ b ∈ fp, ∀ o, s7.heap.get? b = some o → s'.heap.get? b = some o ∧ H' b = none := fun b hb o e =>
          let z := I'.pin (b, o) (List.mem_append_right _ (List.mem_append_right _ (mem_pinsAt hb e)))
          ⟨z.1, z.2.1⟩
        have hl : (wipe σ (own.map (·.2))).length = σ8.length := by rw [← hw8, wipe_length]
        refine ⟨m', hm, i + 1, H', (I'.unpinned (pins := [])).weak hl (fun j v e => ?_), T.keep _ _ _ st7 fun b hb o e => (pin' b hb o e).1, fun b hb => ?_, w'⟩
        · rw [← hw8] at e
          exact (wipe_some e).1
        · obtain ⟨o, e, _⟩ := T.obj _ _ st7 b hb
          exact (pin' b hb o e).2
      cases b with
      | false =>
        simp only [Bool.false_eq_true, if_false] at q9 ⊢
        exact fin I9 q9
      | true =>
        simp only [if_true] at q9 ⊢
        refine thnF (pe.run _ s9 σ8 H9 _ I9 q9) fun z s10 ⟨yv, H10, I10, r10, acc, hD10, hz10, nx⟩ => ?_
        exact app_ok (X := X.blk s3 H3 scope ce fp) I10 hD10 hz10 r10 fun s11 I11 => fin I11 nx
  exact codeAny_compStart_list loop (T.self X.A 0 _ _ _ st4 loop)
theorem pe_lcR {elt iter : Expr} {ifs : List Expr} {scope : Scope} {own : List (Str × Nat)} {pos : Pos} {wi : TI} {g : TG} {tt : TT} {te : TE} (hc : HotC X) (hN : X.N.Nodup) (hi : PIR X tg iter wi) (ok : BlkOk X.N X.env.scope scope own)
    (hg : ∀ (s : Shared) (H : Hp) (C : Addr) (cl : List (Str × Addr)) (fp : List Addr), PG (X.blk s H scope (compEnvC scope cl C X.env) fp) tg g) (ht : ∀ (s : Shared) (H : Hp) (C : Addr) (cl : List (Str × Addr)) (fp : List Addr), PTs (X.blk s H scope (compEnvC scope cl C X.env) fp) ifs tt)
    (he : ∀ (s : Shared) (H : Hp) (C : Addr) (cl : List (Str × Addr)) (fp : List Addr), PE (X.blk s H scope (compEnvC scope cl C X.env) fp) elt te) (hs : ∀ x, foldedSetIterable iter X.env x = pure x := by intro _; rfl) :
    PE X (.ListComp elt [⟨tg, iter, ifs, 0⟩] scope pos) (tLc wi g tt te (own.map (·.2))) := by
  refine ⟨fun pins s σ H Q I h => ?_⟩
  rw [eval_ListComp]
  refine lc_coreR hc hN I hi ok hg ht he hs h fun D C s' m H' I' q hn f => ⟨m, hn, fun h'' sb => ?_⟩
  obtain ⟨f0, f1, f2, f3, f4, f5⟩ := f
  exact ⟨.ref D, H', I'.turned (t' := s'.toks) (fun b o hb e => (sb.2 b hb).trans e) f0 f1 f3 f4 f5, rfl, q⟩
end
section
variable {X : Cx} {W : WX} {elt tg iter : Expr} {ifs : List Expr} {scope : Scope} {own : List (Str × Nat)} {pos : Pos} {bt : Bt} {ft : Env → Res Bool} {fe : Env → Res D} {fi : Env → Res (List D)} {ts : List Nat}
theorem pd_lcR (hc : HotC X) (hN : X.N.Nodup) (hi : PIR X tg iter (tI X.K W fi)) (ok : BlkOk X.N X.env.scope scope own) (hts : ∀ i ∈ ts, i ∈ own.map (·.2))
    (hg : ∀ (s : Shared) (H : Hp) (C : Addr) (cl : List (Str × Addr)) (fp : List Addr), PG (X.blk s H scope (compEnvC scope cl C X.env) fp) tg (tG X.K ts bt)) (ht : ∀ (s : Shared) (H : Hp) (C : Addr) (cl : List (Str × Addr)) (fp : List Addr), PTs (X.blk s H scope (compEnvC scope cl C X.env) fp) ifs (tDB X.K W0 ft))
    (he : ∀ (s : Shared) (H : Hp) (C : Addr) (cl : List (Str × Addr)) (fp : List Addr), PE (X.blk s H scope (compEnvC scope cl C X.env) fp) elt (tD X.K W0 fe)) (hs : ∀ x, foldedSetIterable iter X.env x = pure x := by intro _; rfl) :
    PE X (.ListComp elt [⟨tg, iter, ifs, 0⟩] scope pos) (tD X.K W (eLC (own.map (·.2)) bt ft fe fi)) := PE.imp (pe_lcR hc hN hi ok hg ht he hs) fun _ _ _ h => t_lc hts h
end
section
variable {X : Cx} {W : WX} {tg e : Expr} {p pos : Pos} {fl : Env → Res (List D)}
theorem id_range1R (hg : Gl X "range") (hm : X.mg "range" = none) (ha : PA X [e] (tDs X.K W fl)) (hs : starEach [e] X.env = [(false, eval e X.env)] := by rfl) : PIR X tg (.Call (.Name "range" p) [e] [] pos) (tI X.K W (iR1 fl)) := by
  have base := pi_range1R (tg := tg) (p := p) (pos := pos) hg hm ha hs
  refine ⟨fun pins s σ H R I h => base.run pins s σ H R I ?_⟩
  obtain ⟨H0, env, er, k⟩ := h
  refine ⟨H0, env, er, Kt.seq er k fun x a A B gr er' rx k' => ?_⟩
  match a, k', rx with
  | [.int n], k', r =>
    obtain ⟨v, rfl, rv⟩ := reps1 r
    cases rv
    have k : Kt (fun A (J : It) ds => Yl X.K A J ds) W σ A B (if n ≤ 1000000 ∧ -1000000 ≤ n then .ok (rangeD 0 n) else .no) R := k'
    by_cases c : n ≤ 1000000 ∧ -1000000 ≤ n
    · rw [if_pos c] at k
      refine ⟨n, rfl, by omega, by omega, ?_⟩
      have z := yl_range (K := X.K) (A := A) (lo := 0) (n := n)
      rw [Int.sub_zero] at z
      exact k _ A B (Grow.refl er'.sub) z
    · rw [if_neg c] at k
      exact k.elim
end
theorem hotC_suite {X : Cx} {a C : Addr} {oe : Obj} {pn : List (Addr × Obj)} (hz : L2N.Zn (.ref C) none oe) (hf : ∃ vs, oe.data = .fields vs) : HotC (X.suite a ((a, oe) :: pn)) := by
  obtain ⟨vs, hv⟩ := hf
  exact ⟨(a, oe), ⟨rfl, vs, hv, hz.2.2 vs hv⟩, List.mem_cons_self⟩
end Dt
/-! texts -/
namespace Dt
open PySem PySem.Spec PyProof.Rows L2 He
/-! ## max of a tuple of ints -/
theorem dpAll_ints {K : PySem.W.Frag} {H : Hp} : ∀ ns : List Int, DpAll K H (ns.map V.int) (ns.map PyData.int)
  | [] => .nil
  | n :: ns => .cons (.int n) (dpAll_ints ns)
theorem alike_ints (ns : List Int) : PySem.W.AlikeAll (ns.map PyData.int) := by
  refine ⟨fun x hx y hy => ?_, fun x hx => ?_⟩
  · obtain ⟨a, _, rfl⟩ := List.mem_map.mp hx
    obtain ⟨b, _, rfl⟩ := List.mem_map.mp hy
    rfl
  · obtain ⟨a, _, rfl⟩ := List.mem_map.mp hx
    exact fun z => by cases z
theorem depthI : ∀ ns : List Int, PyData.depthAll (ns.map PyData.int) ≤ 0
  | [] => Nat.le_refl _
  | n :: ns => by
    show max (PyData.depth (.int n)) (PyData.depthAll (ns.map PyData.int)) ≤ 0
    have := depthI ns
    have h : PyData.depth (.int n) = 0 := rfl
    omega
theorem cr_maxT {X : Cx} (hc : X.calm = true) (hu : X.A.units + 64 < cLine) : CallR X (.builtin "max") (fun vs H Q => ∃ (a : Addr) (n : Int) (ns : List Int), vs = [.ref a] ∧ SqT X.K H a ((n :: ns).map V.int) ∧ Q (.int (maxL (n :: ns))) H) := by
  intro pins s σ H vs us Q I r h
  obtain ⟨a, n, ns, rfl, hs, q⟩ := h
  obtain ⟨its, rv, hl, _⟩ := I.tuple hs
  rw [Vals.ref1 r]
  obtain ⟨as, hr⟩ := Dp.readsAll I _ _ its (dpAll_ints (n :: ns)) rv
  have hd := depthI (n :: ns)
  refine PySem.W.max_tuple_data (I.ok.hd hc) hl (x := .int n) (xs := ns.map PyData.int) (by simpa using hr) (alike_ints (n :: ns)) (by
    have : PyData.depthAll (PyData.int n :: ns.map PyData.int) ≤ 0 := hd
    omega) fun i v h' tk bs hv rd hk => ?_
  rw [PySem.W.maxD_ints] at rd
  obtain ⟨x, hx, rx⟩ := vals_get' rv (i := i) (u := v) (by simpa using hv)
  rw [List.getElem?_map] at hx
  cases e : (n :: ns)[i]? with
  | none => rw [e] at hx; cases hx
  | some m =>
    rw [e] at hx
    cases hx
    obtain ⟨cs, r1⟩ := Dp.reads I _ (.int m) v (.int m) rx
    have r2 := PySem.W.reads_keeps hk r1
    have e2 := PySem.SeqAt.Reads.unique _ _ _ _ _ (by rfl) r2 rd
    cases e2
    exact ⟨.int _, H, I.kept hk, rx, q⟩
def maxTD : List D → Option D
  | [.tup xs] => match toInts xs with
    | some (n :: ns) => some (.int (maxL (n :: ns)))
    | _ => none
  | _ => none
theorem good_maxT {K : PySem.W.Frag} : GoodN K (fun vs H Q => ∃ (a : Addr) (n : Int) (ns : List Int), vs = [.ref a] ∧ SqT K H a ((n :: ns).map V.int) ∧ Q (.int (maxL (n :: ns))) H) maxTD := by
  intro H0 H xs as d Q s r e q
  match as, e with
  | [.tup ys], e =>
    obtain ⟨v, rfl, rv⟩ := reps1 r
    cases rv with
    | tup h rr =>
    cases e1 : toInts ys with
    | none => simp only [maxTD, e1] at e; cases e
    | some bs =>
      cases bs with
      | nil => simp only [maxTD, e1] at e; cases e
      | cons n ns =>
        simp only [maxTD, e1] at e
        cases e
        rw [toInts_eq e1] at rr
        rw [rr.ints] at h
        exact ⟨_, n, ns, rfl, Same.seqT s h, q _ _ _ (Grow.refl s) (.int _)⟩
section
variable {X : Cx} {W : WX} {e : Expr} {es : List Expr} {pos p : Pos} {fl : Env → Res (List D)}
theorem pd_maxT (hu : X.A.units + 64 < cLine) (hc : X.calm = true) (hg : Gl X "max") (hm : X.mg "max" = none) (ha : PA X (e :: es) (tDs X.K W fl)) (he : starEach (e :: es) X.env = (false, eval e X.env) :: starEach es X.env := by rfl) (hpl : (backTo pos (starEach es X.env)).any (·.1) = false := by rfl) :
    PE X (.Call (.Name "max" p) (e :: es) [] pos) (tD X.K W (eFn maxTD fl)) := pd_fnB (cr_maxT hc hu) good_maxT (by decide +kernel) hg hm ha (by decide) (by decide) he hpl
end
/-! ## str(int), int(text) -/
@[irreducible] def strLim : Nat := 10 ^ 400
theorem strLim_log {i : Int} (h : i.natAbs < strLim) : i.natAbs.log2 < 1920 := by
  unfold strLim at h
  by_cases z : i.natAbs = 0
  · rw [z]
    decide
  · have h2 : i.natAbs < 2 ^ 1920 := Nat.lt_trans h (by decide +kernel)
    exact (Nat.log2_lt z).mpr h2
def strD : List D → Option D
  | [.int i] => if i.natAbs < strLim then some (.str (Str.ofString (toString i))) else none
  | _ => none
theorem good_str {K : PySem.W.Frag} : GoodN K (fun xs H Q => ∃ i, xs = [.int i] ∧ i.natAbs.log2 < 1920 ∧ Q (.str (toString i)) H) strD := by
  intro H0 H xs as d Q s r e q
  match as, e with
  | [.int i], e =>
    obtain ⟨v, rfl, rv⟩ := reps1 r
    cases rv
    have e : (if i.natAbs < strLim then some (D.str (Str.ofString (toString i))) else none) = some d := e
    by_cases c : i.natAbs < strLim
    · rw [if_pos c] at e
      cases e
      exact ⟨i, rfl, strLim_log c, q _ _ _ (Grow.refl s) (.str _)⟩
    · rw [if_neg c] at e
      cases e
def intSD : List D → Option D
  | [.str a] => if a.length ≤ 640 then (intText? a).map .int else none
  | _ => none
theorem good_intS {K : PySem.W.Frag} : GoodN K (fun xs H Q => ∃ a n, xs = [.str a] ∧ PySem.intText? a = some n ∧ a.length ≤ 640 ∧ Q (.int n) H) intSD := by
  intro H0 H xs as d Q s r e q
  match as, e with
  | [.str a], e =>
    obtain ⟨v, rfl, rv⟩ := reps1 r
    cases rv
    have e : (if a.length ≤ 640 then (intText? a).map D.int else none) = some d := e
    by_cases c : a.length ≤ 640
    · rw [if_pos c] at e
      cases e1 : intText? a with
      | none => rw [e1] at e; cases e
      | some n =>
        rw [e1] at e
        cases e
        exact ⟨a, n, rfl, e1, c, q _ _ _ (Grow.refl s) (.int _)⟩
    · rw [if_neg c] at e
      cases e
section
variable {X : Cx} {W : WX} {e : Expr} {es : List Expr} {pos p : Pos} {fl : Env → Res (List D)}
theorem pd_strI (hg : Gl X "str") (hm : X.mg "str" = none) (ha : PA X (e :: es) (tDs X.K W fl)) (he : starEach (e :: es) X.env = (false, eval e X.env) :: starEach es X.env := by rfl) (hpl : (backTo pos (starEach es X.env)).any (·.1) = false := by rfl) :
    PE X (.Call (.Name "str" p) (e :: es) [] pos) (tD X.K W (eFn strD fl)) := pd_fnT call_str_int good_str (by decide +kernel) hg hm ha (by decide) (by decide) he hpl
theorem pd_intS (hg : Gl X "int") (hm : X.mg "int" = none) (ha : PA X (e :: es) (tDs X.K W fl)) (he : starEach (e :: es) X.env = (false, eval e X.env) :: starEach es X.env := by rfl) (hpl : (backTo pos (starEach es X.env)).any (·.1) = false := by rfl) :
    PE X (.Call (.Name "int" p) (e :: es) [] pos) (tD X.K W (eFn intSD fl)) := pd_fnT call_int_str good_intS (by decide +kernel) hg hm ha (by decide) (by decide) he hpl
end
/-! ## methods of texts -/
def eM1 (g : D → D → Option D) (fo fa : Env → Res D) : Env → Res D := fun env => (fo env).bind fun o => if isStr o = true then (fa env).bind fun a => ofO (g o a) else .no
theorem t_m1 {K : PySem.W.Frag} {W : WX} {σ : L2.St} {H : Hp} {fo fa : Env → Res D} {r : V → List V → Hp → VK → Prop} {g : D → D → Option D} {Q : VK} (hg : Good2 K (fun x y H Q => r x [y] H Q) g) (h : tD K W (eM1 g fo fa) σ H Q) : tM1 r (tD K W fo) (tD K W fa) σ H Q := by
  obtain ⟨H0, env, er, k⟩ := h
  refine ⟨H0, env, er, Kt.seq er k fun x a A B gr er' rx k' => ?_⟩
  cases a with
  | str z =>
    have k' : Kt (rD K) W σ A B ((fa env).bind fun a => ofO (g (.str z) a)) Q := k'
    cases rx
    refine ⟨⟨z, rfl⟩, A, env, er', Kt.seq er' k' fun y b A' B' gr' er'' ry k'' => ?_⟩
    obtain ⟨d, e, q⟩ := kt_ofO er''.sub k''
    exact hg A' B' _ y _ b d Q er''.sub (.str z) ry e q
  | _ => exact k'.elim
theorem reps_strs {K : PySem.W.Frag} {A : Hp} (ys : List Str) : Reps K A (ys.map V.str) (ys.map D.str) := Reps.of_strs
section
variable {X : Cx} {W : WX} {o e : Expr} {apos pos : Pos} {fo fa : Env → Res D}
theorem pd_m1 {id : String} {name : Str} {r : V → List V → Hp → VK → Prop} {g : D → D → Option D} (slot : Slot "str" name id) (ty : typeOf (.builtin id) = pure (.type "method_descriptor")) (rule : MtR X id r) (hg : Good2 X.K (fun x y H Q => r x [y] H Q) g) (ho : PE X o (tD X.K W fo)) (he : PE X e (tD X.K W fa))
    (hs : starEach [e] X.env = [(false, eval e X.env)] := by rfl) (hbase : attributeBase o name X.env (eval o X.env) = eval o X.env := by rfl) (hline : (apos.endLine == pos.line) = true := by rfl) :
    PE X (.Call (.Attribute o name apos) [e] [] pos) (tD X.K W (eM1 g fo fa)) := PE.imp (pe_m1 slot ty rule ho he hs hbase hline) fun _ _ _ h => t_m1 hg h
end
def splitD : D → D → Option D
  | .str a, .str b => if (b.length == 0) = false ∧ a.length ≤ 900000 then some (.lst ((Txt.split a b).map D.str)) else none
  | _, _ => none
theorem good_split {K : PySem.W.Frag} : Good2 K (fun x y H Q => ∃ a b, x = .str a ∧ [y] = [.str b] ∧ (b.length == 0) = false ∧ a.length + 2 ≤ sizeLine ∧ rNewStrs (Txt.split a b) H Q) splitD := by
  intro H0 H x y a b d Q s rx ry e q
  cases a with
  | str i =>
    cases b with
    | str j =>
      cases rx
      cases ry
      have e : (if (j.length == 0) = false ∧ i.length ≤ 900000 then some (D.lst ((Txt.split i j).map D.str)) else none) = some d := e
      by_cases c : (j.length == 0) = false ∧ i.length ≤ 900000
      · rw [if_pos c] at e
        cases e
        exact ⟨i, j, rfl, rfl, c.1, sz_le (by have := c.2; omega), fun p hp => q _ _ _ (Grow.new s hp) (.lst (SqL.of upd_same) (reps_strs _))⟩
      · rw [if_neg c] at e
        cases e
    | _ => cases e
  | _ => cases b <;> cases e
def partD : D → D → Option D
  | .str a, .str b => if (b.length == 0) = false ∧ a.length ≤ 900000 then some (.tup [.str (Txt.partition a b).1, .str (Txt.partition a b).2.1, .str (Txt.partition a b).2.2]) else none
  | _, _ => none
theorem good_part {K : PySem.W.Frag} : Good2 K (fun x y H Q => ∃ a b, x = .str a ∧ [y] = [.str b] ∧ (b.length == 0) = false ∧ a.length ≤ sizeLine ∧ ∀ p, H p = none → Q (.ref p) (upd H p (.tup [.str (Txt.partition a b).1, .str (Txt.partition a b).2.1, .str (Txt.partition a b).2.2]))) partD := by
  intro H0 H x y a b d Q s rx ry e q
  cases a with
  | str i =>
    cases b with
    | str j =>
      cases rx
      cases ry
      have e : (if (j.length == 0) = false ∧ i.length ≤ 900000 then some (D.tup [.str (Txt.partition i j).1, .str (Txt.partition i j).2.1, .str (Txt.partition i j).2.2]) else none) = some d := e
      by_cases c : (j.length == 0) = false ∧ i.length ≤ 900000
      · rw [if_pos c] at e
        cases e
        exact ⟨i, j, rfl, rfl, c.1, sz_le (by have := c.2; omega), fun p hp => q _ _ _ (Grow.new s hp) (.tup (SqT.of upd_same) (.cons (.str _) (.cons (.str _) (.cons (.str _) .nil))))⟩
      · rw [if_neg c] at e
        cases e
    | _ => cases e
  | _ => cases b <;> cases e
def stripD : D → D → Option D
  | .str a, .str b => if a.length ≤ 900000 then some (.str (Txt.stripChars a b)) else none
  | _, _ => none
theorem good_strip {K : PySem.W.Frag} : Good2 K (fun x y H Q => ∃ a b, x = .str a ∧ [y] = [.str b] ∧ a.length ≤ sizeLine ∧ Q (.str (Txt.stripChars a b)) H) stripD := by
  intro H0 H x y a b d Q s rx ry e q
  cases a with
  | str i =>
    cases b with
    | str j =>
      cases rx
      cases ry
      have e : (if i.length ≤ 900000 then some (D.str (Txt.stripChars i j)) else none) = some d := e
      by_cases c : i.length ≤ 900000
      · rw [if_pos c] at e
        cases e
        exact ⟨i, j, rfl, rfl, sz_le (by omega), q _ _ _ (Grow.refl s) (.str _)⟩
      · rw [if_neg c] at e
        cases e
    | _ => cases e
  | _ => cases b <;> cases e
def toStrs : List D → Option (List Str)
  | [] => some []
  | .str i :: r => (toStrs r).map (i :: ·)
  | _ :: _ => none
theorem toStrs_eq : ∀ {ds : List D} {ns : List Str}, toStrs ds = some ns → ds = ns.map D.str
  | [], ns, e => by cases e; rfl
  | d :: r, ns, e => by
    cases d with
    | str i =>
      have e : (toStrs r).map (i :: ·) = some ns := e
      cases e1 : toStrs r with
      | none => rw [e1] at e; cases e
      | some ms =>
        rw [e1] at e
        cases e
        rw [toStrs_eq e1]
        rfl
    | _ => cases e
theorem toStrs_map : ∀ ns : List Str, toStrs (ns.map D.str) = some ns
  | [] => rfl
  | n :: ns => by
    show (toStrs (ns.map D.str)).map (n :: ·) = _
    rw [toStrs_map ns]
    rfl
def joinD : D → D → Option D
  | .str a, .lst xs => match toStrs xs with
    | some ys => if (ys.map (·.length)).sum + ys.length * a.length ≤ 1000000 then some (.str (Txt.join a ys)) else none
    | none => none
  | _, _ => none
theorem good_join {K : PySem.W.Frag} : Good2 K (fun x y H Q => ∃ a p, ∃ ys : List Str, x = .str a ∧ [y] = [.ref p] ∧ (SqL K H p (ys.map V.str) ∨ SqT K H p (ys.map V.str)) ∧ (ys.map (·.length)).sum + ys.length * a.length ≤ 16777216 ∧ Q (.str (Txt.join a ys)) H) joinD := by
  intro H0 H x y a b d Q s rx ry e q
  cases a with
  | str i =>
    cases b with
    | lst xs =>
      cases rx
      cases ry with
      | lst h r =>
      have ee : (match toStrs xs with
        | some ys => if (ys.map (·.length)).sum + ys.length * i.length ≤ 1000000 then some (D.str (Txt.join i ys)) else none
        | none => none) = some d := e
      cases e1 : toStrs xs with
      | none => rw [e1] at ee; cases ee
      | some ys =>
        rw [e1] at ee
        have ee : (if (ys.map (·.length)).sum + ys.length * i.length ≤ 1000000 then some (D.str (Txt.join i ys)) else none) = some d := ee
        by_cases c : (ys.map (·.length)).sum + ys.length * i.length ≤ 1000000
        · rw [if_pos c] at ee
          cases ee
          rw [toStrs_eq e1] at r
          rw [r.strs] at h
          exact ⟨i, _, ys, rfl, rfl, .inl (Same.seq s h), by omega, q _ _ _ (Grow.refl s) (.str _)⟩
        · rw [if_neg c] at ee
          cases ee
    | _ => cases e
  | _ => cases b <;> cases e
section
variable {X : Cx} {W : WX} {o e a b : Expr} {apos pos : Pos} {fo fa fb : Env → Res D}
theorem pd_split (ho : PE X o (tD X.K W fo)) (he : PE X e (tD X.K W fa)) (hs : starEach [e] X.env = [(false, eval e X.env)] := by rfl) (hbase : attributeBase o "split" X.env (eval o X.env) = eval o X.env := by rfl) (hline : (apos.endLine == pos.line) = true := by rfl) :
    PE X (.Call (.Attribute o "split" apos) [e] [] pos) (tD X.K W (eM1 splitD fo fa)) := pd_m1 PySem.F.slot_str_split PySem.F.type_str_split mt_split good_split ho he hs hbase hline
theorem pd_partition (ho : PE X o (tD X.K W fo)) (he : PE X e (tD X.K W fa)) (hs : starEach [e] X.env = [(false, eval e X.env)] := by rfl) (hbase : attributeBase o "partition" X.env (eval o X.env) = eval o X.env := by rfl) (hline : (apos.endLine == pos.line) = true := by rfl) :
    PE X (.Call (.Attribute o "partition" apos) [e] [] pos) (tD X.K W (eM1 partD fo fa)) := pd_m1 PySem.F.slot_str_partition PySem.F.type_str_partition mt_partition good_part ho he hs hbase hline
theorem pd_strip (ho : PE X o (tD X.K W fo)) (he : PE X e (tD X.K W fa)) (hs : starEach [e] X.env = [(false, eval e X.env)] := by rfl) (hbase : attributeBase o "strip" X.env (eval o X.env) = eval o X.env := by rfl) (hline : (apos.endLine == pos.line) = true := by rfl) :
    PE X (.Call (.Attribute o "strip" apos) [e] [] pos) (tD X.K W (eM1 stripD fo fa)) := pd_m1 PySem.F.slot_str_strip PySem.F.type_str_strip mt_stripChars good_strip ho he hs hbase hline
theorem pd_join (ho : PE X o (tD X.K W fo)) (he : PE X e (tD X.K W fa)) (hs : starEach [e] X.env = [(false, eval e X.env)] := by rfl) (hbase : attributeBase o "join" X.env (eval o X.env) = eval o X.env := by rfl) (hline : (apos.endLine == pos.line) = true := by rfl) :
    PE X (.Call (.Attribute o "join" apos) [e] [] pos) (tD X.K W (eM1 joinD fo fa)) := pd_m1 PySem.F.slot_str_join PySem.F.type_str_join mt_join good_join ho he hs hbase hline
end
/-! ## a sign in a text; a text so often -/
def inSD (a b : D) : Option D := match a, b with
  | .str x, .str z => match x.cps with
    | ⟨[c]⟩ => some (.bl (decide (c ∈ z.cps.toList)))
    | _ => none
  | _, _ => none
theorem good_inS {K : PySem.W.Frag} : Good2 K (fun x y H Q => ∃ (c : Nat) (z : Str), x = .str ⟨#[c]⟩ ∧ y = .str z ∧ Q (.bl (decide (c ∈ z.cps.toList))) H) inSD := by
  intro H0 H x y a b d Q s rx ry e q
  cases a with
  | str i =>
    cases b with
    | str j =>
      cases rx
      cases ry
      obtain ⟨⟨l⟩⟩ := i
      match l, e with
      | [c], e =>
        cases e
        exact ⟨c, j, rfl, rfl, q _ _ _ (Grow.refl s) (.bl _)⟩
    | _ => cases e
  | _ => cases b <;> cases e
def mulSD (a b : D) : Option D := match a, b with
  | .str x, .int n => if 0 ≤ n ∧ n ≤ 10000 ∧ x.length ≤ 10 then some (.str (Txt.mul x n)) else none
  | _, _ => none
theorem mulOk_small {x : Str} {n : Int} (h : 0 ≤ n ∧ n ≤ 10000 ∧ x.length ≤ 10) : MulOk x n := by
  obtain ⟨h1, h2, h3⟩ := h
  refine ⟨?_, fun a b c => ?_, fun a b => ?_⟩
  · rw [decide_eq_false (by omega), decide_eq_false (by omega)]
    rfl
  · have h5 : (2 ^ 63 - 1 : Int) / 10000 ≤ (2 ^ 63 - 1) / n := by
      rw [Int.le_ediv_iff_mul_le (by omega)]
      have e : (2 ^ 63 - 1 : Int) / 10000 = 922337203685477 := by decide
      rw [e]
      omega
    have e : (2 ^ 63 - 1 : Int) / 10000 = 922337203685477 := by decide
    omega
  · have h6 : x.length * n.toNat ≤ 10 * 10000 := Nat.mul_le_mul h3 (by omega)
    have := sz_le (n := 100000) (by decide)
    first | exact decide_eq_false (by omega) | (simp only [Builtin.tooLong]; exact decide_eq_false (by omega))
theorem op_mulS {X : Cx} : OpR X (binaryOp .Mult) (fun x y H Q => ∃ (z : Str) (n : Int), x = .str z ∧ y = .int n ∧ MulOk z n ∧ Q (.str (Txt.mul z n)) H) := by
  intro pins s σ H x y v u Q I rx ry h
  obtain ⟨z, n, rfl, rfl, ok, q⟩ := h
  obtain ⟨t, rfl⟩ := rx
  obtain ⟨t', rfl⟩ := ry
  exact PySem.SB.mul ok fun t' k => ⟨.str _, H, I.tok _, ⟨_, rfl⟩, q⟩
theorem good_mulS {K : PySem.W.Frag} : Good2 K (fun x y H Q => ∃ (z : Str) (n : Int), x = .str z ∧ y = .int n ∧ MulOk z n ∧ Q (.str (Txt.mul z n)) H) mulSD := by
  intro H0 H x y a b d Q s rx ry e q
  cases a with
  | str i =>
    cases b with
    | int j =>
      cases rx
      cases ry
      have e : (if 0 ≤ j ∧ j ≤ 10000 ∧ i.length ≤ 10 then some (D.str (Txt.mul i j)) else none) = some d := e
      by_cases c : 0 ≤ j ∧ j ≤ 10000 ∧ i.length ≤ 10
      · rw [if_pos c] at e
        cases e
        exact ⟨i, j, rfl, rfl, mulOk_small c, q _ _ _ (Grow.refl s) (.str _)⟩
      · rw [if_neg c] at e
        cases e
    | _ => cases e
  | _ => cases b <;> cases e
section
variable {X : Cx} {W : WX} {a b tg e : Expr} {pos : Pos} {fa fb : Env → Res D}
theorem pd_inS (ha : PE X a (tD X.K W fa)) (hb : PE X b (tD X.K W fb)) (hm : behindInMarks .In b = false := by rfl) : PE X (.Compare a [.In] [b] pos) (tD X.K W (eOp inSD fa fb)) := pd_cmp op_in_sign good_inS ha hb hm
theorem pd_mulS (ha : PE X a (tD X.K W fa)) (hb : PE X b (tD X.K W fb)) : PE X (.BinOp a .Mult b pos) (tD X.K W (eOp mulSD fa fb)) := pd_op op_mulS good_mulS ha hb
end
/-! ## a walk over a text -/
def signs (z : Str) : List D := z.cps.toList.map fun c => .str ⟨#[c]⟩
def toSg : D → Res (List D)
  | .str z => .ok (signs z)
  | _ => .no
def iS (fa : Env → Res D) : Env → Res (List D) := fun env => (fa env).bind toSg
theorem yl_str {K : PySem.W.Frag} {A : Hp} {z : Str} : Yl K A (Its z) (signs z) := by
  have hl : (signs z).length = z.cps.size := by
    unfold signs
    rw [List.length_map, Array.length_toList]
  refine ⟨fun i B C s1 s2 hi => by rw [hl] at hi; exact hi, fun B C s1 s2 => by rw [hl]; exact Nat.le_refl _, fun i B C x C' s1 s2 hi y => ?_⟩
  obtain ⟨rfl, c, hc, rfl⟩ := y
  refine ⟨.str ⟨#[c]⟩, B, ?_, Grow.refl s2, .str _⟩
  unfold signs
  rw [List.getElem?_map, Array.getElem?_toList, hc]
  rfl
theorem id_str {X : Cx} {W : WX} {tg e : Expr} {fa : Env → Res D} (h : PE X e (tD X.K W fa)) : PI X tg e (tI X.K W (iS fa)) := PI.imp (pi_str h) fun σ H Q h => by
  obtain ⟨H0, env, er, k⟩ := h
  refine ⟨H0, env, er, Kt.seq er k fun x a A B gr er' rx k' => ?_⟩
  cases a with
  | str z =>
    cases rx
    exact ⟨z, rfl, k' _ A B (Grow.refl er'.sub) yl_str⟩
  | _ => exact k'.elim
/-! ## {} -/
theorem pd_dic {X : Cx} {W : WX} {pos : Pos} : PE X (.Dict [] [] pos) (tD X.K W (eC .dic)) := PE.imp pe_dnewK fun σ H Q h => by
  obtain ⟨H0, env, er, k⟩ := h
  intro p hp
  exact k _ _ _ (Grow.new er.sub hp) (.dic upd_same)
/-! ## list(range(n)) -/
def listR1D : D → Option D
  | .int n => if 0 ≤ n ∧ n ≤ 1000000 then some (.lst (rangeD 0 n)) else none
  | _ => none
theorem reps_rg {K : PySem.W.Frag} {A : Hp} {n : Int} : Reps K A (rgV 0 n) (rangeD 0 n) := by
  unfold rgV rangeD
  generalize List.range (n - 0).toNat = l
  induction l with
  | nil => exact .nil
  | cons i l ih => exact .cons (.int _) ih
theorem pd_listR1 {X : Cx} {W : WX} {a : Expr} {p p2 pos pos2 : Pos} {fa : Env → Res D} (hc : X.calm = true) (hg : Gl X "list") (hm : X.mg "list" = none) (hg2 : Gl X "range") (hm2 : X.mg "range" = none) (ha : PE X a (tD X.K W fa)) (na : starEach [a] X.env = (false, eval a X.env) :: starEach [] X.env := by rfl)
    (na2 : starEach [.Call (.Name "range" p2) [a] [] pos2] X.env = (false, eval (.Call (.Name "range" p2) [a] [] pos2) X.env) :: starEach [] X.env := by rfl) : PE X (.Call (.Name "list" p) [.Call (.Name "range" p2) [a] [] pos2] [] pos) (tD X.K W (eUn listR1D fa)) :=
  PE.imp (pe_listRg hc hg hm (prg_1 hg2 hm2 ha na) na2) fun σ H Q h => by
  obtain ⟨H0, env, er, k⟩ := h
  refine ⟨H0, env, er, Kt.seq er k fun x d A B gr er' rx k' => ?_⟩
  obtain ⟨d2, e, q⟩ := kt_ofO er'.sub k'
  cases d with
  | int n =>
    cases rx
    have e : (if 0 ≤ n ∧ n ≤ 1000000 then some (D.lst (rangeD 0 n)) else none) = some d2 := e
    by_cases c : 0 ≤ n ∧ n ≤ 1000000
    · rw [if_pos c] at e
      cases e
      exact ⟨n, rfl, RgOk.of_le (by decide) (by omega) (by decide) c.1, fun l hl => q _ _ _ (Grow.new er'.sub hl) (.lst (SqL.of upd_same) reps_rg)⟩
    · rw [if_neg c] at e
      cases e
  | _ => cases e
/-! ## a def whose result is one's own, called for its value -/
def deOw (φ : List D → Res Ow) : List D → Res D := fun ds => match φ ds with
  | .ok (.sh d) => .ok d
  | .ok (.lst xs) => .ok (.lst xs)
  | .ok (.ins _ _) => .no
  | .ex C => .ex C
  | .no => .no
theorem HeldO.held {P : Program} {w : World} {K : PySem.W.Frag} {mg : Str → Option Value} {base : Heap} {k : Nat} {f : Addr} {ps : List Str} {φ : List D → Res Ow} (h : HeldO P w K mg base k f ps φ) : Held P w K mg base k f ps (deOw φ) := by
  obtain ⟨fd, F, b, kp⟩ := h
  refine ⟨fd, ⟨fun vs H Q E z => ?_, fun A outer s H args us vs Q E hr e0 bt rv z => ?_⟩, b, kp⟩
  · obtain ⟨H0, ds, _, r, l, _⟩ := z
    rw [r.length, l]
  · refine F.run A outer s H args us vs Q E hr e0 bt rv ?_
    obtain ⟨H0, ds, sm, r, l, k⟩ := z
    refine ⟨H0, ds, sm, r, l, ?_⟩
    unfold deOw at k
    cases e : φ ds with
    | no => rw [e] at k; exact k
    | ex C => rw [e] at k; exact fun A' H' g => k A' H' g
    | ok o =>
      rw [e] at k
      cases o with
      | sh d => exact fun v A' H' g q => k v A' H' g q
      | lst xs =>
        intro v A' H' g q
        obtain ⟨p, ws, rfl, h1, h2, h3, h4⟩ := q
        exact k _ (upd A' p (.lst ws)) H' (g.know h4 h2 h1) (.lst (SqL.of upd_same) (h3.mono (Same.new h2)))
      | ins C fs => exact k.elim
/-! ## f() -/
theorem pd_callH0 {X : Cx} {W : WX} {k : Nat} {f : Addr} {φ : List D → Res D} {x : Str} {p pos : Pos} (F : Held X.prog X.w X.K X.mg X.base k f [] φ) (hr : Room k X.A) (tk : L2N.Takes X W) (hg : Gl X x) (hm : X.mg x = some (.ref f)) (hdb : (x == ("__debug__" : Str)) = false := by decide) :
    PE X (.Call (.Name x p) [] [] pos) (tD X.K W (eCall φ aNil)) := by
  obtain ⟨fd, F, b, kp⟩ := F
  refine ⟨fun pins s σ H Q I h => ?_⟩
  have ht : tCallS (spD X.K 0 φ) (WE W) (tDs X.K W aNil) σ H Q := t_call arge_nil h
  obtain ⟨H0, env, er, k0⟩ := ht
  have z : spD X.K 0 φ [] H Q (WE W σ) := k0 [] H0 H (Grow.refl er.sub) .nil
  refine wpAny_Call_Name_kw (ld_glob I hg hm ?_ hdb)
  exact PySem.W.callWith_K0 I.kIn kp (run_fnS (E := WE W) F hr b (L2N.passAt tk σ) I .nil z)
end Dt
/-! plain laws of texts -/
namespace Dt
open PySem PySem.Spec PyProof.Rows L2 TL PySem.NumText
/-! ## strip -/
theorem goes_all {p : Nat → Bool} {x : Str} : (∀ k, k < x.length → p (x.cps.getD k 0) = true) ↔ ∀ c ∈ tl x, p c = true := by
  constructor
  · intro h c hc
    obtain ⟨k, hk, e⟩ := List.getElem_of_mem hc
    have hk' : k < x.length := by rw [len_tl]; exact hk
    have := h k hk'
    rw [← getD_list, List.getD_eq_getElem?_getD, List.getElem?_eq_getElem hk, e] at this
    exact this
  · intro h k hk
    have hk' : k < (tl x).length := by rw [← len_tl]; exact hk
    rw [← getD_list, List.getD_eq_getElem?_getD, List.getElem?_eq_getElem hk']
    exact h _ (List.getElem_mem hk')
theorem strip_all {x y : Str} : Txt.stripChars x y = Str.empty ↔ ∀ c ∈ tl x, c ∈ tl y := by
  have hm : ∀ c, y.cps.contains c = true ↔ c ∈ tl y := fun c => by
    rw [Array.contains_iff, Array.mem_def]
  have e : Txt.stripChars x y = Builtin.Str.strSub x (PySem.stripLo y.cps.contains true x) (PySem.stripHi y.cps.contains true x (PySem.stripLo y.cps.contains true x)) := stripBy_eq _ _ _ x
  obtain ⟨l1, l2, l3⟩ := lo_facts y.cps.contains x
  obtain ⟨h1, h2, h3, h4⟩ := hi_facts y.cps.contains x _ l1
  rw [e]
  generalize PySem.stripLo y.cps.contains true x = lo at *
  generalize PySem.stripHi y.cps.contains true x lo = hi at *
  have key : Builtin.Str.strSub x lo hi = Str.empty ↔ hi = lo := by
    constructor
    · intro z
      have := congrArg (fun s => (tl s).length) z
      simp only [tl_strSub] at this
      have e0 : (tl Str.empty).length = 0 := rfl
      rw [e0, List.length_take, List.length_drop, ← len_tl] at this
      omega
    · intro z
      apply ext_tl
      rw [tl_strSub, z, Nat.sub_self]
      rfl
  rw [key]
  constructor
  · intro z c hc
    rw [← hm]
    refine goes_all.mp (fun k hk => ?_) c hc
    by_cases q : k < lo
    · exact l2 k q
    · exact h3 k (by omega) hk
  · intro z
    have all := (goes_all (p := y.cps.contains) (x := x)).mpr fun c hc => (hm c).mpr (z c hc)
    rcases l3 with l3 | l3
    · omega
    · by_cases q : lo < x.length
      · rw [all lo q] at l3
        cases l3
      · omega
/-! ## numbers -/
theorem digitsVal_snoc (l : List Nat) (d : Nat) : digitsVal (l ++ [d]) = digitsVal l * 10 + (d - 48) := by
  unfold digitsVal
  rw [List.foldl_append]
  rfl
theorem digitsVal_fold (l : List Nat) : ∀ a : Nat, a ≤ l.foldl (fun acc c => acc * 10 + (c - 48)) a := by
  induction l with
  | nil => exact fun a => Nat.le_refl _
  | cons c l ih =>
    intro a
    have := ih (a * 10 + (c - 48))
    show a ≤ l.foldl _ (a * 10 + (c - 48))
    omega
theorem digitsVal_pos {c : Nat} {l : List Nat} (h : 49 ≤ c) : 1 ≤ digitsVal (c :: l) := by
  have := digitsVal_fold l (0 * 10 + (c - 48))
  show 1 ≤ l.foldl _ (0 * 10 + (c - 48))
  omega
theorem digitsVal_lt : ∀ (n : Nat) (l : List Nat), l.length = n → AllDigits l → digitsVal l < 10 ^ n
  | 0, l, hn, _ => by
    rw [List.length_eq_zero_iff.mp hn]
    decide
  | n + 1, l, hn, h => by
    have ne : l ≠ [] := fun z => by rw [z] at hn; cases hn
    obtain ⟨l', d, rfl⟩ : ∃ l' d, l = l' ++ [d] := ⟨l.dropLast, l.getLast ne, (List.dropLast_concat_getLast ne).symm⟩
    rw [List.length_append] at hn
    have ih := digitsVal_lt n l' (by simpa using hn) fun c hc => h c (List.mem_append_left _ hc)
    have hd := h d (List.mem_append_right _ List.mem_cons_self)
    rw [digitsVal_snoc, Nat.pow_succ]
    omega
/-- digits without a needless nought -/
def Canon (l : List Nat) : Prop := AllDigits l ∧ l ≠ [] ∧ (l.head? = some 48 → l = [48])
theorem numL_back : ∀ (n : Nat) (l : List Nat), l.length = n → Canon l → numL (digitsVal l) = l
  | 0, l, hn, h => absurd (List.length_eq_zero_iff.mp hn) h.2.1
  | n + 1, l, hn, ⟨h1, h2, h3⟩ => by
    obtain ⟨l', d, rfl⟩ : ∃ l' d, l = l' ++ [d] := ⟨l.dropLast, l.getLast h2, (List.dropLast_concat_getLast h2).symm⟩
    have hd := h1 d (List.mem_append_right _ List.mem_cons_self)
    rw [digitsVal_snoc]
    cases l' with
    | nil =>
      have e : digitsVal [] * 10 + (d - 48) = d - 48 := by
        show 0 * 10 + (d - 48) = d - 48
        omega
      rw [e, numL_lt (by omega)]
      show [48 + (d - 48)] = [d]
      rw [show 48 + (d - 48) = d by omega]
    | cons c r =>
      have c49 : 49 ≤ c := by
        have hc := h1 c (by simp)
        by_cases q : c = 48
        · have := h3 (by rw [q]; rfl)
          have := congrArg List.length this
          rw [List.length_append, List.length_cons] at this
          simp at this
        · omega
      have pos := digitsVal_pos (l := r) c49
      have ih := numL_back n (c :: r) (by rw [List.length_append] at hn; simpa using hn) ⟨fun x hx => h1 x (List.mem_append_left _ hx), by simp, fun z => by
        have z : c = 48 := Option.some.inj z
        omega⟩
      have dv : (digitsVal (c :: r) * 10 + (d - 48)) / 10 = digitsVal (c :: r) := by omega
      have md : (digitsVal (c :: r) * 10 + (d - 48)) % 10 = d - 48 := by omega
      rw [numL_step (by omega), dv, md, ih, show 48 + (d - 48) = d by omega]
/-! ## split, join -/
theorem pre1 {s c : Nat} {r : List Nat} : pre [s] (c :: r) = decide (c = s) := by
  unfold pre
  rw [Bool.eq_iff_iff]
  simp
theorem spl_cons {s c : Nat} {acc r : List Nat} : spl [s] 0 acc (c :: r) = if c = s then acc :: spl [s] 0 [] r else spl [s] 0 (acc ++ [c]) r := by
  by_cases h : c = s
  · rw [if_pos h, spl_hit (by rw [pre1, decide_eq_true h])]
    rfl
  · rw [if_neg h, spl_miss (by rw [pre1, decide_eq_false h])]
theorem spl_ne {s : Nat} : ∀ (l acc : List Nat), spl [s] 0 acc l ≠ []
  | [], acc => by rw [spl_nil]; simp
  | c :: r, acc => by
    rw [spl_cons]
    split
    · simp
    · exact spl_ne r _
theorem join_cons {S p : List Nat} {ps : List (List Nat)} (h : ps ≠ []) : joinL S (p :: ps) = p ++ (S ++ joinL S ps) := by
  cases ps with
  | nil => exact absurd rfl h
  | cons q r => rfl
theorem join_spl {s : Nat} : ∀ (l acc : List Nat), joinL [s] (spl [s] 0 acc l) = acc ++ l
  | [], acc => by rw [spl_nil, List.append_nil]; rfl
  | c :: r, acc => by
    rw [spl_cons]
    split
    · rename_i h
      subst h
      rw [join_cons (spl_ne r []), join_spl r []]
      simp
    · rw [join_spl r (acc ++ [c])]
      simp
theorem spl_few {s : Nat} : ∀ (l acc : List Nat), (spl [s] 0 acc l).length ≤ l.length + 1
  | [], acc => by rw [spl_nil]; simp
  | c :: r, acc => by
    rw [spl_cons, List.length_cons]
    split
    · have := spl_few (s := s) r []
      rw [List.length_cons]
      omega
    · have := spl_few (s := s) r (acc ++ [c])
      omega
theorem spl_free {s : Nat} : ∀ (l acc : List Nat), s ∉ acc → ∀ p ∈ spl [s] 0 acc l, s ∉ p
  | [], acc, h, p, hp => by
    rw [spl_nil] at hp
    obtain rfl := List.mem_singleton.mp hp
    exact h
  | c :: r, acc, h, p, hp => by
    rw [spl_cons] at hp
    split at hp
    · rcases List.mem_cons.mp hp with rfl | hp
      · exact h
      · exact spl_free r [] (by simp) p hp
    · rename_i n
      refine spl_free r (acc ++ [c]) (fun z => ?_) p hp
      rcases List.mem_append.mp z with z | z
      · exact h z
      · exact n (List.mem_singleton.mp z).symm
theorem spl_len {s : Nat} : ∀ (l acc : List Nat), ((spl [s] 0 acc l).map List.length).sum ≤ acc.length + l.length
  | [], acc => by rw [spl_nil]; simp
  | c :: r, acc => by
    rw [spl_cons, List.length_cons]
    split
    · have := spl_len (s := s) r []
      rw [List.map_cons, List.sum_cons]
      simp only [List.length_nil] at this
      omega
    · have := spl_len (s := s) r (acc ++ [c])
      rw [List.length_append, List.length_singleton] at this
      omega
theorem mem_le_sum {p : List Nat} : ∀ {ps : List (List Nat)}, p ∈ ps → p.length ≤ (ps.map List.length).sum
  | q :: ps, h => by
    rw [List.map_cons, List.sum_cons]
    rcases List.mem_cons.mp h with rfl | h
    · omega
    · have := mem_le_sum h
      omega
theorem split_tl {x y : Str} {s : Nat} (hy : tl y = [s]) (hs : s < 256) : (Txt.split x y).map tl = spl [s] 0 [] (tl x) := by
  rw [split_spl x y (by rw [hy]; simp) (kind_ok (by
    rw [Array.all_eq_true_iff_forall_mem]
    intro c hc
    have hc : c ∈ tl y := Array.mem_def.mp hc
    rw [hy] at hc
    obtain rfl := List.mem_singleton.mp hc
    exact decide_eq_true hs)), hy]
theorem joinL_len {s : Nat} : ∀ (ps : List (List Nat)), (joinL [s] ps).length ≤ (ps.map List.length).sum + ps.length
  | [] => Nat.zero_le _
  | [p] => by
    show p.length ≤ _
    simp
  | p :: q :: r => by
    have := joinL_len (s := s) (q :: r)
    show (p ++ ([s] ++ joinL [s] (q :: r))).length ≤ _
    simp only [List.length_append, List.map_cons, List.sum_cons, List.length_cons, List.length_nil] at this ⊢
    omega
/-! ## a word -/
abbrev FIG : Str := "0123456789"
abbrev PLUS : Str := "+"
abbrev BLANK : Str := " "
theorem tl_FIG : tl FIG = [48, 49, 50, 51, 52, 53, 54, 55, 56, 57] := by decide +kernel
theorem tl_PLUS : tl PLUS = [43] := by decide +kernel
theorem tl_BLANK : tl BLANK = [32] := by decide +kernel
theorem tl_nought : tl ("0" : Str) = [48] := by decide +kernel
theorem tl_empty : tl ("" : Str) = [] := by decide +kernel
theorem in_FIG {c : Nat} : c ∈ tl FIG ↔ 48 ≤ c ∧ c ≤ 57 := by
  rw [tl_FIG]
  simp only [List.mem_cons, List.not_mem_nil, or_false]
  omega
/-- a word that writes a number -/
def numOk (w : Str) : Bool := (decide (1 ≤ w.length) && decide (w.length ≤ 60)) && (decide (∀ c ∈ tl w, 48 ≤ c ∧ c ≤ 57) && !(decide ((tl w).head? = some 48) && !decide (w = "0")))
def valOf (w : Str) : Int := ((digitsVal (tl w) : Nat) : Int)
theorem numOk_canon {w : Str} (h : numOk w = true) : Canon (tl w) ∧ w.length ≤ 60 := by
  unfold numOk at h
  simp only [Bool.and_eq_true, decide_eq_true_eq, Bool.not_eq_true', Bool.and_eq_false_iff, decide_eq_false_iff_not, Bool.not_eq_false'] at h
  obtain ⟨⟨h1, h2⟩, h3, h4⟩ := h
  refine ⟨⟨h3, fun z => ?_, fun z => ?_⟩, h2⟩
  · rw [len_tl, z] at h1
    simp at h1
  · rcases h4 with h4 | h4
    · exact absurd z h4
    · rw [h4, tl_nought]
theorem val_back {w : Str} (h : numOk w = true) : Str.ofString (toString (valOf w)) = w := by
  apply ext_tl
  unfold valOf
  rw [tl_num]
  exact numL_back _ _ rfl (numOk_canon h).1
theorem val_int {w : Str} (h : numOk w = true) : intText? w = some (valOf w) := by
  obtain ⟨⟨h1, h2, h3⟩, h4⟩ := numOk_canon h
  exact intText_digits h1 h2 (by omega)
theorem val_bound {w : Str} (h : numOk w = true) : 0 ≤ valOf w ∧ valOf w < 1000000000000000000000000000000000000000000000000000000000000 := by
  obtain ⟨⟨h1, h2, h3⟩, h4⟩ := numOk_canon h
  have := digitsVal_lt _ _ rfl h1
  have h5 : 10 ^ (tl w).length ≤ 10 ^ 60 := Nat.pow_le_pow_right (by decide) (by rw [← len_tl]; exact h4)
  unfold valOf
  refine ⟨by omega, ?_⟩
  have h6 : (10 : Nat) ^ 60 = 1000000000000000000000000000000000000000000000000000000000000 := by decide +kernel
  omega
theorem numOk_plus {w : Str} (h : 43 ∈ tl w) : numOk w = false := by
  unfold numOk
  rw [decide_eq_false (p := ∀ c ∈ tl w, 48 ≤ c ∧ c ≤ 57) (fun z => by have := z 43 h; omega)]
  simp
theorem numOk_empty : numOk Str.empty = false := rfl
/-- a tariff's word -/
def wordP (w : Str) : Option (Int × Int) := if numOk (Txt.partition w PLUS).1 = true ∧ numOk (Txt.partition w PLUS).2.2 = true then some (valOf (Txt.partition w PLUS).1, valOf (Txt.partition w PLUS).2.2) else none
theorem split_at {l : List Nat} {s : Nat} (h : s ∈ l) : ∃ a r, l = a ++ s :: r ∧ s ∉ a := by
  induction l with
  | nil => cases h
  | cons c l ih =>
    by_cases q : c = s
    · exact ⟨[], l, by rw [q]; rfl, by simp⟩
    · rcases List.mem_cons.mp h with z | z
      · exact absurd z.symm q
      · obtain ⟨a, r, e, n⟩ := ih z
        exact ⟨c :: a, r, by rw [e]; rfl, fun z => by
          rcases List.mem_cons.mp z with z | z
          · exact q z.symm
          · exact n z⟩
/-- what the two ways of cutting a word say -/
theorem word_cases (w : Str) : (43 ∉ tl w ∧ Txt.partition w PLUS = (w, Str.empty, Str.empty) ∧ Txt.split w PLUS = [w]) ∨
    ∃ a r : Str, Txt.partition w PLUS = (a, PLUS, r) ∧ w = a ++ PLUS ++ r ∧ ((43 ∉ tl r ∧ Txt.split w PLUS = [a, r]) ∨ (43 ∈ tl r ∧ 3 ≤ (Txt.split w PLUS).length)) := by
  by_cases h : 43 ∈ tl w
  · right
    obtain ⟨a, r, e, n⟩ := split_at h
    have ew : w = (⟨a.toArray⟩ : Str) ++ PLUS ++ (⟨r.toArray⟩ : Str) := by
      apply ext_tl
      rw [tl_append, tl_append, tl_PLUS, e]
      show a ++ 43 :: r = (a ++ [43]) ++ r
      simp
    refine ⟨⟨a.toArray⟩, ⟨r.toArray⟩, ?_, ew, ?_⟩
    · conv => lhs; rw [ew]
      exact partition_app tl_PLUS n
    · have es := split_tl (x := w) tl_PLUS (by decide)
      have e1 : spl [43] 0 [] (tl w) = a :: spl [43] 0 [] r := by
        rw [e]
        have := spl_part1 (s := 43) (S := []) (p := a) (rest := r) (acc := []) n
        simpa using this
      rw [e1] at es
      by_cases hr : 43 ∈ r
      · right
        refine ⟨hr, ?_⟩
        obtain ⟨a2, r2, e2, n2⟩ := split_at hr
        have e3 : spl [43] 0 [] r = a2 :: spl [43] 0 [] r2 := by
          rw [e2]
          have := spl_part1 (s := 43) (S := []) (p := a2) (rest := r2) (acc := []) n2
          simpa using this
        have := congrArg List.length es
        rw [List.length_map, e3, List.length_cons, List.length_cons] at this
        have := List.length_pos_iff.mpr (spl_ne (s := 43) r2 [])
        omega
      · left
        refine ⟨hr, map_tl_inj ?_⟩
        rw [es]
        have := spl_last1 (s := 43) (S := []) (p := r) (acc := []) hr
        rw [this]
        rfl
  · left
    refine ⟨h, partition_none tl_PLUS h, map_tl_inj ?_⟩
    rw [split_tl tl_PLUS (by decide), spl_last1 h]
    rfl
theorem word_len {w a r : Str} (h : w = a ++ PLUS ++ r) : a.length ≤ w.length ∧ r.length ≤ w.length := by
  have := congrArg (fun s => (tl s).length) h
  simp only [tl_append, List.length_append] at this
  rw [len_tl w, len_tl a, len_tl r]
  omega
/-- the words of a text -/
def wordsP : List Str → Option (List (Int × Int))
  | [] => some []
  | w :: ws => match wordP w, wordsP ws with
    | some t, some l => some (t :: l)
    | _, _ => none
def numS (n : Int) : Str := Str.ofString (toString n)
def wordOf (t : Int × Int) : Str := numS t.1 ++ PLUS ++ numS t.2
def textOf (l : List (Int × Int)) : Str := Txt.join BLANK (l.map wordOf)
theorem wordP_back {w : Str} {t : Int × Int} (h : wordP w = some t) : wordOf t = w ∧ (0 ≤ t.1 ∧ 0 ≤ t.2) ∧ t.1 < 1000000000000000000000000000000000000000000000000000000000000 ∧ t.2 < 1000000000000000000000000000000000000000000000000000000000000 := by
  unfold wordP at h
  by_cases c : numOk (Txt.partition w PLUS).1 = true ∧ numOk (Txt.partition w PLUS).2.2 = true
  · rw [if_pos c] at h
    cases h
    rcases word_cases w with ⟨n, e, _⟩ | ⟨a, r, e, ew, _⟩
    · rw [e] at c
      have := c.2
      rw [numOk_empty] at this
      cases this
    · rw [e] at c ⊢
      obtain ⟨c1, c2⟩ := c
      have b1 := val_bound c1
      have b2 := val_bound c2
      refine ⟨?_, ⟨b1.1, b2.1⟩, b1.2, b2.2⟩
      show numS (valOf a) ++ PLUS ++ numS (valOf r) = w
      unfold numS
      rw [val_back c1, val_back c2]
      exact ew.symm
  · rw [if_neg c] at h
    cases h
theorem wordsP_back : ∀ {ws : List Str} {l : List (Int × Int)}, wordsP ws = some l → l.map wordOf = ws ∧ l.length = ws.length ∧ ∀ t ∈ l, (0 ≤ t.1 ∧ 0 ≤ t.2) ∧ t.1 < 1000000000000000000000000000000000000000000000000000000000000 ∧ t.2 < 1000000000000000000000000000000000000000000000000000000000000
  | [], l, h => by
    cases h
    exact ⟨rfl, rfl, fun t ht => by cases ht⟩
  | w :: ws, l, h => by
    have h : (match wordP w, wordsP ws with | some t, some l => some (t :: l) | _, _ => none) = some l := h
    cases e1 : wordP w with
    | none => rw [e1] at h; cases h
    | some t =>
      cases e2 : wordsP ws with
      | none => rw [e1, e2] at h; cases h
      | some l' =>
        rw [e1, e2] at h
        cases h
        obtain ⟨g1, g2, g3⟩ := wordsP_back e2
        obtain ⟨k1, k2⟩ := wordP_back e1
        refine ⟨by rw [List.map_cons, k1, g1], by rw [List.length_cons, List.length_cons, g2], fun u hu => ?_⟩
        rcases List.mem_cons.mp hu with rfl | hu
        · exact k2
        · exact g3 u hu
theorem split_ne (t : Str) : Txt.split t BLANK ≠ [] := fun z => by
  have := split_tl (x := t) tl_BLANK (by decide)
  rw [z] at this
  exact spl_ne (s := 32) (tl t) [] this.symm
theorem split_few (t : Str) : (Txt.split t BLANK).length ≤ t.length + 1 := by
  have := congrArg List.length (split_tl (x := t) tl_BLANK (by decide))
  rw [List.length_map] at this
  rw [this, len_tl]
  exact spl_few _ _
theorem sum_map_len (ws : List Str) : (ws.map (·.length)).sum = ((ws.map tl).map List.length).sum := by
  rw [List.map_map, show (fun w : Str => w.length) = List.length ∘ tl from funext len_tl]
theorem split_sum (t : Str) : ((Txt.split t BLANK).map (·.length)).sum ≤ t.length := by
  rw [sum_map_len, split_tl tl_BLANK (by decide), len_tl]
  have := spl_len (s := 32) (tl t) []
  simpa using this
theorem split_word {t w : Str} (h : w ∈ Txt.split t BLANK) : w.length ≤ t.length := by
  have h1 := split_sum t
  rw [sum_map_len] at h1
  have h2 := mem_le_sum (List.mem_map_of_mem (f := tl) h)
  rw [← len_tl] at h2
  omega
theorem split_back (t : Str) : Txt.join BLANK (Txt.split t BLANK) = t := by
  apply ext_tl
  rw [join_eq, tl_join, tl_BLANK, split_tl tl_BLANK (by decide), join_spl]
  rfl
theorem text_back {t : Str} {l : List (Int × Int)} (h : wordsP (Txt.split t BLANK) = some l) : textOf l = t := by
  unfold textOf
  rw [(wordsP_back h).1, split_back]
theorem text_len (l : List (Int × Int)) : (textOf l).length ≤ ((l.map wordOf).map (·.length)).sum + l.length := by
  unfold textOf
  rw [len_tl, join_eq, tl_join, tl_BLANK, sum_map_len]
  have := joinL_len (s := 32) ((l.map wordOf).map tl)
  simpa using this
theorem numS_len {n : Int} {k : Nat} (h0 : 0 ≤ n) (hk : 0 < k) (h : n < (10 ^ k : Nat)) : (numS n).length ≤ k := by
  obtain ⟨m, rfl⟩ := Int.eq_ofNat_of_zero_le h0
  unfold numS
  rw [len_tl, tl_num]
  exact numL_len hk (by omega)
end Dt
namespace Dt.Ws
noncomputable section
open PySem PySem.Spec PyProof.Rows L2 Dt He
def topS (i : Nat) : Stmt := PySem.Challenge.pw_leasttariff_k07_texts.main.body.getD i (.Pass ⟨0, 0, 0, 0⟩)
abbrev excs (K : PySem.W.Frag) : List Addr := [ga K "BadBook", ga K "BadPlace", ga K "BadAmount", ga K "BadMoney", ga K "BadText"]
def cis (K : PySem.W.Frag) : List Addr := []
theorem ci_ok {K : PySem.W.Frag} (_ : true = true) : ∀ C ∈ cis K, CI K C := fun C h => by
  have h : C ∈ ([] : List Addr) := h
  cases h
abbrev s_is_number : Stmt := topS 8
abbrev s_is_pair : Stmt := topS 9
abbrev s_check_book : Stmt := topS 10
abbrev s_written : Stmt := topS 14
abbrev s_number_in : Stmt := topS 15
abbrev s_read : Stmt := topS 16
abbrev s__law_book : Stmt := topS 18
abbrev s__law_number : Stmt := topS 19
abbrev s__law_in : Stmt := topS 20
abbrev s__law_refused : Stmt := topS 21
abbrev s__law_right : Stmt := topS 22
abbrev s__law_few : Stmt := topS 23
abbrev s_law : Stmt := topS 24
/-- what the top has left -/
structure Top (K : PySem.W.Frag) (mg : Str → Option Value) : Prop where
  g_is_number : mg "is_number" = some (.ref (ga K "is_number"))
  g_is_pair : mg "is_pair" = some (.ref (ga K "is_pair"))
  g_check_book : mg "check_book" = some (.ref (ga K "check_book"))
  g_written : mg "written" = some (.ref (ga K "written"))
  g_number_in : mg "number_in" = some (.ref (ga K "number_in"))
  g_read : mg "read" = some (.ref (ga K "read"))
  g__law_book : mg "_law_book" = some (.ref (ga K "_law_book"))
  g__law_number : mg "_law_number" = some (.ref (ga K "_law_number"))
  g__law_in : mg "_law_in" = some (.ref (ga K "_law_in"))
  g__law_refused : mg "_law_refused" = some (.ref (ga K "_law_refused"))
  g__law_right : mg "_law_right" = some (.ref (ga K "_law_right"))
  g__law_few : mg "_law_few" = some (.ref (ga K "_law_few"))
  g_law : mg "law" = some (.ref (ga K "law"))
  g_TariffError : mg "TariffError" = some (.ref (ga K "TariffError"))
  g_BadBook : mg "BadBook" = some (.ref (ga K "BadBook"))
  g_BadPlace : mg "BadPlace" = some (.ref (ga K "BadPlace"))
  g_BadAmount : mg "BadAmount" = some (.ref (ga K "BadAmount"))
  g_BadMoney : mg "BadMoney" = some (.ref (ga K "BadMoney"))
  g_BadText : mg "BadText" = some (.ref (ga K "BadText"))
  k_FIGURES : ∃ t, mg "FIGURES" = some (.str "0123456789" t)
  k_MOST : ∃ t, mg "MOST" = some (.int 60 t)
  b_all : mg "all" = none
  b_any : mg "any" = none
  b_bool : mg "bool" = none
  b_int : mg "int" = none
  b_isinstance : mg "isinstance" = none
  b_len : mg "len" = none
  b_list : mg "list" = none
  b_max : mg "max" = none
  b_range : mg "range" = none
  b_str : mg "str" = none
  b_sum : mg "sum" = none
  b_tuple : mg "tuple" = none
  b_zip : mg "zip" = none
  x_BadBook : excB "BadBook" K = true
  x_BadText : excB "BadText" K = true
  xs : ∀ C ∈ excs K, ExcC K C ∧ PySem.W.exmOne K (.ref C) (.ref (ga K "TariffError")) = some true
  e_BadBook_BadBook : PySem.W.kitOne K (.ref (ga K "BadBook")) (.ref (ga K "BadBook")) = some true
  e_BadBook_BadPlace : PySem.W.kitOne K (.ref (ga K "BadBook")) (.ref (ga K "BadPlace")) = some false
  e_BadBook_BadAmount : PySem.W.kitOne K (.ref (ga K "BadBook")) (.ref (ga K "BadAmount")) = some false
  e_BadBook_BadMoney : PySem.W.kitOne K (.ref (ga K "BadBook")) (.ref (ga K "BadMoney")) = some false
  e_BadBook_BadText : PySem.W.kitOne K (.ref (ga K "BadBook")) (.ref (ga K "BadText")) = some false
  e_BadPlace_BadBook : PySem.W.kitOne K (.ref (ga K "BadPlace")) (.ref (ga K "BadBook")) = some false
  e_BadPlace_BadPlace : PySem.W.kitOne K (.ref (ga K "BadPlace")) (.ref (ga K "BadPlace")) = some true
  e_BadPlace_BadAmount : PySem.W.kitOne K (.ref (ga K "BadPlace")) (.ref (ga K "BadAmount")) = some false
  e_BadPlace_BadMoney : PySem.W.kitOne K (.ref (ga K "BadPlace")) (.ref (ga K "BadMoney")) = some false
  e_BadPlace_BadText : PySem.W.kitOne K (.ref (ga K "BadPlace")) (.ref (ga K "BadText")) = some false
  e_BadAmount_BadBook : PySem.W.kitOne K (.ref (ga K "BadAmount")) (.ref (ga K "BadBook")) = some false
  e_BadAmount_BadPlace : PySem.W.kitOne K (.ref (ga K "BadAmount")) (.ref (ga K "BadPlace")) = some false
  e_BadAmount_BadAmount : PySem.W.kitOne K (.ref (ga K "BadAmount")) (.ref (ga K "BadAmount")) = some true
  e_BadAmount_BadMoney : PySem.W.kitOne K (.ref (ga K "BadAmount")) (.ref (ga K "BadMoney")) = some false
  e_BadAmount_BadText : PySem.W.kitOne K (.ref (ga K "BadAmount")) (.ref (ga K "BadText")) = some false
  e_BadMoney_BadBook : PySem.W.kitOne K (.ref (ga K "BadMoney")) (.ref (ga K "BadBook")) = some false
  e_BadMoney_BadPlace : PySem.W.kitOne K (.ref (ga K "BadMoney")) (.ref (ga K "BadPlace")) = some false
  e_BadMoney_BadAmount : PySem.W.kitOne K (.ref (ga K "BadMoney")) (.ref (ga K "BadAmount")) = some false
  e_BadMoney_BadMoney : PySem.W.kitOne K (.ref (ga K "BadMoney")) (.ref (ga K "BadMoney")) = some true
  e_BadMoney_BadText : PySem.W.kitOne K (.ref (ga K "BadMoney")) (.ref (ga K "BadText")) = some false
  e_BadText_BadBook : PySem.W.kitOne K (.ref (ga K "BadText")) (.ref (ga K "BadBook")) = some false
  e_BadText_BadPlace : PySem.W.kitOne K (.ref (ga K "BadText")) (.ref (ga K "BadPlace")) = some false
  e_BadText_BadAmount : PySem.W.kitOne K (.ref (ga K "BadText")) (.ref (ga K "BadAmount")) = some false
  e_BadText_BadMoney : PySem.W.kitOne K (.ref (ga K "BadText")) (.ref (ga K "BadMoney")) = some false
  e_BadText_BadText : PySem.W.kitOne K (.ref (ga K "BadText")) (.ref (ga K "BadText")) = some true
  ci : ∀ C ∈ cis K, CI K C
  d_is_number : ∃ fd, L2.FunD K "is_number" "is_number" (defArgs s_is_number) (defBody s_is_number) (defScope s_is_number) [] [] (ga K "is_number") fd
  d_is_pair : ∃ fd, L2.FunD K "is_pair" "is_pair" (defArgs s_is_pair) (defBody s_is_pair) (defScope s_is_pair) [] [] (ga K "is_pair") fd
  d_check_book : ∃ fd, L2.FunD K "check_book" "check_book" (defArgs s_check_book) (defBody s_check_book) (defScope s_check_book) [] [] (ga K "check_book") fd
  d_written : ∃ fd, L2.FunD K "written" "written" (defArgs s_written) (defBody s_written) (defScope s_written) [] [] (ga K "written") fd
  d_number_in : ∃ fd, L2.FunD K "number_in" "number_in" (defArgs s_number_in) (defBody s_number_in) (defScope s_number_in) [] [] (ga K "number_in") fd
  d_read : ∃ fd, L2.FunD K "read" "read" (defArgs s_read) (defBody s_read) (defScope s_read) [] [] (ga K "read") fd
  d__law_book : ∃ fd, L2.FunD K "_law_book" "_law_book" (defArgs s__law_book) (defBody s__law_book) (defScope s__law_book) [] [] (ga K "_law_book") fd
  d__law_number : ∃ fd, L2.FunD K "_law_number" "_law_number" (defArgs s__law_number) (defBody s__law_number) (defScope s__law_number) [] [] (ga K "_law_number") fd
  d__law_in : ∃ fd, L2.FunD K "_law_in" "_law_in" (defArgs s__law_in) (defBody s__law_in) (defScope s__law_in) [] [] (ga K "_law_in") fd
  d__law_refused : ∃ fd, L2.FunD K "_law_refused" "_law_refused" (defArgs s__law_refused) (defBody s__law_refused) (defScope s__law_refused) [] [] (ga K "_law_refused") fd
  d__law_right : ∃ fd, L2.FunD K "_law_right" "_law_right" (defArgs s__law_right) (defBody s__law_right) (defScope s__law_right) [] [] (ga K "_law_right") fd
  d__law_few : ∃ fd, L2.FunD K "_law_few" "_law_few" (defArgs s__law_few) (defBody s__law_few) (defScope s__law_few) [] [] (ga K "_law_few") fd
  d_law : ∃ fd, L2.FunD K "law" "law" (defArgs s_law) (defBody s_law) (defScope s_law) [] [] (ga K "law") fd
/-! is_number -/
abbrev N_is_number : List Str := ["thing", "least"]
theorem sc_is_number : FnScope N_is_number ["thing", "least"] (defScope s_is_number) := ⟨rfl, rfl, rfl, by decide +kernel, rfl, by decide +kernel, by decide +kernel⟩
def g_is_number (K : PySem.W.Frag) : Env → Res Fl :=
    (sRet (eB (bAnd (bV (eFn (isiD K (cis K)) (aCons (eVar 0) (aCons (eC (.ty "int")) aNil)))) (bAnd (bNot (bV (eFn (isiD K (cis K)) (aCons (eVar 0) (aCons (eC (.ty "bool")) aNil))))) (bV (eOp geD (eVar 0) (eVar 1)))))))
def f_is_number (K : PySem.W.Frag) : List D → Res D := run 2 (g_is_number K)
theorem okF_is_number {P : Program} {w : World} {K : PySem.W.Frag} {mg : Str → Option Value} {base : Heap} (T : Top K mg) {fd : FuncData} (F : L2.FunD K "is_number" "is_number" (defArgs s_is_number) (defBody s_is_number) (defScope s_is_number) [] [] (ga K "is_number") fd) : FnOk P w K mg base (L2N.CX P w) 1 (ga K "is_number") fd ["thing", "least"] (spD K 2 (f_is_number K)) := by
  refine fn_dt (N := N_is_number) F sc_is_number (fun cdv A outer s H E G P' hr gd => ?_)
  have nd := sc_is_number.nd
  have tk := L2N.takes_of (X := cxOf (L2N.CX P w) P w K mg base N_is_number "is_number" (defScope s_is_number) (ga K "is_number") cdv A outer s H E) rfl rfl rfl rfl
  have pow := passes_of (X := cxOf (L2N.CX P w) P w K mg base N_is_number "is_number" (defScope s_is_number) (ga K "is_number") cdv A outer s H E) rfl
  exact (sd_one (sd_ret gd (pd_and (pd_eB (pd_isi T.ci (by rfl) T.b_isinstance (pad_cons (pd_var 0) (pad_cons (pd_bty (by rfl) T.b_int (by decide +kernel)) pad_nil)))) (pd_and (pd_not (pd_eB (pd_isi T.ci (by rfl) T.b_isinstance (pad_cons (pd_var 0) (pad_cons (pd_bty (by rfl) T.b_bool (by decide +kernel)) pad_nil))))) (pd_one (pd_eB (pd_ge (pd_var 0) (pd_var 1))))))))
theorem ok_is_number {P : Program} {w : World} {K : PySem.W.Frag} {mg : Str → Option Value} {base : Heap} (T : Top K mg) : Held P w K mg base 1 (ga K "is_number") ["thing", "least"] (f_is_number K) := by
  obtain ⟨fd, F⟩ := T.d_is_number
  exact ⟨fd, okF_is_number T F, F.bindsN fun _ _ _ _ _ _ us hl => match us, hl with | [_, _], _ => rfl, F.kp⟩
/-! is_pair -/
abbrev N_is_pair : List Str := ["thing", "least"]
theorem sc_is_pair : FnScope N_is_pair ["thing", "least"] (defScope s_is_pair) := ⟨rfl, rfl, rfl, by decide +kernel, rfl, by decide +kernel, by decide +kernel⟩
def g_is_pair (K : PySem.W.Frag) : Env → Res Fl :=
    (sRet (eB (bAnd (bV (eFn (isiD K (cis K)) (aCons (eVar 0) (aCons (eC (.ty "tuple")) aNil)))) (bAnd (bV (eOp eqD (eFn lenD (aCons (eVar 0) aNil)) (eC (.int 2)))) (bAnd (bV (eCall (f_is_number K) (aCons (eOp ixD (eVar 0) (eC (.int 0))) (aCons (eC (.int 0)) aNil)))) (bV (eCall (f_is_number K) (aCons (eOp ixD (eVar 0) (eC (.int 1))) (aCons (eVar 1) aNil)))))))))
def f_is_pair (K : PySem.W.Frag) : List D → Res D := run 2 (g_is_pair K)
theorem okF_is_pair {P : Program} {w : World} {K : PySem.W.Frag} {mg : Str → Option Value} {base : Heap} (T : Top K mg) {fd : FuncData} (F : L2.FunD K "is_pair" "is_pair" (defArgs s_is_pair) (defBody s_is_pair) (defScope s_is_pair) [] [] (ga K "is_pair") fd) : FnOk P w K mg base (L2N.CX P w) 2 (ga K "is_pair") fd ["thing", "least"] (spD K 2 (f_is_pair K)) := by
  refine fn_dt (N := N_is_pair) F sc_is_pair (fun cdv A outer s H E G P' hr gd => ?_)
  have nd := sc_is_pair.nd
  have tk := L2N.takes_of (X := cxOf (L2N.CX P w) P w K mg base N_is_pair "is_pair" (defScope s_is_pair) (ga K "is_pair") cdv A outer s H E) rfl rfl rfl rfl
  have pow := passes_of (X := cxOf (L2N.CX P w) P w K mg base N_is_pair "is_pair" (defScope s_is_pair) (ga K "is_pair") cdv A outer s H E) rfl
  exact (sd_one (sd_ret gd (pd_and (pd_eB (pd_isi T.ci (by rfl) T.b_isinstance (pad_cons (pd_var 0) (pad_cons (pd_bty (by rfl) T.b_tuple (by decide +kernel)) pad_nil)))) (pd_and (pd_eB (pd_eq hr.units (pd_len (by rfl) T.b_len (pad_cons (pd_var 0) pad_nil)) pd_int)) (pd_and (pd_eB (pd_callH (ok_is_number T) (hr.mono (by decide)) tk (by rfl) T.g_is_number (pad_cons (pd_sub' (pd_var 0) pd_int) (pad_cons pd_int pad_nil)) (arge_cons (arge_cons arge_nil)))) (pd_one (pd_eB (pd_callH (ok_is_number T) (hr.mono (by decide)) tk (by rfl) T.g_is_number (pad_cons (pd_sub' (pd_var 0) pd_int) (pad_cons (pd_var 1) pad_nil)) (arge_cons (arge_cons arge_nil))))))))))
theorem ok_is_pair {P : Program} {w : World} {K : PySem.W.Frag} {mg : Str → Option Value} {base : Heap} (T : Top K mg) : Held P w K mg base 2 (ga K "is_pair") ["thing", "least"] (f_is_pair K) := by
  obtain ⟨fd, F⟩ := T.d_is_pair
  exact ⟨fd, okF_is_pair T F, F.bindsN fun _ _ _ _ _ _ us hl => match us, hl with | [_, _], _ => rfl, F.kp⟩
/-! check_book -/
abbrev N_check_book : List Str := ["book", "tariff"]
theorem sc_check_book : FnScope N_check_book ["book"] (defScope s_check_book) := ⟨rfl, rfl, rfl, by decide +kernel, rfl, by decide +kernel, by decide +kernel⟩
def g_check_book (K : PySem.W.Frag) : Env → Res Fl :=
    (sIf (bOr (bNot (bV (eFn (isiD K (cis K)) (aCons (eVar 0) (aCons (eC (.ty "list")) aNil))))) (bOr (bV (eOp eqD (eVar 0) (eLst aNil))) (bNot (bV (eFn allD (aCons (eLC [1] (bNm 1) bYes (eCall (f_is_pair K) (aCons (eVar 1) (aCons (eC (.int 0)) aNil))) (iL (eVar 0))) aNil)))))) (sRaise (ga K "BadBook")) sNil)
def f_check_book (K : PySem.W.Frag) : List D → Res D := run 2 (g_check_book K)
theorem okF_check_book {P : Program} {w : World} {K : PySem.W.Frag} {mg : Str → Option Value} {base : Heap} (T : Top K mg) {fd : FuncData} (F : L2.FunD K "check_book" "check_book" (defArgs s_check_book) (defBody s_check_book) (defScope s_check_book) [] [] (ga K "check_book") fd) : FnOk P w K mg base (L2N.CX P w) 3 (ga K "check_book") fd ["book"] (spD K 1 (f_check_book K)) := by
  refine fn_dt (N := N_check_book) F sc_check_book (fun cdv A outer s H E G P' hr gd => ?_)
  have nd := sc_check_book.nd
  have tk := L2N.takes_of (X := cxOf (L2N.CX P w) P w K mg base N_check_book "check_book" (defScope s_check_book) (ga K "check_book") cdv A outer s H E) rfl rfl rfl rfl
  have pow := passes_of (X := cxOf (L2N.CX P w) P w K mg base N_check_book "check_book" (defScope s_check_book) (ga K "check_book") cdv A outer s H E) rfl
  exact (sd_one (sd_if gd (PW.pt (pwd_or (ptd_not (pt_v (pd_isi T.ci (by rfl) T.b_isinstance (pad_cons (pd_var 0) (pad_cons (pd_bty (by rfl) T.b_list (by decide +kernel)) pad_nil))))) (pwd_or (pt_eq hr.units (pd_var 0) (pd_lst pad_nil arge_nil.le)) (pwd_or1 (ptd_not (pt_v (pd_all (by rfl) (by rfl) T.b_all (pad_cons (pd_lc (own := [("tariff", 1)]) (by rfl) nd (id_list (pd_var 0)) (blkOk_by (own := [("tariff", 1)]) (N := N_check_book) (sc := defScope s_check_book) (by decide +kernel)) (by decide) (fun _ _ _ _ _ => (gd_name (i := 1) nd)) (fun _ _ _ _ _ => ptsd_nil) (fun _ _ _ _ _ => (pd_callH (ok_is_pair T) (hr.mono (by decide)) takes0N (by rfl) T.g_is_pair (pad_cons (pd_var 1) (pad_cons pd_int pad_nil)) (arge_cons (arge_cons arge_nil))))) pad_nil)))))))) (sd_one (sd_raise rfl tk (mk_exc T.x_BadBook T.g_BadBook (by rfl)))) sd_nil))
theorem ok_check_book {P : Program} {w : World} {K : PySem.W.Frag} {mg : Str → Option Value} {base : Heap} (T : Top K mg) : Held P w K mg base 3 (ga K "check_book") ["book"] (f_check_book K) := by
  obtain ⟨fd, F⟩ := T.d_check_book
  exact ⟨fd, okF_check_book T F, F.bindsN fun _ _ _ _ _ _ us hl => match us, hl with | [_], _ => rfl, F.kp⟩
/-! written -/
abbrev N_written : List Str := ["book", "tariff", "once", "piece"]
theorem sc_written : FnScope N_written ["book"] (defScope s_written) := ⟨rfl, rfl, rfl, by decide +kernel, rfl, by decide +kernel, by decide +kernel⟩
def g_written (K : PySem.W.Frag) : Env → Res Fl :=
    (sSeq (sDrop (eCall (f_check_book K) (aCons (eVar 0) aNil)))
    (sSeq (sIf (bV (eFn anyD (aCons (eLC [1] (bNm 1) bYes (eOp geD (eFn maxTD (aCons (eVar 1) aNil)) (eOp powD (eC (.int 10)) (eC (.int 60)))) (iL (eVar 0))) aNil))) (sRaise (ga K "BadBook")) sNil)
    (sRet (eM1 joinD (eC (.str " ")) (eLC [2, 3] (bTup (bsCons (bNm 2) (bsCons (bNm 3) bsNil))) bYes (eOp addD (eOp addD (eFn strD (aCons (eVar 2) aNil)) (eC (.str "+"))) (eFn strD (aCons (eVar 3) aNil))) (iL (eVar 0)))))))
def f_written (K : PySem.W.Frag) : List D → Res D := run 4 (g_written K)
theorem okF_written {P : Program} {w : World} {K : PySem.W.Frag} {mg : Str → Option Value} {base : Heap} (T : Top K mg) {fd : FuncData} (F : L2.FunD K "written" "written" (defArgs s_written) (defBody s_written) (defScope s_written) [] [] (ga K "written") fd) : FnOk P w K mg base (L2N.CX P w) 4 (ga K "written") fd ["book"] (spD K 1 (f_written K)) := by
  refine fn_dt (N := N_written) F sc_written (fun cdv A outer s H E G P' hr gd => ?_)
  have nd := sc_written.nd
  have tk := L2N.takes_of (X := cxOf (L2N.CX P w) P w K mg base N_written "written" (defScope s_written) (ga K "written") cdv A outer s H E) rfl rfl rfl rfl
  have pow := passes_of (X := cxOf (L2N.CX P w) P w K mg base N_written "written" (defScope s_written) (ga K "written") cdv A outer s H E) rfl
  exact (sd_cons (sd_drop gd (pd_callH (ok_check_book T) (hr.mono (by decide)) tk (by rfl) T.g_check_book (pad_cons (pd_var 0) pad_nil) (arge_cons arge_nil)))
      (sd_cons (sd_if gd (pt_v (pd_any (by rfl) (by rfl) T.b_any (pad_cons (pd_lc (own := [("tariff", 1)]) (by rfl) nd (id_list (pd_var 0)) (blkOk_by (own := [("tariff", 1)]) (N := N_written) (sc := defScope s_written) (by decide +kernel)) (by decide) (fun _ _ _ _ _ => (gd_name (i := 1) nd)) (fun _ _ _ _ _ => ptsd_nil) (fun _ _ _ _ _ => (pd_ge (pd_maxT hr.units (by rfl) (by rfl) T.b_max (pad_cons (pd_var 1) pad_nil)) (pd_pow pd_int pd_int)))) pad_nil))) (sd_one (sd_raise rfl tk (mk_exc T.x_BadBook T.g_BadBook (by rfl)))) sd_nil)
      (sd_one (sd_ret gd (pd_join pd_str (pd_lc (own := [("once", 2), ("piece", 3)]) (by rfl) nd (id_list (pd_var 0)) (blkOk_by (own := [("once", 2), ("piece", 3)]) (N := N_written) (sc := defScope s_written) (by decide +kernel)) (by decide) (fun _ _ _ _ _ => (gd_tup rfl (gds_cons (gd_name (i := 2) nd) (gds_cons (gd_name (i := 3) nd) gds_nil)) (btn_cons (btn_cons btn_nil)))) (fun _ _ _ _ _ => ptsd_nil) (fun _ _ _ _ _ => (pd_add (pd_add (pd_strI (by rfl) T.b_str (pad_cons (pd_var 2) pad_nil)) pd_str) (pd_strI (by rfl) T.b_str (pad_cons (pd_var 3) pad_nil))))))))))
theorem ok_written {P : Program} {w : World} {K : PySem.W.Frag} {mg : Str → Option Value} {base : Heap} (T : Top K mg) : Held P w K mg base 4 (ga K "written") ["book"] (f_written K) := by
  obtain ⟨fd, F⟩ := T.d_written
  exact ⟨fd, okF_written T F, F.bindsN fun _ _ _ _ _ _ us hl => match us, hl with | [_], _ => rfl, F.kp⟩
/-! number_in -/
abbrev N_number_in : List Str := ["word"]
theorem sc_number_in : FnScope N_number_in ["word"] (defScope s_number_in) := ⟨rfl, rfl, rfl, by decide +kernel, rfl, by decide +kernel, by decide +kernel⟩
def g_number_in (K : PySem.W.Frag) : Env → Res Fl :=
    (sSeq (sIf (bOr (bNot (bV (eChain leD leD (eC (.int 1)) (eFn lenD (aCons (eVar 0) aNil)) (eC (.int 60))))) (bOr (bV (eOp neD (eM1 stripD (eVar 0) (eC (.str "0123456789"))) (eC (.str "")))) (bAnd (bV (eOp eqD (eOp ixD (eVar 0) (eC (.int 0))) (eC (.str "0")))) (bV (eOp neD (eVar 0) (eC (.str "0"))))))) (sRaise (ga K "BadText")) sNil)
    (sRet (eFn intSD (aCons (eVar 0) aNil))))
def f_number_in (K : PySem.W.Frag) : List D → Res D := run 1 (g_number_in K)
theorem okF_number_in {P : Program} {w : World} {K : PySem.W.Frag} {mg : Str → Option Value} {base : Heap} (T : Top K mg) {fd : FuncData} (F : L2.FunD K "number_in" "number_in" (defArgs s_number_in) (defBody s_number_in) (defScope s_number_in) [] [] (ga K "number_in") fd) : FnOk P w K mg base (L2N.CX P w) 1 (ga K "number_in") fd ["word"] (spD K 1 (f_number_in K)) := by
  refine fn_dt (N := N_number_in) F sc_number_in (fun cdv A outer s H E G P' hr gd => ?_)
  have nd := sc_number_in.nd
  have tk := L2N.takes_of (X := cxOf (L2N.CX P w) P w K mg base N_number_in "number_in" (defScope s_number_in) (ga K "number_in") cdv A outer s H E) rfl rfl rfl rfl
  have pow := passes_of (X := cxOf (L2N.CX P w) P w K mg base N_number_in "number_in" (defScope s_number_in) (ga K "number_in") cdv A outer s H E) rfl
  exact (sd_cons (sd_if gd (PW.pt (pwd_or (ptd_not (pt_chEE pd_int (pd_len (by rfl) T.b_len (pad_cons (pd_var 0) pad_nil)) (pd_globI (by rfl) T.k_MOST))) (pwd_or (pt_ne hr.units (pd_strip (pd_var 0) (pd_globS (by rfl) T.k_FIGURES)) pd_str) (pwd_or1 (PW.pt (pwd_and (pt_eq hr.units (pd_sub' (pd_var 0) pd_int) pd_str) (pwd_and1 (pt_ne hr.units (pd_var 0) pd_str)))))))) (sd_one (sd_raise rfl tk (mk_exc T.x_BadText T.g_BadText (by rfl)))) sd_nil)
      (sd_one (sd_ret gd (pd_intS (by rfl) T.b_int (pad_cons (pd_var 0) pad_nil)))))
theorem ok_number_in {P : Program} {w : World} {K : PySem.W.Frag} {mg : Str → Option Value} {base : Heap} (T : Top K mg) : Held P w K mg base 1 (ga K "number_in") ["word"] (f_number_in K) := by
  obtain ⟨fd, F⟩ := T.d_number_in
  exact ⟨fd, okF_number_in T F, F.bindsN fun _ _ _ _ _ _ us hl => match us, hl with | [_], _ => rfl, F.kp⟩
/-! read -/
abbrev N_read : List Str := ["text", "book", "word", "once", "sign", "piece"]
theorem sc_read : FnScope N_read ["text"] (defScope s_read) := ⟨rfl, rfl, rfl, by decide +kernel, rfl, by decide +kernel, by decide +kernel⟩
def g_read (K : PySem.W.Frag) : Env → Res Fo :=
    (soSeq (sIf (bNot (bV (eFn (isiD K (cis K)) (aCons (eVar 0) (aCons (eC (.ty "str")) aNil))))) (sRaise (ga K "BadText")) sNil)
    (soSeq (sAsgO 1 aNil)
    (soSeq (sFor (iL (eM1 splitD (eVar 0) (eC (.str " ")))) (bNm 2) (sSeq (sAsg (eM1 partD (eVar 2) (eC (.str "+"))) (bTup (bsCons (bNm 3) (bsCons (bNm 4) (bsCons (bNm 5) bsNil)))))
    (sApp 1 (eTup (aCons (eCall (f_number_in K) (aCons (eVar 3) aNil)) (aCons (eCall (f_number_in K) (aCons (eVar 5) aNil)) aNil))))))
    (soRet 1))))
def f_read (K : PySem.W.Frag) : List D → Res Ow := runO 6 (g_read K)
theorem okF_read {P : Program} {w : World} {K : PySem.W.Frag} {mg : Str → Option Value} {base : Heap} (T : Top K mg) {fd : FuncData} (F : L2.FunD K "read" "read" (defArgs s_read) (defBody s_read) (defScope s_read) [] [] (ga K "read") fd) : FnOk P w K mg base (L2N.CX P w) 2 (ga K "read") fd ["text"] (spDO K 1 (f_read K)) := by
  refine fn_dtO (N := N_read) F sc_read (fun cdv A outer s H E G P' hr gd => ?_)
  have nd := sc_read.nd
  have tk := L2N.takes_of (X := cxOf (L2N.CX P w) P w K mg base N_read "read" (defScope s_read) (ga K "read") cdv A outer s H E) rfl rfl rfl rfl
  have pow := passes_of (X := cxOf (L2N.CX P w) P w K mg base N_read "read" (defScope s_read) (ga K "read") cdv A outer s H E) rfl
  exact (so_cons (sd_if gd (ptd_not (pt_v (pd_isi T.ci (by rfl) T.b_isinstance (pad_cons (pd_var 0) (pad_cons (pd_bty (by rfl) T.b_str (by decide +kernel)) pad_nil))))) (sd_one (sd_raise rfl tk (mk_exc T.x_BadText T.g_BadText (by rfl)))) sd_nil)
      (so_cons (sd_setO gd (i := 1) nd pad_nil arge_nil.le)
      (so_cons (sd_for gd pow rfl (id_list (pd_split (pd_var 0) pd_str)) (gd_name (i := 2) nd) (fun G gd => (sd_cons (sd_asg gd (pd_partition (pd_var 2) pd_str) (gd_tup rfl (gds_cons (gd_name (i := 3) nd) (gds_cons (gd_name (i := 4) nd) (gds_cons (gd_name (i := 5) nd) gds_nil))) (btn_cons (btn_cons (btn_cons btn_nil)))))
      (sd_one (sd_app gd 1 (pd_tup (pad_cons (pd_callH (ok_number_in T) (hr.mono (by decide)) tk (by rfl) T.g_number_in (pad_cons (pd_var 3) pad_nil) (arge_cons arge_nil)) (pad_cons (pd_callH (ok_number_in T) (hr.mono (by decide)) tk (by rfl) T.g_number_in (pad_cons (pd_var 5) pad_nil) (arge_cons arge_nil)) pad_nil)) (arge_cons (arge_cons arge_nil)).le))))))
      (so_one (so_ret gd 1)))))
theorem ok_read {P : Program} {w : World} {K : PySem.W.Frag} {mg : Str → Option Value} {base : Heap} (T : Top K mg) : HeldO P w K mg base 2 (ga K "read") ["text"] (f_read K) := by
  obtain ⟨fd, F⟩ := T.d_read
  exact ⟨fd, okF_read T F, F.bindsN fun _ _ _ _ _ _ us hl => match us, hl with | [_], _ => rfl, F.kp⟩
theorem okD_read {P : Program} {w : World} {K : PySem.W.Frag} {mg : Str → Option Value} {base : Heap} (T : Top K mg) : Held P w K mg base 2 (ga K "read") ["text"] (deOw (f_read K)) := (ok_read T).held
/-! _law_book -/
abbrev N__law_book : List Str := ["_law_script", "_law_code", "_law_size", "_law_rests", "_law_cell", "_law_found", "_law_rest", "_law_many", "_law_k"]
theorem sc__law_book : FnScope N__law_book ["_law_script"] (defScope s__law_book) := ⟨rfl, rfl, rfl, by decide +kernel, rfl, by decide +kernel, by decide +kernel⟩
def g__law_book (K : PySem.W.Frag) : Env → Res Fl :=
    (sSeq (sAsg (eFn sumD (aCons (eVar 0) aNil)) (bNm 1))
    (sSeq (sAsg (eOp ixD (eTup (aCons (eC (.int 9)) (aCons (eC (.int 60)) (aCons (eOp powD (eC (.int 10)) (eC (.int 30))) (aCons (eC (.int 9)) aNil))))) (eOp modD (eOp divD (eVar 1) (eC (.int 7))) (eC (.int 4)))) (bNm 2))
    (sSeq (sAsg (eLC [4] (bNm 4) bYes (eOp addD (eOp divD (eVar 4) (eVar 2)) (eOp mulD (eOp divD (eVar 4) (eC (.int 7))) (eOp subD (eC (.int 1)) (eOp mulD (eOp modD (eVar 4) (eC (.int 2))) (eC (.int 2)))))) (iL (eVar 0))) (bNm 3))
    (sSeq (sAsg (eLC [4, 6] (bTup (bsCons (bNm 4) (bsCons (bNm 6) bsNil))) bYes (eTup (aCons (eOp modD (eVar 4) (eVar 2)) (aCons (eOp modD (eVar 6) (eVar 2)) aNil))) (iZ (aCons (eVar 0) (aCons (eVar 3) aNil)))) (bNm 5))
    (sSeq (sIf (bV (eOp eqD (eOp modD (eOp divD (eVar 1) (eC (.int 4))) (eC (.int 11))) (eC (.int 5)))) (sSeq (sAsg (eOp addD (eC (.int 1)) (eOp modD (eOp divD (eVar 1) (eC (.int 44))) (eC (.int 24)))) (bNm 7))
    (sAsg (eOp addD (eVar 5) (eLC [8] (bNm 8) bYes (eTup (aCons (eOp addD (eOp mulD (eOp divD (eOp mulD (eVar 8) (eOp addD (eVar 8) (eC (.int 1)))) (eC (.int 2))) (eOp addD (eC (.int 1)) (eOp modD (eVar 1) (eC (.int 5))))) (eOp modD (eOp divD (eVar 1) (eC (.int 7))) (eC (.int 9)))) (aCons (eOp subD (eVar 7) (eVar 8)) aNil))) (iR1 (aCons (eVar 7) aNil)))) (bNm 5))) sNil)
    (sRet (eIf (bV (eOp neD (eVar 5) (eLst aNil))) (eVar 5) (eLst (aCons (eTup (aCons (eOp modD (eVar 1) (eC (.int 5))) (aCons (eC (.int 3)) aNil))) aNil)))))))))
def f__law_book (K : PySem.W.Frag) : List D → Res D := run 9 (g__law_book K)
theorem okF__law_book {P : Program} {w : World} {K : PySem.W.Frag} {mg : Str → Option Value} {base : Heap} (T : Top K mg) {fd : FuncData} (F : L2.FunD K "_law_book" "_law_book" (defArgs s__law_book) (defBody s__law_book) (defScope s__law_book) [] [] (ga K "_law_book") fd) : FnOk P w K mg base (L2N.CX P w) 1 (ga K "_law_book") fd ["_law_script"] (spD K 1 (f__law_book K)) := by
  refine fn_dt (N := N__law_book) F sc__law_book (fun cdv A outer s H E G P' hr gd => ?_)
  have nd := sc__law_book.nd
  have tk := L2N.takes_of (X := cxOf (L2N.CX P w) P w K mg base N__law_book "_law_book" (defScope s__law_book) (ga K "_law_book") cdv A outer s H E) rfl rfl rfl rfl
  have pow := passes_of (X := cxOf (L2N.CX P w) P w K mg base N__law_book "_law_book" (defScope s__law_book) (ga K "_law_book") cdv A outer s H E) rfl
  exact (sd_cons (sd_set gd (i := 1) nd (pd_sum (by rfl) (by rfl) T.b_sum (pad_cons (pd_var 0) pad_nil)))
      (sd_cons (sd_set gd (i := 2) nd (pd_sub' (pd_tup (pad_cons pd_int (pad_cons pd_int (pad_cons (pd_pow pd_int pd_int) (pad_cons pd_int pad_nil)))) (arge_cons (arge_cons (arge_cons (arge_cons arge_nil)))).le) (pd_mod (pd_div (pd_var 1) pd_int) pd_int)))
      (sd_cons (sd_setLc gd (i := 3) (own := [("_law_cell", 4)]) (by rfl) nd (id_list (pd_var 0)) (blkOk_by (own := [("_law_cell", 4)]) (N := N__law_book) (sc := defScope s__law_book) (by decide +kernel)) (by decide) (fun _ _ _ _ _ => (gd_name (i := 4) nd)) (fun _ _ _ _ _ => ptsd_nil) (fun _ _ _ _ _ => (pd_add (pd_div (pd_var 4) (pd_var 2)) (pd_mul (pd_div (pd_var 4) pd_int) (pd_sub pd_int (pd_mul (pd_mod (pd_var 4) pd_int) pd_int))))))
      (sd_cons (sd_setLc gd (i := 5) (own := [("_law_cell", 4), ("_law_rest", 6)]) (by rfl) nd (id_zip (by rfl) T.b_zip (pad_cons (pd_var 0) (pad_cons (pd_var 3) pad_nil))) (blkOk_by (own := [("_law_cell", 4), ("_law_rest", 6)]) (N := N__law_book) (sc := defScope s__law_book) (by decide +kernel)) (by decide) (fun _ _ _ _ _ => (gd_tup rfl (gds_cons (gd_name (i := 4) nd) (gds_cons (gd_name (i := 6) nd) gds_nil)) (btn_cons (btn_cons btn_nil)))) (fun _ _ _ _ _ => ptsd_nil) (fun _ _ _ _ _ => (pd_tup (pad_cons (pd_mod (pd_var 4) (pd_var 2)) (pad_cons (pd_mod (pd_var 6) (pd_var 2)) pad_nil)) (arge_cons (arge_cons arge_nil)).le)))
      (sd_cons (sd_if gd (pt_eq hr.units (pd_mod (pd_div (pd_var 1) pd_int) pd_int) pd_int) (sd_cons (sd_set gd (i := 7) nd (pd_add pd_int (pd_mod (pd_div (pd_var 1) pd_int) pd_int)))
      (sd_one (sd_set gd (i := 5) nd (pd_add (pd_var 5) (pd_lc (own := [("_law_k", 8)]) (by rfl) nd (id_range1 (by rfl) T.b_range (pad_cons (pd_var 7) pad_nil)) (blkOk_by (own := [("_law_k", 8)]) (N := N__law_book) (sc := defScope s__law_book) (by decide +kernel)) (by decide) (fun _ _ _ _ _ => (gd_name (i := 8) nd)) (fun _ _ _ _ _ => ptsd_nil) (fun _ _ _ _ _ => (pd_tup (pad_cons (pd_add (pd_mul (pd_div (pd_mul (pd_var 8) (pd_add (pd_var 8) pd_int)) pd_int) (pd_add pd_int (pd_mod (pd_var 1) pd_int))) (pd_mod (pd_div (pd_var 1) pd_int) pd_int)) (pad_cons (pd_sub (pd_var 7) (pd_var 8)) pad_nil)) (arge_cons (arge_cons arge_nil)).le))))))) sd_nil)
      (sd_one (sd_ret gd (pd_if (pt_ne hr.units (pd_var 5) (pd_lst pad_nil arge_nil.le)) (pd_var 5) (pd_lst (pad_cons (pd_tup (pad_cons (pd_mod (pd_var 1) pd_int) (pad_cons pd_int pad_nil)) (arge_cons (arge_cons arge_nil)).le) pad_nil) (arge_cons arge_nil).le)))))))))
theorem ok__law_book {P : Program} {w : World} {K : PySem.W.Frag} {mg : Str → Option Value} {base : Heap} (T : Top K mg) : Held P w K mg base 1 (ga K "_law_book") ["_law_script"] (f__law_book K) := by
  obtain ⟨fd, F⟩ := T.d__law_book
  exact ⟨fd, okF__law_book T F, F.bindsN fun _ _ _ _ _ _ us hl => match us, hl with | [_], _ => rfl, F.kp⟩
/-! _law_number -/
abbrev N__law_number : List Str := ["_law_word", "_law_sign"]
theorem sc__law_number : FnScope N__law_number ["_law_word"] (defScope s__law_number) := ⟨rfl, rfl, rfl, by decide +kernel, rfl, by decide +kernel, by decide +kernel⟩
def g__law_number (K : PySem.W.Frag) : Env → Res Fl :=
    (sSeq (sIf (bOr (bNot (bV (eChain ltD ltD (eC (.int 0)) (eFn lenD (aCons (eVar 0) aNil)) (eC (.int 61))))) (bNot (bV (eFn allD (aCons (eLC [1] (bNm 1) bYes (eOp inSD (eVar 1) (eC (.str "0123456789"))) (iS (eVar 0))) aNil))))) (sRet (eC .non)) sNil)
    (sRet (eIf (bAnd (bV (eOp eqD (eOp ixD (eVar 0) (eC (.int 0))) (eC (.str "0")))) (bV (eOp neD (eVar 0) (eC (.str "0"))))) (eC .non) (eFn intSD (aCons (eVar 0) aNil)))))
def f__law_number (K : PySem.W.Frag) : List D → Res D := run 2 (g__law_number K)
theorem okF__law_number {P : Program} {w : World} {K : PySem.W.Frag} {mg : Str → Option Value} {base : Heap} (T : Top K mg) {fd : FuncData} (F : L2.FunD K "_law_number" "_law_number" (defArgs s__law_number) (defBody s__law_number) (defScope s__law_number) [] [] (ga K "_law_number") fd) : FnOk P w K mg base (L2N.CX P w) 1 (ga K "_law_number") fd ["_law_word"] (spD K 1 (f__law_number K)) := by
  refine fn_dt (N := N__law_number) F sc__law_number (fun cdv A outer s H E G P' hr gd => ?_)
  have nd := sc__law_number.nd
  have tk := L2N.takes_of (X := cxOf (L2N.CX P w) P w K mg base N__law_number "_law_number" (defScope s__law_number) (ga K "_law_number") cdv A outer s H E) rfl rfl rfl rfl
  have pow := passes_of (X := cxOf (L2N.CX P w) P w K mg base N__law_number "_law_number" (defScope s__law_number) (ga K "_law_number") cdv A outer s H E) rfl
  exact (sd_cons (sd_if gd (PW.pt (pwd_or (ptd_not (pt_chTT pd_int (pd_len (by rfl) T.b_len (pad_cons (pd_var 0) pad_nil)) pd_int)) (pwd_or1 (ptd_not (pt_v (pd_all (by rfl) (by rfl) T.b_all (pad_cons (pd_lc (own := [("_law_sign", 1)]) (by rfl) nd (id_str (pd_var 0)) (blkOk_by (own := [("_law_sign", 1)]) (N := N__law_number) (sc := defScope s__law_number) (by decide +kernel)) (by decide) (fun _ _ _ _ _ => (gd_name (i := 1) nd)) (fun _ _ _ _ _ => ptsd_nil) (fun _ _ _ _ _ => (pd_inS (pd_var 1) pd_str))) pad_nil))))))) (sd_one (sd_ret gd pd_non)) sd_nil)
      (sd_one (sd_ret gd (pd_if (PW.pt (pwd_and (pt_eq hr.units (pd_sub' (pd_var 0) pd_int) pd_str) (pwd_and1 (pt_ne hr.units (pd_var 0) pd_str)))) pd_non (pd_intS (by rfl) T.b_int (pad_cons (pd_var 0) pad_nil))))))
theorem ok__law_number {P : Program} {w : World} {K : PySem.W.Frag} {mg : Str → Option Value} {base : Heap} (T : Top K mg) : Held P w K mg base 1 (ga K "_law_number") ["_law_word"] (f__law_number K) := by
  obtain ⟨fd, F⟩ := T.d__law_number
  exact ⟨fd, okF__law_number T F, F.bindsN fun _ _ _ _ _ _ us hl => match us, hl with | [_], _ => rfl, F.kp⟩
/-! _law_in -/
abbrev N__law_in : List Str := ["_law_text", "_law_book_here", "_law_word", "_law_parts", "_law_part"]
theorem sc__law_in : FnScope N__law_in ["_law_text"] (defScope s__law_in) := ⟨rfl, rfl, rfl, by decide +kernel, rfl, by decide +kernel, by decide +kernel⟩
def g__law_in (K : PySem.W.Frag) : Env → Res Fl :=
    (sSeq (sAsgO 1 aNil)
    (sSeq (sFor (iL (eM1 splitD (eVar 0) (eC (.str " ")))) (bNm 2) (sSeq (sAsg (eM1 splitD (eVar 2) (eC (.str "+"))) (bNm 3))
    (sSeq (sIf (bOr (bV (eOp neD (eFn lenD (aCons (eVar 3) aNil)) (eC (.int 2)))) (bV (eOp inD (eC .non) (eLC [4] (bNm 4) bYes (eCall (f__law_number K) (aCons (eVar 4) aNil)) (iL (eVar 3)))))) (sRet (eC .non)) sNil)
    (sApp 1 (eTup (aCons (eCall (f__law_number K) (aCons (eOp ixD (eVar 3) (eC (.int 0))) aNil)) (aCons (eCall (f__law_number K) (aCons (eOp ixD (eVar 3) (eC (.int 1))) aNil)) aNil)))))))
    (fun env => (sRet (eVar 1)) (frz 1 env))))
def f__law_in (K : PySem.W.Frag) : List D → Res D := run 5 (g__law_in K)
theorem okF__law_in {P : Program} {w : World} {K : PySem.W.Frag} {mg : Str → Option Value} {base : Heap} (T : Top K mg) {fd : FuncData} (F : L2.FunD K "_law_in" "_law_in" (defArgs s__law_in) (defBody s__law_in) (defScope s__law_in) [] [] (ga K "_law_in") fd) : FnOk P w K mg base (L2N.CX P w) 2 (ga K "_law_in") fd ["_law_text"] (spD K 1 (f__law_in K)) := by
  refine fn_dt (N := N__law_in) F sc__law_in (fun cdv A outer s H E G P' hr gd => ?_)
  have nd := sc__law_in.nd
  have tk := L2N.takes_of (X := cxOf (L2N.CX P w) P w K mg base N__law_in "_law_in" (defScope s__law_in) (ga K "_law_in") cdv A outer s H E) rfl rfl rfl rfl
  have pow := passes_of (X := cxOf (L2N.CX P w) P w K mg base N__law_in "_law_in" (defScope s__law_in) (ga K "_law_in") cdv A outer s H E) rfl
  exact (sd_cons (sd_setO gd (i := 1) nd pad_nil arge_nil.le)
      (sd_cons (sd_for gd pow rfl (id_list (pd_split (pd_var 0) pd_str)) (gd_name (i := 2) nd) (fun G gd => (sd_cons (sd_set gd (i := 3) nd (pd_split (pd_var 2) pd_str))
      (sd_cons (sd_if gd (PW.pt (pwd_or (pt_ne hr.units (pd_len (by rfl) T.b_len (pad_cons (pd_var 3) pad_nil)) pd_int) (pwd_or1 (pt_in pd_non (pd_lc (own := [("_law_part", 4)]) (by rfl) nd (id_list (pd_var 3)) (blkOk_by (own := [("_law_part", 4)]) (N := N__law_in) (sc := defScope s__law_in) (by decide +kernel)) (by decide) (fun _ _ _ _ _ => (gd_name (i := 4) nd)) (fun _ _ _ _ _ => ptsd_nil) (fun _ _ _ _ _ => (pd_callH (ok__law_number T) (hr.mono (by decide)) takes0N (by rfl) T.g__law_number (pad_cons (pd_var 4) pad_nil) (arge_cons arge_nil)))))))) (sd_one (sd_ret gd pd_non)) sd_nil)
      (sd_one (sd_app gd 1 (pd_tup (pad_cons (pd_callH (ok__law_number T) (hr.mono (by decide)) tk (by rfl) T.g__law_number (pad_cons (pd_sub' (pd_var 3) pd_int) pad_nil) (arge_cons arge_nil)) (pad_cons (pd_callH (ok__law_number T) (hr.mono (by decide)) tk (by rfl) T.g__law_number (pad_cons (pd_sub' (pd_var 3) pd_int) pad_nil) (arge_cons arge_nil)) pad_nil)) (arge_cons (arge_cons arge_nil)).le)))))))
      (sd_frz gd 1 (sd_one (sd_ret gd (pd_var 1))))))
theorem ok__law_in {P : Program} {w : World} {K : PySem.W.Frag} {mg : Str → Option Value} {base : Heap} (T : Top K mg) : Held P w K mg base 2 (ga K "_law_in") ["_law_text"] (f__law_in K) := by
  obtain ⟨fd, F⟩ := T.d__law_in
  exact ⟨fd, okF__law_in T F, F.bindsN fun _ _ _ _ _ _ us hl => match us, hl with | [_], _ => rfl, F.kp⟩
/-! _law_refused -/
abbrev N__law_refused : List Str := ["_law_ask", "_law_thing", "_law_due", "error", "_law_found"]
theorem sc__law_refused : FnScope N__law_refused ["_law_ask", "_law_thing", "_law_due"] (defScope s__law_refused) := ⟨rfl, rfl, rfl, by decide +kernel, rfl, by decide +kernel, by decide +kernel⟩
def g__law_refused (K : PySem.W.Frag) : Env → Res Fl :=
    (sSeq (sTryE 3 (eAlt (eCallL 0 (ga K "read") (deOw (f_read K)) (aCons (eVar 1) aNil)) (eCallL 0 (ga K "written") (f_written K) (aCons (eVar 1) aNil))) (excs K) (fun a C => (sSeq (sAsg (eLst (aCons (eFn (isED K a C) (aCons (eVar 3) (aCons (eC (.cls (ga K "BadBook"))) aNil))) (aCons (eFn (isED K a C) (aCons (eVar 3) (aCons (eC (.cls (ga K "BadText"))) aNil))) (aCons (eFn (isED K a C) (aCons (eVar 3) (aCons (eC (.cls (ga K "BadPlace"))) aNil))) aNil)))) (bNm 4))
    (sSeq (sAsg (eOp addD (eVar 4) (eLst (aCons (eFn (isED K a C) (aCons (eVar 3) (aCons (eC (.cls (ga K "BadAmount"))) aNil))) (aCons (eFn (isED K a C) (aCons (eVar 3) (aCons (eC (.cls (ga K "BadMoney"))) aNil))) aNil)))) (bNm 4))
    (sRet (eOp eqD (eVar 4) (eLst (aCons (eOp eqD (eVar 2) (eC (.int 0))) (aCons (eOp eqD (eVar 2) (eC (.int 1))) (aCons (eC (.bl false)) (aCons (eC (.bl false)) (aCons (eC (.bl false)) aNil))))))))))))
    (sRet (eC (.bl false))))
def f__law_refused (K : PySem.W.Frag) : List D → Res D := run 5 (g__law_refused K)
theorem okF__law_refused {P : Program} {w : World} {K : PySem.W.Frag} {mg : Str → Option Value} {base : Heap} (T : Top K mg) {fd : FuncData} (F : L2.FunD K "_law_refused" "_law_refused" (defArgs s__law_refused) (defBody s__law_refused) (defScope s__law_refused) [] [] (ga K "_law_refused") fd) : FnOk P w K mg base (L2N.CX P w) 5 (ga K "_law_refused") fd ["_law_ask", "_law_thing", "_law_due"] (spD K 3 (f__law_refused K)) := by
  refine fn_dt (N := N__law_refused) F sc__law_refused (fun cdv A outer s H E G P' hr gd => ?_)
  have nd := sc__law_refused.nd
  have tk := L2N.takes_of (X := cxOf (L2N.CX P w) P w K mg base N__law_refused "_law_refused" (defScope s__law_refused) (ga K "_law_refused") cdv A outer s H E) rfl rfl rfl rfl
  have pow := passes_of (X := cxOf (L2N.CX P w) P w K mg base N__law_refused "_law_refused" (defScope s__law_refused) (ga K "_law_refused") cdv A outer s H E) rfl
  exact (sd_cons (sd_tryE gd (i := 3) (x := "TariffError") (n := "error") rfl rfl nd rfl rfl ⟨(by rfl), (by decide), .inl T.g_TariffError⟩ tk T.xs (fun W pn xe tk => (pd_alt (pd_callL (okD_read T) (hr.mono (by decide)) tk 0 (pad_cons (pd_var 1) pad_nil) (arge_cons arge_nil)) (pd_callL (ok_written T) (hr.mono (by decide)) tk 0 (pad_cons (pd_var 1) pad_nil) (arge_cons arge_nil)))) (fun a oe C pn ec hz hf => (sd_cons (sd_set gd (i := 4) nd (pd_lst (pad_cons (pd_isE ec hz.zc hf (by rfl) T.b_isinstance (pad_cons (pd_var 3) (pad_cons (pd_cls (by rfl) T.g_BadBook) pad_nil))) (pad_cons (pd_isE ec hz.zc hf (by rfl) T.b_isinstance (pad_cons (pd_var 3) (pad_cons (pd_cls (by rfl) T.g_BadText) pad_nil))) (pad_cons (pd_isE ec hz.zc hf (by rfl) T.b_isinstance (pad_cons (pd_var 3) (pad_cons (pd_cls (by rfl) T.g_BadPlace) pad_nil))) pad_nil))) (arge_cons (arge_cons (arge_cons arge_nil))).le))
      (sd_cons (sd_set gd (i := 4) nd (pd_add (pd_var 4) (pd_lst (pad_cons (pd_isE ec hz.zc hf (by rfl) T.b_isinstance (pad_cons (pd_var 3) (pad_cons (pd_cls (by rfl) T.g_BadAmount) pad_nil))) (pad_cons (pd_isE ec hz.zc hf (by rfl) T.b_isinstance (pad_cons (pd_var 3) (pad_cons (pd_cls (by rfl) T.g_BadMoney) pad_nil))) pad_nil)) (arge_cons (arge_cons arge_nil)).le)))
      (sd_one (sd_ret gd (pd_eq hr.units (pd_var 4) (pd_lst (pad_cons (pd_eq hr.units (pd_var 2) pd_int) (pad_cons (pd_eq hr.units (pd_var 2) pd_int) (pad_cons pd_bl (pad_cons pd_bl (pad_cons pd_bl pad_nil))))) (arge_cons (arge_cons (arge_cons (arge_cons (arge_cons arge_nil))))).le))))))))
      (sd_one (sd_ret gd pd_bl)))
theorem ok__law_refused {P : Program} {w : World} {K : PySem.W.Frag} {mg : Str → Option Value} {base : Heap} (T : Top K mg) : Held P w K mg base 5 (ga K "_law_refused") ["_law_ask", "_law_thing", "_law_due"] (f__law_refused K) := by
  obtain ⟨fd, F⟩ := T.d__law_refused
  exact ⟨fd, okF__law_refused T F, F.bindsN fun _ _ _ _ _ _ us hl => match us, hl with | [_, _, _], _ => rfl, F.kp⟩
/-! _law_right -/
abbrev N__law_right : List Str := ["_law_text", "_law_due", "_law_found", "_law_tariff"]
theorem sc__law_right : FnScope N__law_right ["_law_text"] (defScope s__law_right) := ⟨rfl, rfl, rfl, by decide +kernel, rfl, by decide +kernel, by decide +kernel⟩
def g__law_right (K : PySem.W.Frag) : Env → Res Fl :=
    (sSeq (sAsg (eCall (f__law_in K) (aCons (eVar 0) aNil)) (bNm 1))
    (sSeq (sIf (bV (eOp isD (eVar 1) (eC .non))) (sRet (eCall (f__law_refused K) (aCons (eC (.cls (ga K "read"))) (aCons (eVar 0) (aCons (eC (.int 1)) aNil))))) sNil)
    (sSeq (sAsgOwn 2 (f_read K) (aCons (eVar 0) aNil))
    (sSeq (sIf (bView (bOr (bNot (bV (eFn (isiD K (cis K)) (aCons (eVar 2) (aCons (eC (.ty "list")) aNil))))) (bOr (bV (eOp neD (eVar 2) (eVar 1))) (bV (eOp neD (eCall (f_written K) (aCons (eVar 2) aNil)) (eVar 0)))))) (sRet (eC (.bl false))) sNil)
    (sSeq (sIf (bView (bNot (bV (eFn allD (aCons (eLC [3] (bNm 3) bYes (eFn (isiD K (cis K)) (aCons (eVar 3) (aCons (eC (.ty "tuple")) aNil))) (iL (eVar 2))) aNil))))) (sRet (eC (.bl false))) sNil)
    (sSeq (sApp 2 (eTup (aCons (eC (.int 0)) (aCons (eC (.int 0)) aNil))))
    (sRet (eOp eqD (eCall (deOw (f_read K)) (aCons (eVar 0) aNil)) (eVar 1)))))))))
def f__law_right (K : PySem.W.Frag) : List D → Res D := run 4 (g__law_right K)
theorem okF__law_right {P : Program} {w : World} {K : PySem.W.Frag} {mg : Str → Option Value} {base : Heap} (T : Top K mg) {fd : FuncData} (F : L2.FunD K "_law_right" "_law_right" (defArgs s__law_right) (defBody s__law_right) (defScope s__law_right) [] [] (ga K "_law_right") fd) : FnOk P w K mg base (L2N.CX P w) 6 (ga K "_law_right") fd ["_law_text"] (spD K 1 (f__law_right K)) := by
  refine fn_dt (N := N__law_right) F sc__law_right (fun cdv A outer s H E G P' hr gd => ?_)
  have nd := sc__law_right.nd
  have tk := L2N.takes_of (X := cxOf (L2N.CX P w) P w K mg base N__law_right "_law_right" (defScope s__law_right) (ga K "_law_right") cdv A outer s H E) rfl rfl rfl rfl
  have pow := passes_of (X := cxOf (L2N.CX P w) P w K mg base N__law_right "_law_right" (defScope s__law_right) (ga K "_law_right") cdv A outer s H E) rfl
  exact (sd_cons (sd_set gd (i := 1) nd (pd_callH (ok__law_in T) (hr.mono (by decide)) tk (by rfl) T.g__law_in (pad_cons (pd_var 0) pad_nil) (arge_cons arge_nil)))
      (sd_cons (sd_if gd (pt_is (pd_var 1) pd_non) (sd_one (sd_ret gd (pd_callH (ok__law_refused T) (hr.mono (by decide)) tk (by rfl) T.g__law_refused (pad_cons (pd_cls (by rfl) T.g_read) (pad_cons (pd_var 0) (pad_cons pd_int pad_nil))) (arge_cons (arge_cons (arge_cons arge_nil)))))) sd_nil)
      (sd_cons (sd_setOwn gd (i := 2) (ok_read T) (hr.mono (by decide)) tk (by rfl) T.g_read nd (pad_cons (pd_var 0) pad_nil) (arge_cons arge_nil))
      (sd_cons (sd_if gd (pt_view (PW.pt (pwd_or (ptd_not (pt_v (pd_isi T.ci (by rfl) T.b_isinstance (pad_cons (pd_var 2) (pad_cons (pd_bty (by rfl) T.b_list (by decide +kernel)) pad_nil))))) (pwd_or (pt_ne hr.units (pd_var 2) (pd_var 1)) (pwd_or1 (pt_ne hr.units (pd_callH (ok_written T) (hr.mono (by decide)) tk (by rfl) T.g_written (pad_cons (pd_var 2) pad_nil) (arge_cons arge_nil)) (pd_var 0))))))) (sd_one (sd_ret gd pd_bl)) sd_nil)
      (sd_cons (sd_if gd (pt_view (ptd_not (pt_v (pd_all (by rfl) (by rfl) T.b_all (pad_cons (pd_lc (own := [("_law_tariff", 3)]) (by rfl) nd (id_list (pd_var 2)) (blkOk_by (own := [("_law_tariff", 3)]) (N := N__law_right) (sc := defScope s__law_right) (by decide +kernel)) (by decide) (fun _ _ _ _ _ => (gd_name (i := 3) nd)) (fun _ _ _ _ _ => ptsd_nil) (fun _ _ _ _ _ => (pd_isi T.ci (by rfl) T.b_isinstance (pad_cons (pd_var 3) (pad_cons (pd_bty (by rfl) T.b_tuple (by decide +kernel)) pad_nil))))) pad_nil))))) (sd_one (sd_ret gd pd_bl)) sd_nil)
      (sd_cons (sd_app gd 2 (pd_tup (pad_cons pd_int (pad_cons pd_int pad_nil)) (arge_cons (arge_cons arge_nil)).le))
      (sd_one (sd_ret gd (pd_eq hr.units (pd_callH (okD_read T) (hr.mono (by decide)) tk (by rfl) T.g_read (pad_cons (pd_var 0) pad_nil) (arge_cons arge_nil)) (pd_var 1))))))))))
theorem ok__law_right {P : Program} {w : World} {K : PySem.W.Frag} {mg : Str → Option Value} {base : Heap} (T : Top K mg) : Held P w K mg base 6 (ga K "_law_right") ["_law_text"] (f__law_right K) := by
  obtain ⟨fd, F⟩ := T.d__law_right
  exact ⟨fd, okF__law_right T F, F.bindsN fun _ _ _ _ _ _ us hl => match us, hl with | [_], _ => rfl, F.kp⟩
/-! _law_few -/
abbrev N__law_few : List Str := ["_law_some"]
theorem sc__law_few : FnScope N__law_few [] (defScope s__law_few) := ⟨rfl, rfl, rfl, by decide +kernel, rfl, by decide +kernel, by decide +kernel⟩
def g__law_few (K : PySem.W.Frag) : Env → Res Fl :=
    (sSeq (sAsg (eLst (aCons (eC (.str "")) (aCons (eC (.str " ")) (aCons (eC (.str "0+0")) (aCons (eC (.str "1+2 1+2")) (aCons (eC (.str "01+2")) (aCons (eC (.str "1+02")) (aCons (eC (.str "00+1")) (aCons (eC (.str "1 + 2")) (aCons (eC (.str "1+ 2")) (aCons (eC (.str "1+2 ")) (aCons (eC (.str " 1+2")) (aCons (eC (.str "1+2  3+4")) (aCons (eC (.str "1-2")) aNil)))))))))))))) (bNm 0))
    (sSeq (sAsg (eOp addD (eVar 0) (eLst (aCons (eC (.str "1++2")) (aCons (eC (.str "+1")) (aCons (eC (.str "1+")) (aCons (eC (.str "+")) (aCons (eC (.str "1")) (aCons (eC (.str "1+2+3")) (aCons (eC (.str "-1+2")) (aCons (eC (.str "1+-2")) (aCons (eC (.str "1_0+2")) (aCons (eC (.str "a+1")) (aCons (eC (.str "1.0+2")) (aCons (eC (.str "1+2,3+4")) aNil)))))))))))))) (bNm 0))
    (sSeq (sAsg (eOp addD (eVar 0) (eLst (aCons (eC (.str "1+2\n")) (aCons (eC (.str "1+2\t3+4")) aNil)))) (bNm 0))
    (sSeq (sAsg (eOp addD (eVar 0) (eLst (aCons (eOp addD (eOp mulSD (eC (.str "9")) (eC (.int 60))) (eC (.str "+1"))) (aCons (eOp addD (eOp mulSD (eC (.str "9")) (eC (.int 61))) (eC (.str "+1"))) (aCons (eOp addD (eC (.str "1+")) (eOp mulSD (eC (.str "9")) (eC (.int 60)))) (aCons (eOp addD (eC (.str "1+")) (eOp mulSD (eC (.str "9")) (eC (.int 61)))) (aCons (eOp addD (eOp mulSD (eC (.str "1")) (eC (.int 4000))) (eC (.str "+1"))) aNil))))))) (bNm 0))
    (sRet (eOp addD (eVar 0) (eLst (aCons (eC (.str "0x1+2")) (aCons (eC (.str "1+2;3+4")) (aCons (eC (.str "5+0 0+5")) aNil))))))))))
def f__law_few (K : PySem.W.Frag) : List D → Res D := run 1 (g__law_few K)
theorem okF__law_few {P : Program} {w : World} {K : PySem.W.Frag} {mg : Str → Option Value} {base : Heap} (T : Top K mg) {fd : FuncData} (F : L2.FunD K "_law_few" "_law_few" (defArgs s__law_few) (defBody s__law_few) (defScope s__law_few) [] [] (ga K "_law_few") fd) : FnOk P w K mg base (L2N.CX P w) 1 (ga K "_law_few") fd [] (spD K 0 (f__law_few K)) := by
  refine fn_dt (N := N__law_few) F sc__law_few (fun cdv A outer s H E G P' hr gd => ?_)
  have nd := sc__law_few.nd
  have tk := L2N.takes_of (X := cxOf (L2N.CX P w) P w K mg base N__law_few "_law_few" (defScope s__law_few) (ga K "_law_few") cdv A outer s H E) rfl rfl rfl rfl
  have pow := passes_of (X := cxOf (L2N.CX P w) P w K mg base N__law_few "_law_few" (defScope s__law_few) (ga K "_law_few") cdv A outer s H E) rfl
  exact (sd_cons (sd_set gd (i := 0) nd (pd_lst (pad_cons pd_str (pad_cons pd_str (pad_cons pd_str (pad_cons pd_str (pad_cons pd_str (pad_cons pd_str (pad_cons pd_str (pad_cons pd_str (pad_cons pd_str (pad_cons pd_str (pad_cons pd_str (pad_cons pd_str (pad_cons pd_str pad_nil))))))))))))) (arge_cons (arge_cons (arge_cons (arge_cons (arge_cons (arge_cons (arge_cons (arge_cons (arge_cons (arge_cons (arge_cons (arge_cons (arge_cons arge_nil))))))))))))).le))
      (sd_cons (sd_set gd (i := 0) nd (pd_add (pd_var 0) (pd_lst (pad_cons pd_str (pad_cons pd_str (pad_cons pd_str (pad_cons pd_str (pad_cons pd_str (pad_cons pd_str (pad_cons pd_str (pad_cons pd_str (pad_cons pd_str (pad_cons pd_str (pad_cons pd_str (pad_cons pd_str pad_nil)))))))))))) (arge_cons (arge_cons (arge_cons (arge_cons (arge_cons (arge_cons (arge_cons (arge_cons (arge_cons (arge_cons (arge_cons (arge_cons arge_nil)))))))))))).le)))
      (sd_cons (sd_set gd (i := 0) nd (pd_add (pd_var 0) (pd_lst (pad_cons pd_str (pad_cons pd_str pad_nil)) (arge_cons (arge_cons arge_nil)).le)))
      (sd_cons (sd_set gd (i := 0) nd (pd_add (pd_var 0) (pd_lst (pad_cons (pd_add (pd_mulS pd_str pd_int) pd_str) (pad_cons (pd_add (pd_mulS pd_str pd_int) pd_str) (pad_cons (pd_add pd_str (pd_mulS pd_str pd_int)) (pad_cons (pd_add pd_str (pd_mulS pd_str pd_int)) (pad_cons (pd_add (pd_mulS pd_str pd_int) pd_str) pad_nil))))) (arge_cons (arge_cons (arge_cons (arge_cons (arge_cons arge_nil))))).le)))
      (sd_one (sd_ret gd (pd_add (pd_var 0) (pd_lst (pad_cons pd_str (pad_cons pd_str (pad_cons pd_str pad_nil))) (arge_cons (arge_cons (arge_cons arge_nil))).le))))))))
theorem ok__law_few {P : Program} {w : World} {K : PySem.W.Frag} {mg : Str → Option Value} {base : Heap} (T : Top K mg) : Held P w K mg base 1 (ga K "_law_few") [] (f__law_few K) := by
  obtain ⟨fd, F⟩ := T.d__law_few
  exact ⟨fd, okF__law_few T F, F.bindsN fun _ _ _ _ _ _ us hl => match us, hl with | [], _ => rfl, F.kp⟩
/-! law -/
abbrev N_law : List Str := ["_law_script", "_law_book_here", "_law_text", "_law_once", "_law_piece", "_law_handed", "_law_cell", "_law_at", "_law_sign", "_law_other", "_law_great", "_law_tariffs", "_law_thing"]
theorem sc_law : FnScope N_law ["_law_script"] (defScope s_law) := ⟨rfl, rfl, rfl, by decide +kernel, rfl, by decide +kernel, by decide +kernel⟩
def g_law (K : PySem.W.Frag) : Env → Res Fl :=
    (sSeq (sAsg (eCall (f__law_book K) (aCons (eVar 0) aNil)) (bNm 1))
    (sSeq (sAsg (eM1 joinD (eC (.str " ")) (eLC [3, 4] (bTup (bsCons (bNm 3) (bsCons (bNm 4) bsNil))) bYes (eOp addD (eOp addD (eFn strD (aCons (eVar 3) aNil)) (eC (.str "+"))) (eFn strD (aCons (eVar 4) aNil))) (iL (eVar 1)))) (bNm 2))
    (sSeq (sAsg (eFn listD (aCons (eVar 1) aNil)) (bNm 5))
    (sSeq (sIf (bOr (bV (eOp neD (eCall (f_written K) (aCons (eVar 5) aNil)) (eVar 2))) (bOr (bV (eOp neD (eVar 5) (eVar 1))) (bNot (bV (eCall (f__law_right K) (aCons (eVar 2) aNil)))))) (sRet (eC (.bl false))) sNil)
    (sSeq (sFor (iL (eOp addD (eSl (eVar 0) oNone (oSome (eC (.int 20)))) (eSlSt (eVar 0) (oSome (eC (.int 20))) oNone (oSome (eC (.int 5)))))) (bNm 6) (sSeq (sAsg (eOp modD (eOp divD (eVar 6) (eC (.int 41))) (eOp addD (eFn lenD (aCons (eVar 2) aNil)) (eC (.int 1)))) (bNm 7))
    (sSeq (sAsg (eOp ixD (eTup (aCons (eC (.str "")) (aCons (eOp ixD (eC (.str "0123456789+ -a\n")) (eOp modD (eOp divD (eVar 6) (eC (.int 3))) (eC (.int 15)))) aNil))) (eOp modD (eOp divD (eVar 6) (eC (.int 7))) (eC (.int 2)))) (bNm 8))
    (sIf (bNot (bV (eCall (f__law_right K) (aCons (eOp addD (eOp addD (eSl (eVar 2) oNone (oSome (eVar 7))) (eVar 8)) (eSl (eVar 2) (oSome (eOp addD (eVar 7) (eOp modD (eOp divD (eVar 6) (eC (.int 13))) (eC (.int 2))))) oNone)) aNil)))) (sRet (eC (.bl false))) sNil))))
    (sSeq (sIf (bNot (bV (eFn allD (aCons (eLC [9] (bNm 9) bYes (eCall (f__law_right K) (aCons (eVar 9) aNil)) (iL (eCall (f__law_few K) aNil))) aNil)))) (sRet (eC (.bl false))) sNil)
    (sSeq (sAsg (eOp powD (eC (.int 10)) (eC (.int 60))) (bNm 10))
    (sSeq (sFor (iL (eLst (aCons (eLst (aCons (eTup (aCons (eVar 10) (aCons (eC (.int 1)) aNil))) aNil)) (aCons (eLst (aCons (eTup (aCons (eC (.int 0)) (aCons (eVar 10) aNil))) aNil)) (aCons (eOp addD (eVar 1) (eLst (aCons (eTup (aCons (eC (.int 1)) (aCons (eOp mulD (eC (.int 2)) (eVar 10)) aNil))) aNil))) aNil))))) (bNm 11) (sIf (bNot (bV (eCall (f__law_refused K) (aCons (eC (.cls (ga K "written"))) (aCons (eVar 11) (aCons (eC (.int 0)) aNil)))))) (sRet (eC (.bl false))) sNil))
    (sSeq (sIf (bV (eOp neD (eCall (f_written K) (aCons (eLst (aCons (eTup (aCons (eOp subD (eVar 10) (eC (.int 1))) (aCons (eC (.int 0)) aNil))) aNil)) aNil)) (eOp addD (eOp mulSD (eC (.str "9")) (eC (.int 60))) (eC (.str "+0"))))) (sRet (eC (.bl false))) sNil)
    (sRet (eFn allD (aCons (eLC [12] (bNm 12) bYes (eCall (f__law_refused K) (aCons (eC (.cls (ga K "read"))) (aCons (eVar 12) (aCons (eC (.int 1)) aNil)))) (iL (eLst (aCons (eC .non) (aCons (eC (.int 5)) (aCons (eLst (aCons (eC (.str "0+1")) aNil)) (aCons (eC (.bl true)) aNil))))))) aNil))))))))))))
def f_law (K : PySem.W.Frag) : List D → Res D := run0 13 (g_law K)
theorem okF_law {P : Program} {w : World} {K : PySem.W.Frag} {mg : Str → Option Value} {base : Heap} (T : Top K mg) {fd : FuncData} (F : L2.FunD K "law" "law" (defArgs s_law) (defBody s_law) (defScope s_law) [] [] (ga K "law") fd) : FnOk P w K mg base CX0 7 (ga K "law") fd ["_law_script"] (spD K 1 (f_law K)) := by
  refine fn_dt0 (N := N_law) F sc_law (fun cdv A outer s H E G P' hr gd => ?_)
  have nd := sc_law.nd
  have tk := takes0N (X := (cxOf CX0 P w K mg base N_law "law" (defScope s_law) (ga K "law") cdv A outer s H E).nox)
  have pow := PassesOwn.never (M := model P w) (A := (cxOf CX0 P w K mg base N_law "law" (defScope s_law) (ga K "law") cdv A outer s H E).A) (env := (cxOf CX0 P w K mg base N_law "law" (defScope s_law) (ga K "law") cdv A outer s H E).env)
  exact (sd_cons (sd_set gd (i := 1) nd (pd_callH (ok__law_book T) (hr.mono (by decide)) tk (by rfl) T.g__law_book (pad_cons (pd_var 0) pad_nil) (arge_cons arge_nil)))
      (sd_cons (sd_set gd (i := 2) nd (pd_join pd_str (pd_lc (own := [("_law_once", 3), ("_law_piece", 4)]) (by rfl) nd (id_list (pd_var 1)) (blkOk_by (own := [("_law_once", 3), ("_law_piece", 4)]) (N := N_law) (sc := defScope s_law) (by decide +kernel)) (by decide) (fun _ _ _ _ _ => (gd_tup rfl (gds_cons (gd_name (i := 3) nd) (gds_cons (gd_name (i := 4) nd) gds_nil)) (btn_cons (btn_cons btn_nil)))) (fun _ _ _ _ _ => ptsd_nil) (fun _ _ _ _ _ => (pd_add (pd_add (pd_strI (by rfl) T.b_str (pad_cons (pd_var 3) pad_nil)) pd_str) (pd_strI (by rfl) T.b_str (pad_cons (pd_var 4) pad_nil)))))))
      (sd_cons (sd_set gd (i := 5) nd (pd_list (by rfl) T.b_list (pad_cons (pd_var 1) pad_nil)))
      (sd_cons (sd_if gd (PW.pt (pwd_or (pt_ne hr.units (pd_callH (ok_written T) (hr.mono (by decide)) tk (by rfl) T.g_written (pad_cons (pd_var 5) pad_nil) (arge_cons arge_nil)) (pd_var 2)) (pwd_or (pt_ne hr.units (pd_var 5) (pd_var 1)) (pwd_or1 (ptd_not (pt_v (pd_callH (ok__law_right T) (hr.mono (by decide)) tk (by rfl) T.g__law_right (pad_cons (pd_var 2) pad_nil) (arge_cons arge_nil)))))))) (sd_one (sd_ret gd pd_bl)) sd_nil)
      (sd_cons (sd_for gd pow rfl (id_list (pd_add (pd_sl (pd_var 0) po_n (po_s pd_int)) (pd_slSt (pd_var 0) (po_s pd_int) po_n (po_s pd_int)))) (gd_name (i := 6) nd) (fun G gd => (sd_cons (sd_set gd (i := 7) nd (pd_mod (pd_div (pd_var 6) pd_int) (pd_add (pd_len (by rfl) T.b_len (pad_cons (pd_var 2) pad_nil)) pd_int)))
      (sd_cons (sd_set gd (i := 8) nd (pd_sub' (pd_tup (pad_cons pd_str (pad_cons (pd_sub' pd_str (pd_mod (pd_div (pd_var 6) pd_int) pd_int)) pad_nil)) (arge_cons (arge_cons arge_nil)).le) (pd_mod (pd_div (pd_var 6) pd_int) pd_int)))
      (sd_one (sd_if gd (ptd_not (pt_v (pd_callH (ok__law_right T) (hr.mono (by decide)) tk (by rfl) T.g__law_right (pad_cons (pd_add (pd_add (pd_sl (pd_var 2) po_n (po_s (pd_var 7))) (pd_var 8)) (pd_sl (pd_var 2) (po_s (pd_add (pd_var 7) (pd_mod (pd_div (pd_var 6) pd_int) pd_int))) po_n)) pad_nil) (arge_cons arge_nil)))) (sd_one (sd_ret gd pd_bl)) sd_nil))))))
      (sd_cons (sd_if gd (ptd_not (pt_v (pd_all (by rfl) (by rfl) T.b_all (pad_cons (pd_lc (own := [("_law_other", 9)]) (by rfl) nd (id_list (pd_callH0 (ok__law_few T) (hr.mono (by decide)) tk (by rfl) T.g__law_few)) (blkOk_by (own := [("_law_other", 9)]) (N := N_law) (sc := defScope s_law) (by decide +kernel)) (by decide) (fun _ _ _ _ _ => (gd_name (i := 9) nd)) (fun _ _ _ _ _ => ptsd_nil) (fun _ _ _ _ _ => (pd_callH (ok__law_right T) (hr.mono (by decide)) takes0N (by rfl) T.g__law_right (pad_cons (pd_var 9) pad_nil) (arge_cons arge_nil)))) pad_nil)))) (sd_one (sd_ret gd pd_bl)) sd_nil)
      (sd_cons (sd_set gd (i := 10) nd (pd_pow pd_int pd_int))
      (sd_cons (sd_for gd pow rfl (id_list (pd_lst (pad_cons (pd_lst (pad_cons (pd_tup (pad_cons (pd_var 10) (pad_cons pd_int pad_nil)) (arge_cons (arge_cons arge_nil)).le) pad_nil) (arge_cons arge_nil).le) (pad_cons (pd_lst (pad_cons (pd_tup (pad_cons pd_int (pad_cons (pd_var 10) pad_nil)) (arge_cons (arge_cons arge_nil)).le) pad_nil) (arge_cons arge_nil).le) (pad_cons (pd_add (pd_var 1) (pd_lst (pad_cons (pd_tup (pad_cons pd_int (pad_cons (pd_mul pd_int (pd_var 10)) pad_nil)) (arge_cons (arge_cons arge_nil)).le) pad_nil) (arge_cons arge_nil).le)) pad_nil))) (arge_cons (arge_cons (arge_cons arge_nil))).le)) (gd_name (i := 11) nd) (fun G gd => (sd_one (sd_if gd (ptd_not (pt_v (pd_callH (ok__law_refused T) (hr.mono (by decide)) tk (by rfl) T.g__law_refused (pad_cons (pd_cls (by rfl) T.g_written) (pad_cons (pd_var 11) (pad_cons pd_int pad_nil))) (arge_cons (arge_cons (arge_cons arge_nil)))))) (sd_one (sd_ret gd pd_bl)) sd_nil))))
      (sd_cons (sd_if gd (pt_ne hr.units (pd_callH (ok_written T) (hr.mono (by decide)) tk (by rfl) T.g_written (pad_cons (pd_lst (pad_cons (pd_tup (pad_cons (pd_sub (pd_var 10) pd_int) (pad_cons pd_int pad_nil)) (arge_cons (arge_cons arge_nil)).le) pad_nil) (arge_cons arge_nil).le) pad_nil) (arge_cons arge_nil)) (pd_add (pd_mulS pd_str pd_int) pd_str)) (sd_one (sd_ret gd pd_bl)) sd_nil)
      (sd_one (sd_ret gd (pd_all (by rfl) (by rfl) T.b_all (pad_cons (pd_lc (own := [("_law_thing", 12)]) (by rfl) nd (id_list (pd_lst (pad_cons pd_non (pad_cons pd_int (pad_cons (pd_lst (pad_cons pd_str pad_nil) (arge_cons arge_nil).le) (pad_cons pd_bl pad_nil)))) (arge_cons (arge_cons (arge_cons (arge_cons arge_nil)))).le)) (blkOk_by (own := [("_law_thing", 12)]) (N := N_law) (sc := defScope s_law) (by decide +kernel)) (by decide) (fun _ _ _ _ _ => (gd_name (i := 12) nd)) (fun _ _ _ _ _ => ptsd_nil) (fun _ _ _ _ _ => (pd_callH (ok__law_refused T) (hr.mono (by decide)) takes0N (by rfl) T.g__law_refused (pad_cons (pd_cls (by rfl) T.g_read) (pad_cons (pd_var 12) (pad_cons pd_int pad_nil))) (arge_cons (arge_cons (arge_cons arge_nil)))))) pad_nil)))))))))))))
def dd_is_number : DefD := ⟨("is_number", none), "is_number", "is_number", defArgs s_is_number, defBody s_is_number, defScope s_is_number, [], []⟩
def dd_is_pair : DefD := ⟨("is_pair", none), "is_pair", "is_pair", defArgs s_is_pair, defBody s_is_pair, defScope s_is_pair, [], []⟩
def dd_check_book : DefD := ⟨("check_book", none), "check_book", "check_book", defArgs s_check_book, defBody s_check_book, defScope s_check_book, [], []⟩
def dd_written : DefD := ⟨("written", none), "written", "written", defArgs s_written, defBody s_written, defScope s_written, [], []⟩
def dd_number_in : DefD := ⟨("number_in", none), "number_in", "number_in", defArgs s_number_in, defBody s_number_in, defScope s_number_in, [], []⟩
def dd_read : DefD := ⟨("read", none), "read", "read", defArgs s_read, defBody s_read, defScope s_read, [], []⟩
def dd__law_book : DefD := ⟨("_law_book", none), "_law_book", "_law_book", defArgs s__law_book, defBody s__law_book, defScope s__law_book, [], []⟩
def dd__law_number : DefD := ⟨("_law_number", none), "_law_number", "_law_number", defArgs s__law_number, defBody s__law_number, defScope s__law_number, [], []⟩
def dd__law_in : DefD := ⟨("_law_in", none), "_law_in", "_law_in", defArgs s__law_in, defBody s__law_in, defScope s__law_in, [], []⟩
def dd__law_refused : DefD := ⟨("_law_refused", none), "_law_refused", "_law_refused", defArgs s__law_refused, defBody s__law_refused, defScope s__law_refused, [], []⟩
def dd__law_right : DefD := ⟨("_law_right", none), "_law_right", "_law_right", defArgs s__law_right, defBody s__law_right, defScope s__law_right, [], []⟩
def dd__law_few : DefD := ⟨("_law_few", none), "_law_few", "_law_few", defArgs s__law_few, defBody s__law_few, defScope s__law_few, [], []⟩
def dd_law : DefD := ⟨("law", none), "law", "law", defArgs s_law, defBody s_law, defScope s_law, [], []⟩
def facts : List (PySem.W.Frag → Bool) := ([fun K => (Fa.glo "is_number").ok K, fun K => (Fa.glo "is_pair").ok K, fun K => (Fa.glo "check_book").ok K, fun K => (Fa.glo "written").ok K, fun K => (Fa.glo "number_in").ok K, fun K => (Fa.glo "read").ok K, fun K => (Fa.glo "_law_book").ok K, fun K => (Fa.glo "_law_number").ok K, fun K => (Fa.glo "_law_in").ok K, fun K => (Fa.glo "_law_refused").ok K, fun K => (Fa.glo "_law_right").ok K, fun K => (Fa.glo "_law_few").ok K, fun K => (Fa.glo "law").ok K, fun K => (Fa.glo "TariffError").ok K, fun K => (Fa.glo "BadBook").ok K, fun K => (Fa.glo "BadPlace").ok K, fun K => (Fa.glo "BadAmount").ok K, fun K => (Fa.glo "BadMoney").ok K, fun K => (Fa.glo "BadText").ok K, fun K => (Fa.str "FIGURES" "0123456789").ok K, fun K => (Fa.int "MOST" 60).ok K, fun K => (Fa.free "all").ok K, fun K => (Fa.free "any").ok K, fun K => (Fa.free "bool").ok K, fun K => (Fa.free "int").ok K, fun K => (Fa.free "isinstance").ok K, fun K => (Fa.free "len").ok K, fun K => (Fa.free "list").ok K, fun K => (Fa.free "max").ok K, fun K => (Fa.free "range").ok K] : List (PySem.W.Frag → Bool)) ++ ([fun K => (Fa.free "str").ok K, fun K => (Fa.free "sum").ok K, fun K => (Fa.free "tuple").ok K, fun K => (Fa.free "zip").ok K, excB "BadBook", excB "BadText", excsB ["BadBook", "BadPlace", "BadAmount", "BadMoney", "BadText"] "TariffError", kitB "BadBook" "BadBook" true, kitB "BadBook" "BadPlace" false, kitB "BadBook" "BadAmount" false, kitB "BadBook" "BadMoney" false, kitB "BadBook" "BadText" false, kitB "BadPlace" "BadBook" false, kitB "BadPlace" "BadPlace" true, kitB "BadPlace" "BadAmount" false, kitB "BadPlace" "BadMoney" false, kitB "BadPlace" "BadText" false, kitB "BadAmount" "BadBook" false, kitB "BadAmount" "BadPlace" false, kitB "BadAmount" "BadAmount" true, kitB "BadAmount" "BadMoney" false, kitB "BadAmount" "BadText" false, kitB "BadMoney" "BadBook" false, kitB "BadMoney" "BadPlace" false, kitB "BadMoney" "BadAmount" false, kitB "BadMoney" "BadMoney" true, kitB "BadMoney" "BadText" false, kitB "BadText" "BadBook" false, kitB "BadText" "BadPlace" false, kitB "BadText" "BadAmount" false] : List (PySem.W.Frag → Bool)) ++ ([kitB "BadText" "BadMoney" false, kitB "BadText" "BadText" true, fun _ => true] : List (PySem.W.Frag → Bool))
def fnl : List (DefD) := ([dd_is_number, dd_is_pair, dd_check_book, dd_written, dd_number_in, dd_read, dd__law_book, dd__law_number, dd__law_in, dd__law_refused, dd__law_right, dd__law_few, dd_law] : List (DefD))
theorem top_of {K : PySem.W.Frag} {h : Heap} {mg : Str → Option Value} (X : K.In h) (G : h.Ns mainGlobals mg) (c : SaysX facts fnl K) : Top K mg where
  g_is_number := glo_ok X G (c.fact 0)
  g_is_pair := glo_ok X G (c.fact 1)
  g_check_book := glo_ok X G (c.fact 2)
  g_written := glo_ok X G (c.fact 3)
  g_number_in := glo_ok X G (c.fact 4)
  g_read := glo_ok X G (c.fact 5)
  g__law_book := glo_ok X G (c.fact 6)
  g__law_number := glo_ok X G (c.fact 7)
  g__law_in := glo_ok X G (c.fact 8)
  g__law_refused := glo_ok X G (c.fact 9)
  g__law_right := glo_ok X G (c.fact 10)
  g__law_few := glo_ok X G (c.fact 11)
  g_law := glo_ok X G (c.fact 12)
  g_TariffError := glo_ok X G (c.fact 13)
  g_BadBook := glo_ok X G (c.fact 14)
  g_BadPlace := glo_ok X G (c.fact 15)
  g_BadAmount := glo_ok X G (c.fact 16)
  g_BadMoney := glo_ok X G (c.fact 17)
  g_BadText := glo_ok X G (c.fact 18)
  k_FIGURES := str_ok X G (c.fact 19)
  k_MOST := int_ok X G (c.fact 20)
  b_all := free_ok X G (c.fact 21)
  b_any := free_ok X G (c.fact 22)
  b_bool := free_ok X G (c.fact 23)
  b_int := free_ok X G (c.fact 24)
  b_isinstance := free_ok X G (c.fact 25)
  b_len := free_ok X G (c.fact 26)
  b_list := free_ok X G (c.fact 27)
  b_max := free_ok X G (c.fact 28)
  b_range := free_ok X G (c.fact 29)
  b_str := free_ok X G (c.fact 30)
  b_sum := free_ok X G (c.fact 31)
  b_tuple := free_ok X G (c.fact 32)
  b_zip := free_ok X G (c.fact 33)
  x_BadBook := c.fact 34
  x_BadText := c.fact 35
  xs := excsB_ok (xs := ["BadBook", "BadPlace", "BadAmount", "BadMoney", "BadText"]) (c.fact 36)
  e_BadBook_BadBook := kitB_ok (c.fact 37)
  e_BadBook_BadPlace := kitB_ok (c.fact 38)
  e_BadBook_BadAmount := kitB_ok (c.fact 39)
  e_BadBook_BadMoney := kitB_ok (c.fact 40)
  e_BadBook_BadText := kitB_ok (c.fact 41)
  e_BadPlace_BadBook := kitB_ok (c.fact 42)
  e_BadPlace_BadPlace := kitB_ok (c.fact 43)
  e_BadPlace_BadAmount := kitB_ok (c.fact 44)
  e_BadPlace_BadMoney := kitB_ok (c.fact 45)
  e_BadPlace_BadText := kitB_ok (c.fact 46)
  e_BadAmount_BadBook := kitB_ok (c.fact 47)
  e_BadAmount_BadPlace := kitB_ok (c.fact 48)
  e_BadAmount_BadAmount := kitB_ok (c.fact 49)
  e_BadAmount_BadMoney := kitB_ok (c.fact 50)
  e_BadAmount_BadText := kitB_ok (c.fact 51)
  e_BadMoney_BadBook := kitB_ok (c.fact 52)
  e_BadMoney_BadPlace := kitB_ok (c.fact 53)
  e_BadMoney_BadAmount := kitB_ok (c.fact 54)
  e_BadMoney_BadMoney := kitB_ok (c.fact 55)
  e_BadMoney_BadText := kitB_ok (c.fact 56)
  e_BadText_BadBook := kitB_ok (c.fact 57)
  e_BadText_BadPlace := kitB_ok (c.fact 58)
  e_BadText_BadAmount := kitB_ok (c.fact 59)
  e_BadText_BadMoney := kitB_ok (c.fact 60)
  e_BadText_BadText := kitB_ok (c.fact 61)
  ci := ci_ok (c.fact 62)
  d_is_number := c.def_ 0
  d_is_pair := c.def_ 1
  d_check_book := c.def_ 2
  d_written := c.def_ 3
  d_number_in := c.def_ 4
  d_read := c.def_ 5
  d__law_book := c.def_ 6
  d__law_number := c.def_ 7
  d__law_in := c.def_ 8
  d__law_refused := c.def_ 9
  d__law_right := c.def_ 10
  d__law_few := c.def_ 11
  d_law := c.def_ 12
abbrev RW : PySem.W.OpenRow := PySem.W.OpenLaw.row PySem.Challenge.rw_leasttariff_k07_texts
abbrev hk : PySem.W.Hook := hookX 6 facts fnl
def ob (s : PySem.W.SharedT) : AlD := obsXG 6 facts fnl (HandSHeadRun.getT s)
theorem ob_eq (s : PySem.W.SharedT) : ob s = hk.obs s.abs := obsXG_eq (HandSHeadRun.getT_eq s)
def names : List (Str) := (["TariffError", "BadBook", "BadPlace", "BadAmount", "BadMoney", "BadText", "is_number", "is_pair", "check_book", "FIGURES", "MOST", "written", "number_in", "read", "_law_book", "_law_number", "_law_in", "_law_refused", "_law_right", "_law_few"] : List (Str))
theorem hrun (w : World) : HandSHeadRun.RunEq RW (PySem.W.view RW.prog [24]) hk ob 6000 names w := by
  intro os
  kernel_rfl
end
end Dt.Ws
namespace Dt.Ws
open PySem L2 Dt He
variable {K : PySem.W.Frag}
local macro_rules | `(tactic| walk_at "ev") => `(tactic| simp only [run, fin, envOf, sSeq, sNil, sAsg, sPar, sRet, sRetN, sDrop, sIf, sNever, bNm, bTup, bsCons, bsNil, bOk_ok, eVar, eC, eOp, eUn, toB, bV, bAnd, bOr, bNot, eB, eIf, aNil, aCons, eFn, eCall, eTup, eLst, eFld, eMk, eMk0, eMt, eChain, iL, iT, eSl, eSlSt, oNone, oSome, toI, toL_lst, toT_tup, Res.bind_ok, Res.bind_no, Res.bind_ex, sRaise, eM1, isStr, iS, ofO_some, ofO_none, List.map_cons, List.map_nil, List.length_cons, List.length_nil, List.cons_append, List.nil_append, List.replicate, List.getElem?_cons_zero, List.getElem?_cons_succ, List.set_cons_zero, List.set_cons_succ, if_true, if_false, Bool.false_eq_true, Nat.sub_self, Nat.reduceSub, Nat.reduceAdd, isi_int_int, isi_int_bool, isi_int_tuple, isi_int_list, isi_int_str, isi_bl_int, isi_bl_bool, isi_bl_tuple, isi_bl_list, isi_bl_str, isi_non_int, isi_non_bool, isi_non_tuple, isi_non_list, isi_non_str, isi_str_int, isi_str_bool, isi_str_tuple, isi_str_list, isi_str_str, isi_tup_int, isi_tup_bool, isi_tup_tuple, isi_tup_list, isi_tup_str, isi_lst_int, isi_lst_bool, isi_lst_tuple, isi_lst_list, isi_lst_str, isi_tr_int, isi_tr_bool, isi_tr_tuple, isi_tr_list, isi_tr_str, isi_bk_int, isi_bk_bool, isi_bk_tuple, isi_bk_list, isi_bk_str, isi_dic_int, isi_dic_bool, isi_dic_tuple, isi_dic_list, isi_dic_str, isL_bk, divD_2, modD_2, divD_3, modD_3, divD_4, modD_4, divD_5, modD_5, divD_6, modD_6, divD_7, modD_7, divD_8, modD_8, divD_9, modD_9, divD_10, modD_10, divD_11, modD_11, divD_13, modD_13, divD_15, modD_15, divD_17, modD_17, divD_24, modD_24, divD_40, modD_40, divD_41, modD_41, divD_44, modD_44, divD_60, modD_60, divD_90, modD_90, divD_100, modD_100, divD_120, modD_120, divD_T30, modD_T30, divD_T40, modD_T40, divD_T60, modD_T60, powD_30, powD_40, powD_60, sumD_ints, Option.map_some, ↓reduceIte, reduceCtorEq, isLst, addD_int, subD_int, ltD_int, leD_int, gtD_int, geD_int, negD_int, eqD_int, neD_int, ix0_tr, ix1_tr, ix0, ix1, len_tr, len_bk, len_tup2, toL_bk, toT_tr, list_bk, eqD_bk, neD_bk, eqD_tr, neD_tr, eqD_bk0, neD_bk0, Bool.not_true, Bool.not_false, Bool.true_and, Bool.false_and, Bool.and_true, Bool.and_false, decide_true, decide_false])
theorem is_number_eq (n m : Int) : f_is_number K [.int n, .int m] = .ok (.bl (decide (m ≤ n))) := by
  unfold f_is_number g_is_number
  walk_at "ev"
theorem is_pair_eq (t : Tr) (m : Int) : f_is_pair K [tr t, .int m] = .ok (.bl (decide (0 ≤ t.1) && decide (m ≤ t.2))) := by
  unfold f_is_pair g_is_pair
  walk_at "ev"
  simp only [is_number_eq, Res.bind_ok]
  by_cases h : 0 ≤ t.1 <;> simp [h, toB]
/-- books -/
structure Bk (l : List Tr) : Prop where
  ne : l ≠ []
  len : l.length ≤ 1000
  nn : ∀ t ∈ l, 0 ≤ t.1 ∧ 0 ≤ t.2
  sm : ∀ t ∈ l, Sm t.1 ∧ Sm t.2
theorem check_book_eq {l : List Tr} (h : Bk l) : f_check_book K [bk l] = .ok .non := by
  unfold f_check_book g_check_book
  walk_at "ev"
  rw [eLC_of l tr (fun t => .bl (decide (0 ≤ t.1) && decide (0 ≤ t.2))) (by walk_at "ev") (Nat.le_trans h.len (by decide)) (fun t ht => ⟨_, rfl, by
    simp only [eCall, aCons, aNil, eVar, eC, wipeE, List.set_cons_succ, List.set_cons_zero, List.getElem?_cons_succ, List.getElem?_cons_zero, Res.bind_ok, is_pair_eq]⟩)]
  walk_at "ev"
  rw [allD_map]
  have e : (l.all fun t => decide (0 ≤ t.1) && decide (0 ≤ t.2)) = true := by
    rw [List.all_eq_true]
    intro t ht
    obtain ⟨h1, h2⟩ := h.nn t ht
    simp [h1, h2]
  simp [h.ne, e, toB]
structure SmT (t : Tr) : Prop where
  a : Sm t.1
  b : Sm t.2
theorem SmT.of {t : Tr} (h : Sm t.1 ∧ Sm t.2) : SmT t := ⟨h.1, h.2⟩
theorem Bk.at {l : List Tr} {t : Tr} (h : Bk l) (ht : t ∈ l) : SmT t := ⟨(h.sm t ht).1, (h.sm t ht).2⟩
/-- the costs -/
def csts (l : List Tr) (p : Tr) : List Int := l.map fun t => cst t p
theorem csts_ne {l : List Tr} {p : Tr} (h : l ≠ []) : csts l p ≠ [] := fun z => h (List.map_eq_nil_iff.mp z)
theorem min_csts_nonneg {l : List Tr} {p : Tr} (h : Bk l) (hp : Am p) : 0 ≤ minL (csts l p) := by
  obtain ⟨t, ht, e⟩ := List.mem_map.mp (minL_mem (csts_ne (p := p) h.ne))
  have e : cst t p = minL (csts l p) := e
  rw [← e]
  exact cst_nonneg (h.nn t ht).1 (h.nn t ht).2 hp
theorem law_size (q : Int) : ∃ z : Int, 0 < z ∧ z ≤ 1000000000000000000000000000000 ∧ ixD (.tup [.int 9, .int 60, .int 1000000000000000000000000000000, .int 9]) (.int (q % 4)) = some (.int z) := by
  have h0 : 0 ≤ q % 4 := Int.emod_nonneg _ (by decide)
  have h1 : q % 4 < 4 := Int.emod_lt_of_pos _ (by decide)
  have h : q % 4 = 0 ∨ q % 4 = 1 ∨ q % 4 = 2 ∨ q % 4 = 3 := by omega
  rcases h with e | e | e | e <;> rw [e]
  · exact ⟨9, by decide, by decide, rfl⟩
  · exact ⟨60, by decide, by decide, rfl⟩
  · exact ⟨1000000000000000000000000000000, by decide, by decide, rfl⟩
  · exact ⟨9, by decide, by decide, rfl⟩
theorem law_book_eq (ns : List Int) (hl : ns.length ≤ 63) : ∃ l, Bk l ∧ l.length ≤ 100 ∧ (∀ t ∈ l, t.1 < 10000000000000000000000000000000000000000 ∧ t.2 < 10000000000000000000000000000000000000000) ∧ f__law_book K [.lst (ns.map D.int)] = .ok (bk l) := by
  obtain ⟨z, z0, z1, hz⟩ := law_size (ns.sum / 7)
  have zl : z.natAbs < lim := smallv z (by omega)
  have d : ∀ i : Int, divD (.int i) (.int z) = some (.int (i / z)) := fun i => divD_int z0 zl
  have m : ∀ i : Int, modD (.int i) (.int z) = some (.int (i % z)) := fun i => modD_int z0
  have small : ∀ c : Int, (1 - c % 2 * 2).natAbs < 2 ^ 60 := fun c => by
    have h0 : 0 ≤ c % 2 := Int.emod_nonneg _ (by decide)
    have h1 : c % 2 < 2 := Int.emod_lt_of_pos _ (by decide)
    omega
  have small2 : ∀ c : Int, mulOk (c % 2) 2 = true := fun c => mulOk_r (by decide)
  have small3 : ∀ c : Int, mulOk (c / 7) (1 - c % 2 * 2) = true := fun c => mulOk_r (small c)
  let R : Int → Int := fun c => c / z + c / 7 * (1 - c % 2 * 2)
  let F : List Tr := ns.map fun c => (c % z, R c % z)
  have hF : ∀ t ∈ F, ((0 ≤ t.1 ∧ 0 ≤ t.2) ∧ Sm t.1 ∧ Sm t.2) ∧ t.1 < 10000000000000000000000000000000000000000 ∧ t.2 < 10000000000000000000000000000000000000000 := fun t ht => by
    obtain ⟨c, _, rfl⟩ := List.mem_map.mp ht
    have a0 : 0 ≤ c % z := Int.emod_nonneg _ (by omega)
    have a1 : c % z < z := Int.emod_lt_of_pos _ z0
    have b0 : 0 ≤ R c % z := Int.emod_nonneg _ (by omega)
    have b1 : R c % z < z := Int.emod_lt_of_pos _ z0
    exact ⟨⟨⟨a0, b0⟩, sm_lt a0 (by omega), sm_lt b0 (by omega)⟩, by show c % z < 10000000000000000000000000000000000000000; omega, by show R c % z < 10000000000000000000000000000000000000000; omega⟩
  have fl : F.length ≤ 63 := by
    show (ns.map _).length ≤ 63
    rw [List.length_map]
    exact hl
  have c1 : ∀ r : Env, eLC [4] (bNm 4) bYes (eOp addD (eOp divD (eVar 4) (eVar 2)) (eOp mulD (eOp divD (eVar 4) (eC (.int 7))) (eOp subD (eC (.int 1)) (eOp mulD (eOp modD (eVar 4) (eC (.int 2))) (eC (.int 2)))))) (iL (eVar 0)) [.sh (.lst (ns.map D.int)), .sh (.int ns.sum), .sh (.int z), .no, .no, .no, .no, .no, .no] = .ok (.lst (ns.map fun c => .int (R c))) := fun r =>
    eLC_of ns D.int (fun c => .int (R c)) rfl (by omega) fun c _ => ⟨_, rfl, by
      simp only [wipeE]
      repeat (first | simp only [d, m, mulD_int (small2 c), mulD_int (small3 c)] | walk_at "ev")
      rfl⟩
  have c2 : eLC [4, 6] (bTup (bsCons (bNm 4) (bsCons (bNm 6) bsNil))) bYes (eTup (aCons (eOp modD (eVar 4) (eVar 2)) (aCons (eOp modD (eVar 6) (eVar 2)) aNil))) (iZ (aCons (eVar 0) (aCons (eVar 3) aNil))) [.sh (.lst (ns.map D.int)), .sh (.int ns.sum), .sh (.int z), .sh (.lst (ns.map fun c => .int (R c))), .no, .no, .no, .no, .no] = .ok (bk F) := by
    rw [eLC_of ns (fun c => .tup [.int c, .int (R c)]) (fun c => tr (c % z, R c % z)) (by
      unfold iZ
      walk_at "ev"
      rw [zip_map]) (by omega) fun c _ => ⟨_, rfl, by
      simp only [wipeE]
      repeat (first | simp only [d, m] | walk_at "ev")
      rfl⟩]
    show Res.ok (D.lst _) = Res.ok (D.lst (F.map tr))
    show _ = Res.ok (D.lst ((ns.map _).map tr))
    rw [List.map_map]
    rfl
  -- the hill
  have hM0 : 0 ≤ ns.sum / 44 % 24 := Int.emod_nonneg _ (by decide)
  have hM1 : ns.sum / 44 % 24 < 24 := Int.emod_lt_of_pos _ (by decide)
  have hc0 : 0 ≤ ns.sum % 5 := Int.emod_nonneg _ (by decide)
  have hc1 : ns.sum % 5 < 5 := Int.emod_lt_of_pos _ (by decide)
  have hd0 : 0 ≤ ns.sum / 7 % 9 := Int.emod_nonneg _ (by decide)
  have hd1 : ns.sum / 7 % 9 < 9 := Int.emod_lt_of_pos _ (by decide)
  obtain ⟨M, eM⟩ : ∃ M : Int, M = 1 + ns.sum / 44 % 24 := ⟨_, rfl⟩
  let T : Nat → Int := fun k => ((0 + (k : Int)) * (0 + (k : Int) + 1)) / 2
  let G : List Tr := (List.range M.toNat).map fun (k : Nat) => (T k * (1 + ns.sum % 5) + ns.sum / 7 % 9, M - (0 + (k : Int)))
  have hT : ∀ k : Nat, k < 24 → 0 ≤ T k ∧ T k ≤ 300 := fun k hk => by
    have h1 : (k : Int) ≤ 23 := by omega
    have h2 : (0 + (k : Int)) * (0 + (k : Int) + 1) ≤ 23 * 24 := Int.mul_le_mul (by omega) (by omega) (by omega) (by omega)
    have h3 : 0 ≤ (0 + (k : Int)) * (0 + (k : Int) + 1) := Int.mul_nonneg (by omega) (by omega)
    show 0 ≤ (0 + (k : Int)) * (0 + (k : Int) + 1) / 2 ∧ (0 + (k : Int)) * (0 + (k : Int) + 1) / 2 ≤ 300
    omega
  have gl : G.length ≤ 24 := by
    show ((List.range M.toNat).map _).length ≤ 24
    rw [List.length_map, List.length_range]
    omega
  have hG : ∀ t ∈ G, ((0 ≤ t.1 ∧ 0 ≤ t.2) ∧ Sm t.1 ∧ Sm t.2) ∧ t.1 < 10000000000000000000000000000000000000000 ∧ t.2 < 10000000000000000000000000000000000000000 := fun t ht => by
    obtain ⟨k, hk, rfl⟩ := List.mem_map.mp ht
    have hk : k < M.toNat := List.mem_range.mp hk
    obtain ⟨t0, t1⟩ := hT k (by omega)
    have p0 : 0 ≤ T k * (1 + ns.sum % 5) := Int.mul_nonneg t0 (by omega)
    have p1 : T k * (1 + ns.sum % 5) ≤ 300 * 5 := Int.mul_le_mul t1 (by omega) (by omega) (by omega)
    exact ⟨⟨⟨by show 0 ≤ _ + _; omega, by show 0 ≤ M - _; omega⟩, sm_lt (by show 0 ≤ _ + _; omega) (by show _ + _ < _; omega), sm_lt (by show 0 ≤ M - _; omega) (by show M - _ < _; omega)⟩, by show _ + _ < _; omega, by show M - _ < _; omega⟩
  have c3 : ∀ b : Sl, eLC [8] (bNm 8) bYes (eTup (aCons (eOp addD (eOp mulD (eOp divD (eOp mulD (eVar 8) (eOp addD (eVar 8) (eC (.int 1)))) (eC (.int 2))) (eOp addD (eC (.int 1)) (eOp modD (eVar 1) (eC (.int 5))))) (eOp modD (eOp divD (eVar 1) (eC (.int 7))) (eC (.int 9)))) (aCons (eOp subD (eVar 7) (eVar 8)) aNil))) (iR1 (aCons (eVar 7) aNil)) [.sh (.lst (ns.map D.int)), .sh (.int ns.sum), .sh (.int z), .sh (.lst (ns.map fun c => .int (R c))), .no, .sh (bk F), .no, .sh (.int M), b] = .ok (bk G) := fun b => by
    rw [eLC_of (List.range M.toNat) (fun (k : Nat) => .int (0 + (k : Int))) (fun (k : Nat) => tr (T k * (1 + ns.sum % 5) + ns.sum / 7 % 9, M - (0 + (k : Int)))) (by
      unfold iR1
      walk_at "ev"
      rw [if_pos (by omega)]
      unfold rangeD
      rw [Int.sub_zero]) (by rw [List.length_range]; omega) fun k hk => ⟨_, rfl, by
      have hk : k < M.toNat := List.mem_range.mp hk
      obtain ⟨t0, t1⟩ := hT k (by omega)
      have m1 : mulOk (0 + (k : Int)) (0 + (k : Int) + 1) = true := mulOk_l (by omega)
      have m2 : mulOk (T k) (1 + ns.sum % 5) = true := mulOk_l (by omega)
      simp only [wipeE]
      repeat (first | simp only [mulD_int m1] | walk_at "ev" | rw [show (0 + (k : Int)) * (0 + (k : Int) + 1) / 2 = T k from rfl, mulD_int m2])
      rfl⟩]
    show Res.ok (D.lst _) = Res.ok (D.lst (((List.range M.toNat).map _).map tr))
    rw [List.map_map]
    rfl
  have app : addD (bk F) (bk G) = some (bk (F ++ G)) := by
    show addD (.lst (F.map tr)) (.lst (G.map tr)) = some (.lst ((F ++ G).map tr))
    rw [addD_lst (by simp only [List.length_map]; omega), List.map_append]
  have last : ∀ L : List Tr, L.length ≤ 100 → (∀ t ∈ L, ((0 ≤ t.1 ∧ 0 ≤ t.2) ∧ Sm t.1 ∧ Sm t.2) ∧ t.1 < 10000000000000000000000000000000000000000 ∧ t.2 < 10000000000000000000000000000000000000000) → Bk (if L = [] then [(ns.sum % 5, 3)] else L) := fun L h1 h2 => by
    by_cases c : L = []
    · rw [if_pos c]
      refine ⟨(fun z => nomatch z), (by show 1 ≤ 1000; decide), fun t ht => ?_, fun t ht => ?_⟩
      · obtain rfl := List.mem_singleton.mp ht
        exact ⟨hc0, (by decide : (0 : Int) ≤ 3)⟩
      · obtain rfl := List.mem_singleton.mp ht
        exact ⟨sm_lt hc0 (by omega), sm_small (by decide : (3 : Int).natAbs < 2 ^ 60)⟩
    · rw [if_neg c]
      exact ⟨c, by omega, fun t ht => (h2 t ht).1.1, fun t ht => (h2 t ht).1.2⟩
  have last2 : ∀ L : List Tr, (∀ t ∈ L, ((0 ≤ t.1 ∧ 0 ≤ t.2) ∧ Sm t.1 ∧ Sm t.2) ∧ t.1 < 10000000000000000000000000000000000000000 ∧ t.2 < 10000000000000000000000000000000000000000) → ∀ t ∈ (if L = [] then [(ns.sum % 5, 3)] else L), t.1 < 10000000000000000000000000000000000000000 ∧ t.2 < 10000000000000000000000000000000000000000 := fun L h2 t ht => by
    by_cases c : L = []
    · rw [if_pos c] at ht
      obtain rfl := List.mem_singleton.mp ht
      exact ⟨by show ns.sum % 5 < _; omega, by show (3 : Int) < _; omega⟩
    · rw [if_neg c] at ht
      exact (h2 t ht).2
  have one : D.lst [tr (ns.sum % 5, 3)] = bk [(ns.sum % 5, 3)] := rfl
  by_cases h : ns.sum / 4 % 11 = 5
  · have hFG : ∀ t ∈ F ++ G, ((0 ≤ t.1 ∧ 0 ≤ t.2) ∧ Sm t.1 ∧ Sm t.2) ∧ t.1 < 10000000000000000000000000000000000000000 ∧ t.2 < 10000000000000000000000000000000000000000 := fun t ht => by
      rcases List.mem_append.mp ht with ht | ht
      · exact hF t ht
      · exact hG t ht
    refine ⟨if F ++ G = [] then [(ns.sum % 5, 3)] else F ++ G, last _ (by rw [List.length_append]; omega) hFG, ?_, last2 _ hFG, ?_⟩
    · split
      · show 1 ≤ 100
        decide
      · rw [List.length_append]; omega
    · unfold f__law_book g__law_book
      repeat (first | simp only [hz, h, pair_eq, one] | rw [c1 []] | rw [c2] | rw [← eM] | rw [c3] | simp only [app] | walk_at "ev")
      by_cases c : F ++ G = []
      · simp only [c]
        repeat (first | simp only [one] | walk_at "ev")
      · simp only [c]
        repeat (first | simp only [one] | walk_at "ev")
  · refine ⟨if F = [] then [(ns.sum % 5, 3)] else F, last F (by omega) hF, ?_, last2 F hF, ?_⟩
    · split
      · show 1 ≤ 100
        decide
      · omega
    · unfold f__law_book g__law_book
      repeat (first | simp only [hz, h, pair_eq, one] | rw [c1 []] | rw [c2] | walk_at "ev")
      by_cases c : F = []
      · simp only [c]
        repeat (first | simp only [one] | walk_at "ev")
      · simp only [c]
        repeat (first | simp only [one] | walk_at "ev")
section
variable {a b c : D}
theorem ix30 : ixD (.tup [a, b, c]) (.int 0) = some a := rfl
theorem ix31 : ixD (.tup [a, b, c]) (.int 1) = some b := rfl
theorem ix32 : ixD (.tup [a, b, c]) (.int 2) = some c := rfl
end
def encO : Option (Int × Int × Nat) → D
  | none => .non
  | some (a, c, j) => .tup [.int a, .int c, .int (j : Nat)]
theorem fn1 {g : List D → Option D} {fa : Env → Res D} {env : Env} {a d : D} (h : fa env = .ok a) (h2 : g [a] = some d) : eFn g (aCons fa aNil) env = .ok d := by
  unfold eFn aCons aNil
  rw [h]
  show ofO (g [a]) = _
  rw [h2]
  rfl
theorem fn2 {g : List D → Option D} {fa fb : Env → Res D} {env : Env} {a b d : D} (h : fa env = .ok a) (h' : fb env = .ok b) (h2 : g [a, b] = some d) : eFn g (aCons fa (aCons fb aNil)) env = .ok d := by
  unfold eFn aCons aNil
  simp only [h, h', Res.bind_ok, h2]
  rfl
theorem at_of {l : List Tr} {j : Int} (h0 : 0 ≤ j) (h1 : j < l.length) : ∃ t, l[j.toNat]? = some t ∧ t ∈ l ∧ ixD (bk l) (.int j) = some (tr t) := by
  have hl : j.toNat < l.length := by omega
  refine ⟨_, List.getElem?_eq_getElem hl, List.getElem_mem hl, ?_⟩
  have e : j = ((j.toNat : Nat) : Int) := (Int.toNat_of_nonneg h0).symm
  conv => lhs; rw [e]
  exact ix_bk (List.getElem?_eq_getElem hl)
theorem place_cases (l : List Tr) (j : Int) : (¬ 0 ≤ j) ∨ (0 ≤ j ∧ ¬ j < l.length) ∨ (0 ≤ j ∧ j < l.length) := by omega
theorem seq_ex {g1 g2 : Env → Res Fl} {env : Env} {C : Addr} (h : g1 env = .ex C) : sSeq g1 g2 env = .ex C := by
  unfold sSeq
  rw [h]
theorem run_ex {n : Nat} {g : Env → Res Fl} {ds : List D} {C : Addr} (h : g (envOf n ds) = .ex C) : run n g ds = .ex C := by
  unfold run
  rw [h]
  rfl
theorem drop_ex {fa : Env → Res D} {env : Env} {C : Addr} (h : fa env = .ex C) : sDrop fa env = .ex C := by
  unfold sDrop
  rw [h]
  rfl
theorem if_ex {fc : Env → Res Bool} {g1 g2 : Env → Res Fl} {env : Env} {C : Addr} (h : fc env = .ok true) (hr : g1 env = .ex C) : sIf fc g1 g2 env = .ex C := by
  unfold sIf
  rw [h]
  exact hr
theorem ret_ex {fa : Env → Res D} {env : Env} {C : Addr} (h : fa env = .ex C) : sRet fa env = .ex C := by
  unfold sRet
  rw [h]
  rfl
theorem drop_ok {φ : List D → Res D} {fl : Env → Res (List D)} {env : Env} {ds : List D} {d : D} (h : fl env = .ok ds) (h2 : φ ds = .ok d) : sDrop (eCall φ fl) env = .ok (.nx env) := by
  unfold sDrop eCall
  rw [h, Res.bind_ok, h2]
  rfl
theorem eView_of {fa : Env → Res D} {env : Env} {d : D} (h : fa (Dt.view env) = .ok d) (hs : isSc d = true) : eView fa env = .ok d := by
  unfold eView
  rw [h]
  show (if isSc d = true then Res.ok d else .no) = _
  rw [if_pos hs]
theorem seq_own {i : Nat} {φ : List D → Res Ow} {fl : Env → Res (List D)} {g2 : Env → Res Fl} {env : Env} {ds : List D} {o : Ow} {r : Res Fl} (h1 : fl env = .ok ds) (h2 : φ ds = .ok o) (h3 : okSl i env o = true) (hr : g2 (env.set i o.sl) = r) : sSeq (sAsgOwn i φ fl) g2 env = r := by
  refine seq_nx ?_ hr
  unfold sAsgOwn
  rw [h1, Res.bind_ok, h2, Res.bind_ok, if_pos h3]
theorem seq_appF {Cs : List Addr} {i : Nat} {f : Str} {fa : Env → Res D} {g2 : Env → Res Fl} {env : Env} {C : Addr} {fs : Fl2} {ds : List D} {d : D} {r : Res Fl} (h1 : env[i]? = some (.oi C fs)) (hC : C ∈ Cs) (h2 : fs.lookup f = some ds) (hl : ds.length < 1000000) (h3 : fa env = .ok d) (hr : g2 (env.set i (.oi C (putL f (ds ++ [d]) fs))) = r) : sSeq (sAppF Cs i f fa) g2 env = r := by
  refine seq_nx ?_ hr
  unfold sAppF
  rw [h1]
  show (if C ∈ Cs then (match fs.lookup f with
    | some ds => if ds.length < 1000000 then (fa env).bind fun d => Res.ok (Fl.nx (env.set i (.oi C (putL f (ds ++ [d]) fs)))) else Res.no
    | none => Res.no) else Res.no) = _
  rw [if_pos hC, h2]
  show (if ds.length < 1000000 then (fa env).bind fun d => Res.ok (Fl.nx (env.set i (.oi C (putL f (ds ++ [d]) fs)))) else Res.no) = _
  rw [if_pos hl, h3]
  rfl
theorem seq_popF {Cs : List Addr} {i : Nat} {f : Str} {g2 : Env → Res Fl} {env : Env} {C : Addr} {fs : Fl2} {ds : List D} {r : Res Fl} (h1 : env[i]? = some (.oi C fs)) (hC : C ∈ Cs) (h2 : fs.lookup f = some ds) (hl : ds.length ≠ 0) (hr : g2 (env.set i (.oi C (putL f ds.dropLast fs))) = r) : sSeq (sPopF Cs i f) g2 env = r := by
  refine seq_nx ?_ hr
  unfold sPopF
  rw [h1]
  show (if C ∈ Cs then (match fs.lookup f with
    | some ds => if ds.length = 0 then Res.no else Res.ok (Fl.nx (env.set i (.oi C (putL f ds.dropLast fs))))
    | none => Res.no) else Res.no) = _
  rw [if_pos hC, h2]
  show (if ds.length = 0 then Res.no else Res.ok (Fl.nx (env.set i (.oi C (putL f ds.dropLast fs))))) = _
  rw [if_neg hl]
theorem soSeq_nx {g1 : Env → Res Fl} {g2 : Env → Res Fo} {env e : Env} {r : Res Fo} (h : g1 env = .ok (.nx e)) (hr : g2 e = r) : soSeq g1 g2 env = r := by
  unfold soSeq
  rw [h]
  exact hr
theorem soMk_of {C : Addr} {g : List D → Option Fs} {fl : Env → Res (List D)} {env : Env} {ds : List D} {fs : Fl2} (h1 : fl env = .ok ds) (h2 : (g ds).bind allL = some fs) : soMk C g fl env = .ok (.ow (.ins C fs)) := by
  unfold soMk
  rw [h1, Res.bind_ok, h2]
theorem runO_ow {n : Nat} {g : Env → Res Fo} {ds : List D} {o : Ow} (h : g (envOf n ds) = .ok (.ow o)) : runO n g ds = .ok o := by
  unfold runO
  rw [h]
theorem acons {fa : Env → Res D} {fl : Env → Res (List D)} {env : Env} {a : D} {r : List D} (h : fa env = .ok a) (hr : fl env = .ok r) : aCons fa fl env = .ok (a :: r) := by
  unfold aCons
  rw [h, Res.bind_ok, hr]
  rfl
theorem anil {env : Env} : aNil env = .ok [] := rfl
theorem view_is {i : Nat} {C : Addr} {env : Env} {d : D} {b : Bool} (hd : eVar i (Dt.view env) = .ok d) (h : isiD K (cis K) [d, .cls C] = some (.bl b)) : eView (eFn (isiD K (cis K)) (aCons (eVar i) (aCons (eC (.cls C)) aNil))) env = .ok (.bl b) := eView_of (fn2 (a := d) (b := .cls C) hd rfl h) rfl
theorem eLst_of {fl : Env → Res (List D)} {env : Env} {ds : List D} (h : fl env = .ok ds) : eLst fl env = .ok (.lst ds) := by
  unfold eLst
  rw [h]
  rfl
theorem soSeq_ex {g1 : Env → Res Fl} {g2 : Env → Res Fo} {env : Env} {C : Addr} (h : g1 env = .ex C) : soSeq g1 g2 env = .ex C := by
  unfold soSeq
  rw [h]
theorem runO_ex {n : Nat} {g : Env → Res Fo} {ds : List D} {C : Addr} (h : g (envOf n ds) = .ex C) : runO n g ds = .ex C := by
  unfold runO
  rw [h]
end Dt.Ws
namespace Dt.Ws
open PySem L2 Dt He
variable {K : PySem.W.Frag}
local macro_rules | `(tactic| walk_at "ev") => `(tactic| simp only [run, fin, envOf, sSeq, sNil, sAsg, sPar, sRet, sRetN, sDrop, sIf, sNever, bNm, bTup, bsCons, bsNil, bOk_ok, eVar, eC, eOp, eUn, toB, bV, bAnd, bOr, bNot, eB, eIf, aNil, aCons, eFn, eCall, eTup, eLst, eFld, eMk, eMk0, eMt, eChain, iL, iT, eSl, eSlSt, oNone, oSome, toI, toL_lst, toT_tup, Res.bind_ok, Res.bind_no, Res.bind_ex, sRaise, eM1, isStr, iS, ofO_some, ofO_none, List.map_cons, List.map_nil, List.length_cons, List.length_nil, List.cons_append, List.nil_append, List.replicate, List.getElem?_cons_zero, List.getElem?_cons_succ, List.set_cons_zero, List.set_cons_succ, if_true, if_false, Bool.false_eq_true, Nat.sub_self, Nat.reduceSub, Nat.reduceAdd, isi_int_int, isi_int_bool, isi_int_tuple, isi_int_list, isi_int_str, isi_bl_int, isi_bl_bool, isi_bl_tuple, isi_bl_list, isi_bl_str, isi_non_int, isi_non_bool, isi_non_tuple, isi_non_list, isi_non_str, isi_str_int, isi_str_bool, isi_str_tuple, isi_str_list, isi_str_str, isi_tup_int, isi_tup_bool, isi_tup_tuple, isi_tup_list, isi_tup_str, isi_lst_int, isi_lst_bool, isi_lst_tuple, isi_lst_list, isi_lst_str, isi_tr_int, isi_tr_bool, isi_tr_tuple, isi_tr_list, isi_tr_str, isi_bk_int, isi_bk_bool, isi_bk_tuple, isi_bk_list, isi_bk_str, isi_dic_int, isi_dic_bool, isi_dic_tuple, isi_dic_list, isi_dic_str, isL_bk, divD_2, modD_2, divD_3, modD_3, divD_4, modD_4, divD_5, modD_5, divD_6, modD_6, divD_7, modD_7, divD_8, modD_8, divD_9, modD_9, divD_10, modD_10, divD_11, modD_11, divD_13, modD_13, divD_15, modD_15, divD_17, modD_17, divD_24, modD_24, divD_40, modD_40, divD_41, modD_41, divD_44, modD_44, divD_60, modD_60, divD_90, modD_90, divD_100, modD_100, divD_120, modD_120, divD_T30, modD_T30, divD_T40, modD_T40, divD_T60, modD_T60, powD_30, powD_40, powD_60, sumD_ints, Option.map_some, ↓reduceIte, reduceCtorEq, isLst, addD_int, subD_int, ltD_int, leD_int, gtD_int, geD_int, negD_int, eqD_int, neD_int, ix0_tr, ix1_tr, ix0, ix1, len_tr, len_bk, len_tup2, toL_bk, toT_tr, list_bk, eqD_bk, neD_bk, eqD_tr, neD_tr, eqD_bk0, neD_bk0, Bool.not_true, Bool.not_false, Bool.true_and, Bool.false_and, Bool.and_true, Bool.and_false, decide_true, decide_false])
open TL PySem.NumText
/-! ### texts: numbers -/
theorem eqB_str (a b : Str) : eqB (.str a) (.str b) = some (decide (a = b)) := by
  show some (decide (V.str a = V.str b)) = _
  congr 1
  rw [Bool.eq_iff_iff]
  simp
theorem eqD_str {a b : Str} : eqD (.str a) (.str b) = some (.bl (decide (a = b))) := by
  unfold eqD
  rw [eqB_str]
  rfl
theorem neD_str {a b : Str} : neD (.str a) (.str b) = some (.bl (!decide (a = b))) := by
  unfold neD
  rw [eqB_str]
  rfl
theorem len_strD {w : Str} (h : w.length ≤ 900000) : lenD [.str w] = some (.int (w.length : Nat)) := if_pos (by omega)
theorem split_D {w p : Str} (h : w.length ≤ 900000) (hp : (p.length == 0) = false) : splitD (.str w) (.str p) = some (.lst ((Txt.split w p).map D.str)) := if_pos ⟨hp, h⟩
theorem part_D {w p : Str} (h : w.length ≤ 900000) (hp : (p.length == 0) = false) : partD (.str w) (.str p) = some (.tup [.str (Txt.partition w p).1, .str (Txt.partition w p).2.1, .str (Txt.partition w p).2.2]) := if_pos ⟨hp, h⟩
theorem strip_D {w p : Str} (h : w.length ≤ 900000) : stripD (.str w) (.str p) = some (.str (Txt.stripChars w p)) := if_pos h
theorem add_strD {a b : Str} (h : a.length + b.length ≤ 1000000) : addD (.str a) (.str b) = some (.str (a ++ b)) := if_pos h
theorem head_ix {w : Str} (h1 : 1 ≤ w.length) (h2 : w.length ≤ 900000) : ∃ c, (tl w).head? = some c ∧ ixD (.str w) (.int 0) = some (.str ⟨#[c]⟩) := by
  rw [len_tl] at h1
  cases e : tl w with
  | nil =>
    rw [e] at h1
    cases h1
  | cons c r =>
    refine ⟨c, rfl, ?_⟩
    show (if w.length ≤ 1000000 then (L2.atI w.cps.toList 0).map fun c => D.str ⟨#[c]⟩ else none) = _
    rw [if_pos (by omega)]
    have e' : w.cps.toList = c :: r := e
    rw [e', show (0 : Int) = ((0 : Nat) : Int) from rfl, atI_nat (show (c :: r)[0]? = some c from rfl)]
    rfl
theorem one_nought {c : Nat} : ((⟨#[c]⟩ : Str) = "0") ↔ c = 48 := by
  constructor
  · intro h
    have := congrArg tl h
    rw [tl_nought] at this
    have : [c] = [48] := this
    injection this
  · rintro rfl
    exact ext_tl tl_nought.symm
theorem numOk_true {w : Str} (h1 : 1 ≤ w.length) (h2 : w.length ≤ 60) (h3 : ∀ c ∈ tl w, 48 ≤ c ∧ c ≤ 57) (h4 : (tl w).head? = some 48 → w = "0") : numOk w = true := by
  unfold numOk
  rw [decide_eq_true h1, decide_eq_true h2, decide_eq_true h3]
  by_cases h : (tl w).head? = some 48
  · rw [decide_eq_true h, decide_eq_true (h4 h)]
    rfl
  · rw [decide_eq_false h]
    rfl
theorem numOk_len {w : Str} (h : ¬ (1 ≤ w.length ∧ w.length ≤ 60)) : numOk w = false := by
  unfold numOk
  by_cases h1 : 1 ≤ w.length
  · rw [decide_eq_false (p := w.length ≤ 60) (fun z => h ⟨h1, z⟩)]
    simp
  · rw [decide_eq_false h1]
    simp
theorem numOk_sign {w : Str} (h : ¬ ∀ c ∈ tl w, 48 ≤ c ∧ c ≤ 57) : numOk w = false := by
  unfold numOk
  rw [decide_eq_false h]
  simp
theorem numOk_head {w : Str} (h : (tl w).head? = some 48) (h2 : w ≠ "0") : numOk w = false := by
  unfold numOk
  rw [decide_eq_true h, decide_eq_false h2]
  simp
theorem int_D {w : Str} (h : numOk w = true) : intSD [.str w] = some (.int (valOf w)) := by
  have h2 := (numOk_canon h).2
  show (if w.length ≤ 640 then (intText? w).map D.int else none) = _
  rw [if_pos (by omega), val_int h]
  rfl
theorem strip_fig {w : Str} : (Txt.stripChars w "0123456789" = ("" : Str)) ↔ ∀ c ∈ tl w, 48 ≤ c ∧ c ≤ 57 := by
  have e : ("" : Str) = Str.empty := ext_tl tl_empty
  rw [e, strip_all]
  constructor
  · exact fun h c hc => in_FIG.mp (h c hc)
  · exact fun h c hc => in_FIG.mpr (h c hc)
theorem number_in_eq {w : Str} (h : w.length ≤ 900000) : f_number_in K [.str w] = if numOk w = true then .ok (.int (valOf w)) else .ex (ga K "BadText") := by
  have hl := len_strD h
  have c1 : eChain leD leD (eC (.int 1)) (eFn lenD (aCons (eVar 0) aNil)) (eC (.int 60)) [.sh (.str w)] = .ok (.bl (decide (1 ≤ w.length ∧ w.length ≤ 60))) := by
    by_cases h1 : 1 ≤ w.length
    · have e1 : decide ((1 : Int) ≤ (w.length : Nat)) = true := decide_eq_true (by omega)
      repeat (first | simp only [hl, e1] | walk_at "ev")
      congr 2
      rw [Bool.eq_iff_iff]
      simp
      omega
    · have e1 : decide ((1 : Int) ≤ (w.length : Nat)) = false := decide_eq_false (by omega)
      repeat (first | simp only [hl, e1] | walk_at "ev")
      congr 2
      rw [Bool.eq_iff_iff]
      simp
      omega
  by_cases c : 1 ≤ w.length ∧ w.length ≤ 60
  · have hb : bNot (bV (eChain leD leD (eC (.int 1)) (eFn lenD (aCons (eVar 0) aNil)) (eC (.int 60)))) [.sh (.str w)] = .ok false := by
      rw [decide_eq_true c] at c1
      exact bNot_of (b := true) (bV_of c1)
    obtain ⟨x, hx, ex⟩ := head_ix c.1 h
    have st : bV (eOp neD (eM1 stripD (eVar 0) (eC (.str "0123456789"))) (eC (.str ""))) [.sh (.str w)] = .ok (!decide (Txt.stripChars w "0123456789" = ("" : Str))) := by
      refine bV_of (op_of (a := .str (Txt.stripChars w "0123456789")) (b := .str "") ?_ rfl neD_str)
      repeat (first | simp only [strip_D h] | walk_at "ev")
    by_cases g : ∀ c ∈ tl w, 48 ≤ c ∧ c ≤ 57
    · rw [strip_fig.mpr g, decide_eq_true rfl] at st
      have z : bAnd (bV (eOp eqD (eOp ixD (eVar 0) (eC (.int 0))) (eC (.str "0")))) (bV (eOp neD (eVar 0) (eC (.str "0")))) [.sh (.str w)] = .ok (decide ((tl w).head? = some 48) && !decide (w = "0")) := by
        have e1 : eOp eqD (eOp ixD (eVar 0) (eC (.int 0))) (eC (.str "0")) [.sh (.str w)] = .ok (.bl (decide (x = 48))) := by
          refine op_of (a := .str ⟨#[x]⟩) (b := .str "0") (op_of rfl rfl ex) rfl ?_
          rw [eqD_str]
          congr 2
          rw [Bool.eq_iff_iff, decide_eq_true_eq, decide_eq_true_eq]
          exact one_nought
        rw [hx]
        by_cases q : x = 48
        · rw [decide_eq_true q] at e1
          rw [q, decide_eq_true rfl, Bool.true_and]
          exact bAnd_T (bV_of e1) (bV_of (op_of (a := .str w) (b := .str "0") rfl rfl neD_str))
        · rw [decide_eq_false q] at e1
          rw [decide_eq_false (fun z => q (Option.some.inj z)), Bool.false_and]
          exact bAnd_F (bV_of e1)
      by_cases k : (tl w).head? = some 48 ∧ w ≠ "0"
      · rw [numOk_head k.1 k.2, if_neg (by decide)]
        refine run_ex (seq_ex (if_ex (bOr_F hb (bOr_F st (z.trans ?_))) rfl))
        rw [decide_eq_true k.1, decide_eq_false k.2]
        rfl
      · have ok := numOk_true c.1 c.2 g fun q => Classical.byContradiction fun n => k ⟨q, n⟩
        rw [if_pos ok]
        refine run_rt (seq_ifF (bOr_F hb (bOr_F st (z.trans ?_))) (ret_of (fn1 rfl (int_D ok))))
        by_cases q : (tl w).head? = some 48
        · rw [decide_eq_true q, decide_eq_true (Classical.byContradiction fun n => k ⟨q, n⟩)]
          rfl
        · rw [decide_eq_false q]
          rfl
    · rw [decide_eq_false (fun q => g (strip_fig.mp q))] at st
      rw [numOk_sign g, if_neg (by decide)]
      exact run_ex (seq_ex (if_ex (bOr_F hb (bOr_T st)) rfl))
  · rw [numOk_len c, if_neg (by decide)]
    rw [decide_eq_false c] at c1
    exact run_ex (seq_ex (if_ex (bOr_T (bNot_of (b := false) (bV_of c1))) rfl))
theorem law_number_eq {w : Str} (h : w.length ≤ 900000) : f__law_number K [.str w] = .ok (if numOk w = true then .int (valOf w) else .non) := by
  have hl := len_strD h
  have c1 : eChain ltD ltD (eC (.int 0)) (eFn lenD (aCons (eVar 0) aNil)) (eC (.int 61)) [.sh (.str w), .no] = .ok (.bl (decide (1 ≤ w.length ∧ w.length ≤ 60))) := by
    by_cases h1 : 1 ≤ w.length
    · have e1 : decide ((0 : Int) < (w.length : Nat)) = true := decide_eq_true (by omega)
      repeat (first | simp only [hl, e1] | walk_at "ev")
      congr 2
      rw [Bool.eq_iff_iff]
      simp
      omega
    · have e1 : decide ((0 : Int) < (w.length : Nat)) = false := decide_eq_false (by omega)
      repeat (first | simp only [hl, e1] | walk_at "ev")
      congr 2
      rw [Bool.eq_iff_iff]
      simp
      omega
  by_cases c : 1 ≤ w.length ∧ w.length ≤ 60
  · have hb : bNot (bV (eChain ltD ltD (eC (.int 0)) (eFn lenD (aCons (eVar 0) aNil)) (eC (.int 61)))) [.sh (.str w), .no] = .ok false := by
      rw [decide_eq_true c] at c1
      exact bNot_of (b := true) (bV_of c1)
    obtain ⟨x, hx, ex⟩ := head_ix c.1 h
    have lc : eLC [1] (bNm 1) bYes (eOp inSD (eVar 1) (eC (.str "0123456789"))) (iS (eVar 0)) [.sh (.str w), .no] = .ok (.lst ((tl w).map fun c => .bl (decide (48 ≤ c ∧ c ≤ 57)))) :=
      eLC_of (tl w) (fun c => .str ⟨#[c]⟩) (fun c => .bl (decide (48 ≤ c ∧ c ≤ 57))) rfl (by rw [← len_tl]; omega) fun c _ => ⟨_, rfl, by
        simp only [wipeE]
        refine op_of (a := .str ⟨#[c]⟩) (b := .str "0123456789") rfl rfl ?_
        show some (D.bl (decide (c ∈ tl FIG))) = _
        congr 2
        rw [Bool.eq_iff_iff, decide_eq_true_eq, decide_eq_true_eq]
        exact in_FIG⟩
    have al := all_lc lc
    have ea : (tl w).all (fun c => decide (48 ≤ c ∧ c ≤ 57)) = decide (∀ c ∈ tl w, 48 ≤ c ∧ c ≤ 57) := by
      rw [Bool.eq_iff_iff, List.all_eq_true, decide_eq_true_eq]
      constructor
      · exact fun h c hc => of_decide_eq_true (h c hc)
      · exact fun h c hc => decide_eq_true (h c hc)
    rw [ea] at al
    by_cases g : ∀ c ∈ tl w, 48 ≤ c ∧ c ≤ 57
    · rw [decide_eq_true g] at al
      have z : bAnd (bV (eOp eqD (eOp ixD (eVar 0) (eC (.int 0))) (eC (.str "0")))) (bV (eOp neD (eVar 0) (eC (.str "0")))) [.sh (.str w), .no] = .ok (decide ((tl w).head? = some 48) && !decide (w = "0")) := by
        have e1 : eOp eqD (eOp ixD (eVar 0) (eC (.int 0))) (eC (.str "0")) [.sh (.str w), .no] = .ok (.bl (decide (x = 48))) := by
          refine op_of (a := .str ⟨#[x]⟩) (b := .str "0") (op_of rfl rfl ex) rfl ?_
          rw [eqD_str]
          congr 2
          rw [Bool.eq_iff_iff, decide_eq_true_eq, decide_eq_true_eq]
          exact one_nought
        rw [hx]
        by_cases q : x = 48
        · rw [decide_eq_true q] at e1
          rw [q, decide_eq_true rfl, Bool.true_and]
          exact bAnd_T (bV_of e1) (bV_of (op_of (a := .str w) (b := .str "0") rfl rfl neD_str))
        · rw [decide_eq_false q] at e1
          rw [decide_eq_false (fun z => q (Option.some.inj z)), Bool.false_and]
          exact bAnd_F (bV_of e1)
      have b2 := bOr_F hb (bNot_of (b := true) (bV_of al))
      by_cases k : (tl w).head? = some 48 ∧ w ≠ "0"
      · rw [numOk_head k.1 k.2, if_neg (by decide)]
        rw [decide_eq_true k.1, decide_eq_false k.2] at z
        refine run_rt (seq_ifF b2 (ret_of ?_))
        show eIf _ _ _ [.sh (.str w), .no] = _
        unfold eIf
        rw [z]
        rfl
      · have ok := numOk_true c.1 c.2 g fun q => Classical.byContradiction fun n => k ⟨q, n⟩
        rw [if_pos ok]
        have zz : (decide ((tl w).head? = some 48) && !decide (w = "0")) = false := by
          by_cases q : (tl w).head? = some 48
          · rw [decide_eq_true q, decide_eq_true (Classical.byContradiction fun n => k ⟨q, n⟩)]
            rfl
          · rw [decide_eq_false q]
            rfl
        rw [zz] at z
        refine run_rt (seq_ifF b2 (ret_of ?_))
        show eIf _ _ _ [.sh (.str w), .no] = _
        unfold eIf
        rw [z]
        show eFn intSD (aCons (eVar 0) aNil) [.sh (.str w), .no] = _
        exact fn1 rfl (int_D ok)
    · rw [decide_eq_false g] at al
      rw [numOk_sign g, if_neg (by decide)]
      exact run_rt (seq_ifT (bOr_F hb (bNot_of (b := false) (bV_of al))) (ret_of rfl))
  · rw [numOk_len c, if_neg (by decide)]
    rw [decide_eq_false c] at c1
    exact run_rt (seq_ifT (bOr_T (bNot_of (b := false) (bV_of c1))) (ret_of rfl))
/-! ### texts: reading, writing -/
theorem forS_nil {bt : Bt} {gb : Env → Res Fl} {env : Env} : forS bt gb [] env = .ok (.nx env) := rfl
theorem forS_nx {bt : Bt} {gb : Env → Res Fl} {d : D} {ds : List D} {env e1 e2 : Env} (h1 : bt d env = .ok e1) (h2 : gb e1 = .ok (.nx e2)) : forS bt gb (d :: ds) env = forS bt gb ds e2 := by
  show bOk (bt d env) _ = _
  rw [h1, bOk_ok, h2]
theorem forS_ex {bt : Bt} {gb : Env → Res Fl} {d : D} {ds : List D} {env e1 : Env} {C : Addr} (h1 : bt d env = .ok e1) (h2 : gb e1 = .ex C) : forS bt gb (d :: ds) env = .ex C := by
  show bOk (bt d env) _ = _
  rw [h1, bOk_ok, h2]
theorem forS_ret {bt : Bt} {gb : Env → Res Fl} {d r : D} {ds : List D} {env e1 : Env} (h1 : bt d env = .ok e1) (h2 : gb e1 = .ok (.rt r)) : forS bt gb (d :: ds) env = .ok (.rt r) := by
  show bOk (bt d env) _ = _
  rw [h1, bOk_ok, h2]
theorem app_ok {i : Nat} {fa : Env → Res D} {env : Env} {ds : List D} {d : D} (h : env[i]? = some (.ow ds)) (hl : ds.length < 1000000) (h2 : fa env = .ok d) : sApp i fa env = .ok (.nx (env.set i (.ow (ds ++ [d])))) := by
  unfold sApp
  rw [h]
  show (if ds.length < 1000000 then _ else _) = _
  rw [if_pos hl, h2]
  rfl
theorem app_ex {i : Nat} {fa : Env → Res D} {env : Env} {ds : List D} {C : Addr} (h : env[i]? = some (.ow ds)) (hl : ds.length < 1000000) (h2 : fa env = .ex C) : sApp i fa env = .ex C := by
  unfold sApp
  rw [h]
  show (if ds.length < 1000000 then _ else _) = _
  rw [if_pos hl, h2]
  rfl
abbrev readBody (K : PySem.W.Frag) : Env → Res Fl := sSeq (sAsg (eM1 partD (eVar 2) (eC (.str "+"))) (bTup (bsCons (bNm 3) (bsCons (bNm 4) (bsCons (bNm 5) bsNil)))))
    (sApp 1 (eTup (aCons (eCall (f_number_in K) (aCons (eVar 3) aNil)) (aCons (eCall (f_number_in K) (aCons (eVar 5) aNil)) aNil))))
theorem part_lens {w : Str} : (Txt.partition w PLUS).1.length ≤ w.length ∧ (Txt.partition w PLUS).2.2.length ≤ w.length := by
  rcases word_cases w with ⟨_, e, _⟩ | ⟨a, r, e, ew, _⟩
  · rw [e]
    exact ⟨Nat.le_refl _, Nat.zero_le _⟩
  · rw [e]
    exact word_len ew
theorem read_word {w : Str} {t a3 a4 a5 : Sl} {acc : List D} (hw : w.length ≤ 900000) (ha : acc.length < 1000000) :
    (∀ u, wordP w = some u → ∃ b3 b4 b5, readBody K [t, .ow acc, .sh (.str w), a3, a4, a5] = .ok (.nx [t, .ow (acc ++ [tr u]), .sh (.str w), b3, b4, b5])) ∧ (wordP w = none → readBody K [t, .ow acc, .sh (.str w), a3, a4, a5] = .ex (ga K "BadText")) := by
  obtain ⟨l1, l2⟩ := part_lens (w := w)
  have n1 := number_in_eq (K := K) (w := (Txt.partition w PLUS).1) (by omega)
  have n2 := number_in_eq (K := K) (w := (Txt.partition w PLUS).2.2) (by omega)
  have hp : eM1 partD (eVar 2) (eC (.str "+")) [t, .ow acc, .sh (.str w), a3, a4, a5] = .ok (.tup [.str (Txt.partition w PLUS).1, .str (Txt.partition w PLUS).2.1, .str (Txt.partition w PLUS).2.2]) := by
    have := part_D hw (p := PLUS) (by decide +kernel)
    repeat (first | simp only [this] | walk_at "ev")
  have st : ∀ {r : Res Fl}, (sApp 1 (eTup (aCons (eCall (f_number_in K) (aCons (eVar 3) aNil)) (aCons (eCall (f_number_in K) (aCons (eVar 5) aNil)) aNil)))) [t, .ow acc, .sh (.str w), .sh (.str (Txt.partition w PLUS).1), .sh (.str (Txt.partition w PLUS).2.1), .sh (.str (Txt.partition w PLUS).2.2)] = r → readBody K [t, .ow acc, .sh (.str w), a3, a4, a5] = r := fun h => seq_asg hp rfl h
  unfold wordP
  by_cases c1 : numOk (Txt.partition w PLUS).1 = true
  · rw [if_pos c1] at n1
    by_cases c2 : numOk (Txt.partition w PLUS).2.2 = true
    · rw [if_pos c2] at n2
      rw [if_pos ⟨c1, c2⟩]
      refine ⟨fun u hu => ?_, fun z => by cases z⟩
      cases hu
      refine ⟨_, _, _, st (app_ok rfl ha (d := tr (valOf (Txt.partition w PLUS).1, valOf (Txt.partition w PLUS).2.2)) ?_)⟩
      repeat (first | simp only [n1, n2] | walk_at "ev")
      rfl
    · rw [if_neg c2] at n2
      rw [if_neg (fun z => c2 z.2)]
      refine ⟨fun u hu => (by cases hu), fun _ => st (app_ex rfl ha ?_)⟩
      repeat (first | simp only [n1, n2] | walk_at "ev")
  · rw [if_neg c1] at n1
    rw [if_neg (fun z => c1 z.1)]
    refine ⟨fun u hu => (by cases hu), fun _ => st (app_ex rfl ha ?_)⟩
    repeat (first | simp only [n1, n2] | walk_at "ev")
theorem read_loop {t : Sl} : ∀ (ws : List Str) (acc : List (Int × Int)) (a2 a3 a4 a5 : Sl), (∀ w ∈ ws, w.length ≤ 900000) → acc.length + ws.length < 1000000 →
    (∀ l, wordsP ws = some l → ∃ b2 b3 b4 b5, forS (bNm 2) (readBody K) (ws.map D.str) [t, .ow (acc.map tr), a2, a3, a4, a5] = .ok (.nx [t, .ow ((acc ++ l).map tr), b2, b3, b4, b5])) ∧
    (wordsP ws = none → forS (bNm 2) (readBody K) (ws.map D.str) [t, .ow (acc.map tr), a2, a3, a4, a5] = .ex (ga K "BadText"))
  | [], acc, a2, a3, a4, a5, _, _ => ⟨fun l hl => by
      cases hl
      rw [List.append_nil]
      exact ⟨a2, a3, a4, a5, rfl⟩, fun z => by cases z⟩
  | w :: ws, acc, a2, a3, a4, a5, hw, hl => by
    rw [List.length_cons] at hl
    obtain ⟨y, n⟩ := read_word (K := K) (w := w) (t := t) (a3 := a3) (a4 := a4) (a5 := a5) (acc := acc.map tr) (hw w List.mem_cons_self) (by rw [List.length_map]; omega)
    show (∀ l, (match wordP w, wordsP ws with | some t, some l => some (t :: l) | _, _ => none) = some l → _) ∧ ((match wordP w, wordsP ws with | some t, some l => some (t :: l) | _, _ => none) = none → _)
    cases e : wordP w with
    | none =>
      refine ⟨fun l z => (by cases z), fun _ => forS_ex rfl (n e)⟩
    | some u =>
      obtain ⟨b3, b4, b5, h⟩ := y u e
      obtain ⟨y2, n2⟩ := read_loop (t := t) ws (acc ++ [u]) (.sh (.str w)) b3 b4 b5 (fun x hx => hw x (List.mem_cons_of_mem _ hx)) (by rw [List.length_append, List.length_singleton]; omega)
      rw [List.map_append] at y2 n2
      have st : forS (bNm 2) (readBody K) ((w :: ws).map D.str) [t, .ow (acc.map tr), a2, a3, a4, a5] = forS (bNm 2) (readBody K) (ws.map D.str) [t, .ow (acc.map tr ++ [u].map tr), .sh (.str w), b3, b4, b5] := forS_nx rfl h
      rw [st]
      cases e2 : wordsP ws with
      | none => exact ⟨fun l z => (by cases z), fun _ => n2 e2⟩
      | some l2 =>
        refine ⟨fun l z => ?_, fun z => by cases z⟩
        cases z
        rw [show acc ++ u :: l2 = (acc ++ [u]) ++ l2 by simp]
        exact y2 l2 e2
theorem read_ok {t : Str} {l : List (Int × Int)} (ht : t.length ≤ 900000) (h : wordsP (Txt.split t BLANK) = some l) : f_read K [.str t] = .ok (.lst (l.map tr)) := by
  have hs : eM1 splitD (eVar 0) (eC (.str " ")) [.sh (.str t), .ow [], .no, .no, .no, .no] = .ok (.lst ((Txt.split t BLANK).map D.str)) := by
    have := split_D ht (p := BLANK) (by decide +kernel)
    repeat (first | simp only [this] | walk_at "ev")
  have few := split_few t
  obtain ⟨b2, b3, b4, b5, z⟩ := (read_loop (K := K) (t := .sh (.str t)) (Txt.split t BLANK) [] .no .no .no .no (fun w hw => Nat.le_trans (split_word hw) ht) (by simp only [List.length_nil]; omega)).1 l h
  refine runO_ow (soSeq_nx (e := [.sh (.str t), .no, .no, .no, .no, .no]) (by
    show sIf _ _ _ [.sh (.str t), .no, .no, .no, .no, .no] = _
    repeat walk_at "ev") (soSeq_nx (e := [.sh (.str t), .ow [], .no, .no, .no, .no]) rfl (soSeq_nx (e := [.sh (.str t), .ow (l.map tr), b2, b3, b4, b5]) ?_ rfl)))
  unfold sFor iL
  rw [hs]
  exact z
theorem read_bad {t : Str} (ht : t.length ≤ 900000) (h : wordsP (Txt.split t BLANK) = none) : f_read K [.str t] = .ex (ga K "BadText") := by
  have hs : eM1 splitD (eVar 0) (eC (.str " ")) [.sh (.str t), .ow [], .no, .no, .no, .no] = .ok (.lst ((Txt.split t BLANK).map D.str)) := by
    have := split_D ht (p := BLANK) (by decide +kernel)
    repeat (first | simp only [this] | walk_at "ev")
  have few := split_few t
  have z := (read_loop (K := K) (t := .sh (.str t)) (Txt.split t BLANK) [] .no .no .no .no (fun w hw => Nat.le_trans (split_word hw) ht) (by simp only [List.length_nil]; omega)).2 h
  refine runO_ex (soSeq_nx (e := [.sh (.str t), .no, .no, .no, .no, .no]) (by
    show sIf _ _ _ [.sh (.str t), .no, .no, .no, .no, .no] = _
    repeat walk_at "ev") (soSeq_nx (e := [.sh (.str t), .ow [], .no, .no, .no, .no]) rfl (soSeq_ex ?_)))
  unfold sFor iL
  rw [hs]
  exact z
theorem read_kind {d : D} (h : isiD K (cis K) [d, .ty "str"] = some (.bl false)) : f_read K [d] = .ex (ga K "BadText") := by
  refine runO_ex (soSeq_ex (if_ex (bNot_of (b := false) (bV_of (fn2 (a := d) (b := .ty "str") rfl rfl h))) rfl))
abbrev inBody (K : PySem.W.Frag) : Env → Res Fl := sSeq (sAsg (eM1 splitD (eVar 2) (eC (.str "+"))) (bNm 3))
    (sSeq (sIf (bOr (bV (eOp neD (eFn lenD (aCons (eVar 3) aNil)) (eC (.int 2)))) (bV (eOp inD (eC .non) (eLC [4] (bNm 4) bYes (eCall (f__law_number K) (aCons (eVar 4) aNil)) (iL (eVar 3)))))) (sRet (eC .non)) sNil)
    (sApp 1 (eTup (aCons (eCall (f__law_number K) (aCons (eOp ixD (eVar 3) (eC (.int 0))) aNil)) (aCons (eCall (f__law_number K) (aCons (eOp ixD (eVar 3) (eC (.int 1))) aNil)) aNil)))))
theorem in_word {w : Str} {t a3 a4 : Sl} {acc : List D} (hw : w.length ≤ 900000) (ha : acc.length < 1000000) :
    (∀ u, wordP w = some u → ∃ b3 b4, inBody K [t, .ow acc, .sh (.str w), a3, a4] = .ok (.nx [t, .ow (acc ++ [tr u]), .sh (.str w), b3, b4])) ∧ (wordP w = none → inBody K [t, .ow acc, .sh (.str w), a3, a4] = .ok (.rt .non)) := by
  have hs : eM1 splitD (eVar 2) (eC (.str "+")) [t, .ow acc, .sh (.str w), a3, a4] = .ok (.lst ((Txt.split w PLUS).map D.str)) := by
    have := split_D hw (p := PLUS) (by decide +kernel)
    repeat (first | simp only [this] | walk_at "ev")
  have len : ∀ xs : List Str, lenD [.lst (xs.map D.str)] = some (.int xs.length) := fun xs => by
    show some (D.int ((xs.map D.str).length : Nat)) = _
    rw [List.length_map]
  have bad : (Txt.split w PLUS).length ≠ 2 → inBody K [t, .ow acc, .sh (.str w), a3, a4] = .ok (.rt .non) := fun n => by
    refine seq_set hs (seq_ifT (bOr_T (bV_of (op_of (b := .int 2) (fn1 rfl (len _)) rfl ?_))) rfl)
    rw [neD_int, decide_eq_false (by omega)]
    rfl
  unfold wordP
  rcases word_cases w with ⟨_, e, es⟩ | ⟨a, r, e, ew, h⟩
  · rw [e, if_neg (fun z => by
      have := z.2
      rw [numOk_empty] at this
      cases this)]
    exact ⟨fun u z => (by cases z), fun _ => bad (by rw [es]; simp)⟩
  · rw [e]
    obtain ⟨l1, l2⟩ := word_len ew
    rcases h with ⟨_, es⟩ | ⟨hr, es⟩
    · rw [es] at hs
      have n1 := law_number_eq (K := K) (w := a) (by omega)
      have n2 := law_number_eq (K := K) (w := r) (by omega)
      have c1 : bV (eOp neD (eFn lenD (aCons (eVar 3) aNil)) (eC (.int 2))) [t, .ow acc, .sh (.str w), .sh (.lst ([a, r].map D.str)), a4] = .ok false := bV_of (op_of (b := .int 2) (fn1 rfl (len [a, r])) rfl (by
        rw [neD_int]
        rfl))
      have lc := eLC_of (vs := [4]) (bt := bNm 4) (fe := eCall (f__law_number K) (aCons (eVar 4) aNil)) (fi := iL (eVar 3)) (env := [t, .ow acc, .sh (.str w), .sh (.lst ([a, r].map D.str)), a4]) [a, r] D.str (fun w => if numOk w = true then .int (valOf w) else .non) rfl (by show 2 ≤ 1000000; omega) fun x hx => ⟨_, rfl, by
        simp only [wipeE]
        refine call1 (a := .str x) rfl (law_number_eq ?_)
        simp only [List.mem_cons, List.not_mem_nil, or_false] at hx
        rcases hx with rfl | rfl <;> omega⟩
      have i1 : eOp inD (eC .non) (eLC [4] (bNm 4) bYes (eCall (f__law_number K) (aCons (eVar 4) aNil)) (iL (eVar 3))) [t, .ow acc, .sh (.str w), .sh (.lst ([a, r].map D.str)), a4] = .ok (.bl (!(numOk a && numOk r))) := by
        refine op_of (a := .non) rfl lc ?_
        show inD .non (.lst [if numOk a = true then .int (valOf a) else .non, if numOk r = true then .int (valOf r) else .non]) = _
        cases numOk a <;> cases numOk r <;> rfl
      by_cases c : numOk a = true ∧ numOk r = true
      · rw [if_pos c]
        refine ⟨fun u hu => ?_, fun z => by cases z⟩
        cases hu
        rw [c.1, c.2] at i1
        rw [if_pos c.1] at n1
        rw [if_pos c.2] at n2
        refine ⟨_, _, seq_set hs (seq_ifF (bOr_F c1 (bV_of i1)) (app_ok rfl ha (d := tr (valOf a, valOf r)) ?_))⟩
        have x0 : ixD (.lst [.str a, .str r]) (.int 0) = some (.str a) := rfl
        have x1 : ixD (.lst [.str a, .str r]) (.int 1) = some (.str r) := rfl
        show eTup _ [t, .ow acc, .sh (.str w), .sh (.lst [.str a, .str r]), a4] = _
        repeat (first | simp only [n1, n2, x0, x1] | walk_at "ev")
        rfl
      · rw [if_neg c]
        refine ⟨fun u hu => (by cases hu), fun _ => ?_⟩
        have z : (!(numOk a && numOk r)) = true := by
          cases h1 : numOk a
          · rfl
          · cases h2 : numOk r
            · rfl
            · exact absurd ⟨h1, h2⟩ c
        rw [z] at i1
        exact seq_set hs (seq_ifT (bOr_F c1 (bV_of i1)) rfl)
    · rw [if_neg (fun z => by
        have := z.2
        rw [numOk_plus hr] at this
        cases this)]
      exact ⟨fun u z => (by cases z), fun _ => bad (by omega)⟩
theorem in_loop {t : Sl} : ∀ (ws : List Str) (acc : List (Int × Int)) (a2 a3 a4 : Sl), (∀ w ∈ ws, w.length ≤ 900000) → acc.length + ws.length < 1000000 →
    (∀ l, wordsP ws = some l → ∃ b2 b3 b4, forS (bNm 2) (inBody K) (ws.map D.str) [t, .ow (acc.map tr), a2, a3, a4] = .ok (.nx [t, .ow ((acc ++ l).map tr), b2, b3, b4])) ∧
    (wordsP ws = none → forS (bNm 2) (inBody K) (ws.map D.str) [t, .ow (acc.map tr), a2, a3, a4] = .ok (.rt .non))
  | [], acc, a2, a3, a4, _, _ => ⟨fun l hl => by
      cases hl
      rw [List.append_nil]
      exact ⟨a2, a3, a4, rfl⟩, fun z => by cases z⟩
  | w :: ws, acc, a2, a3, a4, hw, hl => by
    rw [List.length_cons] at hl
    obtain ⟨y, n⟩ := in_word (K := K) (w := w) (t := t) (a3 := a3) (a4 := a4) (acc := acc.map tr) (hw w List.mem_cons_self) (by rw [List.length_map]; omega)
    show (∀ l, (match wordP w, wordsP ws with | some t, some l => some (t :: l) | _, _ => none) = some l → _) ∧ ((match wordP w, wordsP ws with | some t, some l => some (t :: l) | _, _ => none) = none → _)
    cases e : wordP w with
    | none =>
      refine ⟨fun l z => (by cases z), fun _ => forS_ret rfl (n e)⟩
    | some u =>
      obtain ⟨b3, b4, h⟩ := y u e
      obtain ⟨y2, n2⟩ := in_loop (t := t) ws (acc ++ [u]) (.sh (.str w)) b3 b4 (fun x hx => hw x (List.mem_cons_of_mem _ hx)) (by rw [List.length_append, List.length_singleton]; omega)
      rw [List.map_append] at y2 n2
      have st : forS (bNm 2) (inBody K) ((w :: ws).map D.str) [t, .ow (acc.map tr), a2, a3, a4] = forS (bNm 2) (inBody K) (ws.map D.str) [t, .ow (acc.map tr ++ [u].map tr), .sh (.str w), b3, b4] := forS_nx rfl h
      rw [st]
      cases e2 : wordsP ws with
      | none => exact ⟨fun l z => (by cases z), fun _ => n2 e2⟩
      | some l2 =>
        refine ⟨fun l z => ?_, fun z => by cases z⟩
        cases z
        rw [show acc ++ u :: l2 = (acc ++ [u]) ++ l2 by simp]
        exact y2 l2 e2
theorem in_eq {t : Str} (ht : t.length ≤ 900000) : f__law_in K [.str t] = .ok (match wordsP (Txt.split t BLANK) with | some l => bk l | none => .non) := by
  have hs : eM1 splitD (eVar 0) (eC (.str " ")) [.sh (.str t), .ow [], .no, .no, .no] = .ok (.lst ((Txt.split t BLANK).map D.str)) := by
    have := split_D ht (p := BLANK) (by decide +kernel)
    repeat (first | simp only [this] | walk_at "ev")
  have few := split_few t
  obtain ⟨y, n⟩ := in_loop (K := K) (t := .sh (.str t)) (Txt.split t BLANK) [] .no .no .no (fun w hw => Nat.le_trans (split_word hw) ht) (by simp only [List.length_nil]; omega)
  cases e : wordsP (Txt.split t BLANK) with
  | none =>
    refine run_rt (seq_asgO (ds := []) rfl (seq_rt ?_))
    show sFor _ _ _ [.sh (.str t), .ow [], .no, .no, .no] = _
    unfold sFor iL
    rw [hs]
    exact n e
  | some l =>
    obtain ⟨b2, b3, b4, z⟩ := y l e
    refine run_rt (seq_asgO (ds := []) rfl (seq_nx (e := [.sh (.str t), .ow (l.map tr), b2, b3, b4]) ?_ rfl))
    show sFor _ _ _ [.sh (.str t), .ow [], .no, .no, .no] = _
    unfold sFor iL
    rw [hs]
    exact z
end Dt.Ws
namespace Dt.Ws
open PySem L2 Dt He
variable {K : PySem.W.Frag}
local macro_rules | `(tactic| walk_at "ev") => `(tactic| simp only [run, fin, envOf, sSeq, sNil, sAsg, sPar, sRet, sRetN, sDrop, sIf, sNever, bNm, bTup, bsCons, bsNil, bOk_ok, eVar, eC, eOp, eUn, toB, bV, bAnd, bOr, bNot, eB, eIf, aNil, aCons, eFn, eCall, eTup, eLst, eFld, eMk, eMk0, eMt, eChain, iL, iT, eSl, eSlSt, oNone, oSome, toI, toL_lst, toT_tup, Res.bind_ok, Res.bind_no, Res.bind_ex, sRaise, eM1, isStr, iS, ofO_some, ofO_none, List.map_cons, List.map_nil, List.length_cons, List.length_nil, List.cons_append, List.nil_append, List.replicate, List.getElem?_cons_zero, List.getElem?_cons_succ, List.set_cons_zero, List.set_cons_succ, if_true, if_false, Bool.false_eq_true, Nat.sub_self, Nat.reduceSub, Nat.reduceAdd, isi_int_int, isi_int_bool, isi_int_tuple, isi_int_list, isi_int_str, isi_bl_int, isi_bl_bool, isi_bl_tuple, isi_bl_list, isi_bl_str, isi_non_int, isi_non_bool, isi_non_tuple, isi_non_list, isi_non_str, isi_str_int, isi_str_bool, isi_str_tuple, isi_str_list, isi_str_str, isi_tup_int, isi_tup_bool, isi_tup_tuple, isi_tup_list, isi_tup_str, isi_lst_int, isi_lst_bool, isi_lst_tuple, isi_lst_list, isi_lst_str, isi_tr_int, isi_tr_bool, isi_tr_tuple, isi_tr_list, isi_tr_str, isi_bk_int, isi_bk_bool, isi_bk_tuple, isi_bk_list, isi_bk_str, isi_dic_int, isi_dic_bool, isi_dic_tuple, isi_dic_list, isi_dic_str, isL_bk, divD_2, modD_2, divD_3, modD_3, divD_4, modD_4, divD_5, modD_5, divD_6, modD_6, divD_7, modD_7, divD_8, modD_8, divD_9, modD_9, divD_10, modD_10, divD_11, modD_11, divD_13, modD_13, divD_15, modD_15, divD_17, modD_17, divD_24, modD_24, divD_40, modD_40, divD_41, modD_41, divD_44, modD_44, divD_60, modD_60, divD_90, modD_90, divD_100, modD_100, divD_120, modD_120, divD_T30, modD_T30, divD_T40, modD_T40, divD_T60, modD_T60, powD_30, powD_40, powD_60, sumD_ints, Option.map_some, ↓reduceIte, reduceCtorEq, isLst, addD_int, subD_int, ltD_int, leD_int, gtD_int, geD_int, negD_int, eqD_int, neD_int, ix0_tr, ix1_tr, ix0, ix1, len_tr, len_bk, len_tup2, toL_bk, toT_tr, list_bk, eqD_bk, neD_bk, eqD_tr, neD_tr, eqD_bk0, neD_bk0, Bool.not_true, Bool.not_false, Bool.true_and, Bool.false_and, Bool.and_true, Bool.and_false, decide_true, decide_false])
open TL PySem.NumText
theorem callL_hit {i : Nat} {a : Addr} {φ : List D → Res D} {arg : Env → Res D} {env : Env} {x d : D} (h : env[i]? = some (.sh (.cls a))) (h1 : arg env = .ok x) (h2 : φ [x] = .ok d) : eCallL i a φ (aCons arg aNil) env = .ok d := by
  unfold eCallL
  rw [h]
  show (if a = a then eCall φ (aCons arg aNil) env else .no) = _
  rw [if_pos rfl]
  exact call1 h1 h2
theorem callL_miss {i : Nat} {a b : Addr} {φ : List D → Res D} {fl : Env → Res (List D)} {env : Env} (h : env[i]? = some (.sh (.cls b))) (n : b ≠ a) : eCallL i a φ fl env = .no := by
  unfold eCallL
  rw [h]
  show (if b = a then eCall φ fl env else .no) = _
  rw [if_neg n]
theorem fun_ne {x y qx qy : Str} {px py : Arguments} {bx by_ : List Stmt} {sx sy : Scope} (h1 : ∃ fd, L2.FunD K x qx px bx sx [] [] (ga K x) fd) (h2 : ∃ fd, L2.FunD K y qy py by_ sy [] [] (ga K y) fd) (n : x ≠ y) : ga K x ≠ ga K y := fun e => by
  obtain ⟨f1, F1⟩ := h1
  obtain ⟨f2, F2⟩ := h2
  obtain ⟨_, _, _, _, _, _, _, _, _, _, e1, l1, _⟩ := F1.ex
  obtain ⟨_, _, _, _, _, _, _, _, _, _, e2, l2, _⟩ := F2.ex
  rw [e, l2] at l1
  have z : f2 = f1 := by
    injection l1 with z
    injection z with z1 z2 z3 z4
    injection z3
  rw [e1, e2] at z
  exact n (congrArg FuncData.name z).symm
variable {mg : Str → Option Value}
theorem check_long {l : List Tr} (ne : l ≠ []) (len : l.length ≤ 1000000) (nn : ∀ t ∈ l, 0 ≤ t.1 ∧ 0 ≤ t.2) : f_check_book K [bk l] = .ok .non := by
  unfold f_check_book g_check_book
  walk_at "ev"
  rw [eLC_of l tr (fun t => .bl (decide (0 ≤ t.1) && decide (0 ≤ t.2))) (by walk_at "ev") len (fun t ht => ⟨_, rfl, by
    simp only [eCall, aCons, aNil, eVar, eC, wipeE, List.set_cons_succ, List.set_cons_zero, List.getElem?_cons_succ, List.getElem?_cons_zero, Res.bind_ok, is_pair_eq]⟩)]
  walk_at "ev"
  rw [allD_map]
  have e : (l.all fun t => decide (0 ≤ t.1) && decide (0 ≤ t.2)) = true := by
    rw [List.all_eq_true]
    intro t ht
    obtain ⟨h1, h2⟩ := nn t ht
    simp [h1, h2]
  simp [ne, e, toB]
abbrev bigN : Int := 1000000000000000000000000000000000000000000000000000000000000
theorem any_eq {l : List Tr} (len : l.length ≤ 1000000) : eFn anyD (aCons (eLC [1] (bNm 1) bYes (eOp geD (eFn maxTD (aCons (eVar 1) aNil)) (eOp powD (eC (.int 10)) (eC (.int 60)))) (iL (eVar 0))) aNil) [.sh (bk l), .no, .no, .no] = .ok (.bl (l.any fun t => decide (bigN ≤ max t.1 t.2))) := by
  refine any_lc (eLC_of l tr (fun t => .bl (decide (bigN ≤ max t.1 t.2))) rfl len fun t ht => ⟨_, rfl, ?_⟩)
  simp only [wipeE]
  have e : maxTD [tr t] = some (.int (max t.1 t.2)) := rfl
  show eOp _ _ _ [.sh (bk l), .sh (tr t), .no, .no] = _
  repeat (first | simp only [e] | walk_at "ev")
theorem str_D {n : Int} (h0 : 0 ≤ n) (h : n < bigN) : strD [.int n] = some (.str (numS n)) ∧ (numS n).length ≤ 60 := by
  have z : (10 : Nat) ^ 60 = 1000000000000000000000000000000000000000000000000000000000000 := by decide +kernel
  refine ⟨?_, numS_len h0 (by decide) (by rw [z]; exact h)⟩
  show (if n.natAbs < strLim then some (D.str (Str.ofString (toString n))) else none) = _
  rw [if_pos]
  · rfl
  · have e : (10 : Nat) ^ 60 ≤ strLim := by
      unfold strLim
      exact Nat.pow_le_pow_right (by decide) (by decide)
    have h' : n < 1000000000000000000000000000000000000000000000000000000000000 := h
    have : n.natAbs < (10 : Nat) ^ 60 := by rw [z]; omega
    omega
theorem text_of {env : Env} {l : List Tr} {vs : List Nat} {fi : Env → Res (List D)} {a b : Nat} (hi : fi env = .ok (l.map tr)) (nn : ∀ t ∈ l, 0 ≤ t.1 ∧ 0 ≤ t.2) (sm : ∀ t ∈ l, t.1 < bigN ∧ t.2 < bigN) (hs : ((l.map wordOf).map (·.length)).sum + l.length ≤ 1000000)
    (hb : ∀ t ∈ l, ∃ e, bTup (bsCons (bNm a) (bsCons (bNm b) bsNil)) (tr t) (wipeE env vs) = .ok e ∧ eVar a e = .ok (.int t.1) ∧ eVar b e = .ok (.int t.2)) :
    eM1 joinD (eC (.str " ")) (eLC vs (bTup (bsCons (bNm a) (bsCons (bNm b) bsNil))) bYes (eOp addD (eOp addD (eFn strD (aCons (eVar a) aNil)) (eC (.str "+"))) (eFn strD (aCons (eVar b) aNil))) fi) env = .ok (.str (textOf l)) := by
  have e := eLC_of (vs := vs) (bt := bTup (bsCons (bNm a) (bsCons (bNm b) bsNil))) (fe := eOp addD (eOp addD (eFn strD (aCons (eVar a) aNil)) (eC (.str "+"))) (eFn strD (aCons (eVar b) aNil))) (fi := fi) (env := env) l tr (fun t => .str (wordOf t)) hi (by omega) fun t ht => by
    obtain ⟨e, h1, h2, h3⟩ := hb t ht
    obtain ⟨s1, k1⟩ := str_D (nn t ht).1 (sm t ht).1
    obtain ⟨s2, k2⟩ := str_D (nn t ht).2 (sm t ht).2
    have kp : PLUS.length = 1 := by decide +kernel
    have kq : (numS t.1 ++ PLUS).length = (numS t.1).length + 1 := by
      rw [len_tl, tl_append, List.length_append, ← len_tl, ← len_tl, kp]
    exact ⟨e, h1, op_of (op_of (fn1 h2 s1) rfl (add_strD (b := PLUS) (by omega))) (fn1 h3 s2) (add_strD (by omega))⟩
  have j : joinD (.str " ") (.lst (l.map fun t => .str (wordOf t))) = some (.str (textOf l)) := by
    have et : toStrs (l.map fun t => D.str (wordOf t)) = some (l.map wordOf) := by
      have := toStrs_map (l.map wordOf)
      rw [List.map_map] at this
      exact this
    show (match toStrs (l.map fun t => D.str (wordOf t)) with
      | some ys => if (List.map (fun y : Str => y.length) ys).sum + ys.length * BLANK.length ≤ 1000000 then some (D.str (Txt.join BLANK ys)) else none
      | none => none) = _
    rw [et]
    show (if ((l.map wordOf).map (·.length)).sum + (l.map wordOf).length * BLANK.length ≤ 1000000 then some (D.str (Txt.join BLANK (l.map wordOf))) else none) = _
    have kb : BLANK.length = 1 := by decide +kernel
    rw [if_pos (by rw [kb, List.length_map]; omega)]
    rfl
  unfold eM1
  show ((Res.ok (D.str " ")).bind _) = _
  rw [Res.bind_ok]
  show ((eLC vs _ bYes _ fi env).bind fun a => ofO (joinD (.str " ") a)) = _
  rw [e, Res.bind_ok, j]
  rfl
theorem written_eq {l : List Tr} (ne : l ≠ []) (nn : ∀ t ∈ l, 0 ≤ t.1 ∧ 0 ≤ t.2) (sm : ∀ t ∈ l, t.1 < bigN ∧ t.2 < bigN) (hs : ((l.map wordOf).map (·.length)).sum + l.length ≤ 1000000) : f_written K [bk l] = .ok (.str (textOf l)) := by
  have len : l.length ≤ 1000000 := by omega
  have an := any_eq len
  have e : (l.any fun t => decide (bigN ≤ max t.1 t.2)) = false := by
    rw [List.any_eq_false]
    intro t ht
    obtain ⟨h1, h2⟩ := sm t ht
    rw [decide_eq_true_eq]
    omega
  rw [e] at an
  refine run_rt (seq_nx (drop_ok (ds := [bk l]) rfl (check_long ne len nn)) (seq_ifF (bV_of an) (ret_of (text_of rfl nn sm hs fun t ht => ⟨_, rfl, rfl, rfl⟩))))
theorem written_big {l : List Tr} (ne : l ≠ []) (len : l.length ≤ 1000000) (nn : ∀ t ∈ l, 0 ≤ t.1 ∧ 0 ≤ t.2) (big : ∃ t ∈ l, bigN ≤ t.1 ∨ bigN ≤ t.2) : f_written K [bk l] = .ex (ga K "BadBook") := by
  have an := any_eq len
  have e : (l.any fun t => decide (bigN ≤ max t.1 t.2)) = true := by
    rw [List.any_eq_true]
    obtain ⟨t, ht, h⟩ := big
    refine ⟨t, ht, decide_eq_true ?_⟩
    omega
  rw [e] at an
  exact run_ex ((seq_nx (drop_ok (ds := [bk l]) rfl (check_long ne len nn)) rfl).trans (seq_ex (if_ex (bV_of an) rfl)))
/-! ### refused -/
theorem refused_of {ask x : D} {k : Int} {C : Addr} {b0 b1 b2 b3 b4 : Bool} (h : eAlt (eCallL 0 (ga K "read") (deOw (f_read K)) (aCons (eVar 1) aNil)) (eCallL 0 (ga K "written") (f_written K) (aCons (eVar 1) aNil)) [.sh ask, .sh x, .sh (.int k), .no, .no] = .ex C) (hC : C ∈ excs K)
    (k0 : PySem.W.kitOne K (.ref C) (.ref (ga K "BadBook")) = some b0) (k1 : PySem.W.kitOne K (.ref C) (.ref (ga K "BadText")) = some b1) (k2 : PySem.W.kitOne K (.ref C) (.ref (ga K "BadPlace")) = some b2)
    (k3 : PySem.W.kitOne K (.ref C) (.ref (ga K "BadAmount")) = some b3) (k4 : PySem.W.kitOne K (.ref C) (.ref (ga K "BadMoney")) = some b4)
    (he : eqD (.lst [.bl b0, .bl b1, .bl b2, .bl b3, .bl b4]) (.lst [.bl (decide (k = 0)), .bl (decide (k = 1)), .bl false, .bl false, .bl false]) = some (.bl true)) : f__law_refused K [ask, x, .int k] = .ok (.bl true) := by
  refine run_rt (seq_rt (tryE_ex (C := C) h hC fun a => ?_))
  refine seq_set (d := .lst [.bl b0, .bl b1, .bl b2]) (by
    show eLst _ [.sh ask, .sh x, .sh (.int k), .sh (.err a C), .no] = _
    repeat (first | simp only [isE_own k0, isE_own k1, isE_own k2] | walk_at "ev")) ?_
  refine seq_set (d := .lst [.bl b0, .bl b1, .bl b2, .bl b3, .bl b4]) (by
    show eOp _ _ _ [.sh ask, .sh x, .sh (.int k), .sh (.err a C), .sh (.lst [.bl b0, .bl b1, .bl b2])] = _
    have e : addD (.lst [.bl b0, .bl b1, .bl b2]) (.lst [.bl b3, .bl b4]) = some (.lst [.bl b0, .bl b1, .bl b2, .bl b3, .bl b4]) := rfl
    repeat (first | simp only [isE_own k3, isE_own k4, e] | walk_at "ev")) (ret_of ?_)
  show eOp _ _ _ [.sh ask, .sh x, .sh (.int k), .sh (.err a C), .sh (.lst [.bl b0, .bl b1, .bl b2, .bl b3, .bl b4])] = _
  refine op_of rfl ?_ he
  walk_at "ev"
theorem callL_ex {i : Nat} {a : Addr} {φ : List D → Res D} {arg : Env → Res D} {env : Env} {x : D} {C : Addr} (h : env[i]? = some (.sh (.cls a))) (h1 : arg env = .ok x) (h2 : φ [x] = .ex C) : eCallL i a φ (aCons arg aNil) env = .ex C := by
  unfold eCallL
  rw [h]
  show (if a = a then eCall φ (aCons arg aNil) env else .no) = _
  rw [if_pos rfl]
  exact call1 h1 h2
theorem altE_x {f g : Env → Res D} {env : Env} {C : Addr} (h : f env = .ex C) : eAlt f g env = .ex C := by
  unfold eAlt
  rw [h]
theorem refused_read (T : Top K mg) {x : D} (h : f_read K [x] = .ex (ga K "BadText")) : f__law_refused K [.cls (ga K "read"), x, .int 1] = .ok (.bl true) :=
  refused_of (altE_x (callL_ex rfl rfl (by
    unfold deOw
    rw [h]))) (by simp) T.e_BadText_BadBook T.e_BadText_BadText T.e_BadText_BadPlace T.e_BadText_BadAmount T.e_BadText_BadMoney rfl
theorem refused_written (T : Top K mg) {x : D} (h : f_written K [x] = .ex (ga K "BadBook")) : f__law_refused K [.cls (ga K "written"), x, .int 0] = .ok (.bl true) :=
  refused_of ((alt_r (callL_miss rfl (fun_ne T.d_written T.d_read (by decide)))).trans (callL_ex rfl rfl h)) (by simp) T.e_BadBook_BadBook T.e_BadBook_BadText T.e_BadBook_BadPlace T.e_BadBook_BadAmount T.e_BadBook_BadMoney rfl
/-! ### right -/
theorem right_eq (T : Top K mg) {t : Str} (ht : t.length ≤ 100000) : f__law_right K [.str t] = .ok (.bl true) := by
  have hin := in_eq (K := K) (t := t) (by omega)
  cases e : wordsP (Txt.split t BLANK) with
  | none =>
    rw [e] at hin
    exact run_rt (seq_set (call1 (a := .str t) rfl hin) (seq_ifT (bV_of (op_of (a := .non) (b := .non) rfl rfl rfl)) (ret_of (call3 (a := .cls (ga K "read")) (b := .str t) (c := .int 1) rfl rfl rfl (refused_read T (read_bad (by omega) e))))))
  | some l =>
    rw [e] at hin
    have rd := read_ok (K := K) (t := t) (by omega) e
    obtain ⟨g1, g2, g3⟩ := wordsP_back e
    have few := split_few t
    have sum := split_sum t
    have ne : l ≠ [] := fun z => by
      rw [z] at g2
      exact split_ne t (List.length_eq_zero_iff.mp g2.symm)
    have wr := written_eq (K := K) (l := l) ne (fun t ht => (g3 t ht).1) (fun t ht => (g3 t ht).2) (by
      rw [g1]
      omega)
    rw [text_back e] at wr
    have tu : eFn allD (aCons (eLC [3] (bNm 3) bYes (eFn (isiD K (cis K)) (aCons (eVar 3) (aCons (eC (.ty "tuple")) aNil))) (iL (eVar 2))) aNil) [.sh (.str t), .sh (bk l), .sh (bk l), .no] = .ok (.bl true) := by
      rw [all_lc (p := fun _ => true) (eLC_of l tr (fun _ => .bl true) rfl (by omega) fun t ht => ⟨_, rfl, by
        simp only [wipeE]
        walk_at "ev"⟩)]
      rw [show (l.all fun _ => true) = true by rw [List.all_eq_true]; intros; rfl]
    refine run_rt (seq_set (call1 (a := .str t) rfl hin) (seq_ifF (bV_of (op_of (a := bk l) (b := .non) (d := .bl false) rfl rfl rfl)) (seq_own (ds := [.str t]) rfl rd rfl (seq_ifF ?_ (seq_ifF ?_ (seq_nx (app_ok (ds := l.map tr) (d := tr (0, 0)) rfl (by rw [List.length_map]; omega) rfl) (ret_of ?_)))))))
    · show bOr _ _ [.sh (.str t), .sh (bk l), .sh (bk l), .no] = _
      refine bOr_F (bNot_of (b := true) (bV_of (fn2 (a := bk l) (b := .ty "list") rfl rfl ?_))) (bOr_F (bV_of (op_of (a := bk l) (b := bk l) rfl rfl ?_)) (bV_of (op_of (a := .str t) (b := .str t) (call1 (a := bk l) rfl wr) rfl ?_)))
      · exact isi_bk_list
      · rw [neD_bk, decide_eq_true rfl]
        rfl
      · rw [neD_str, decide_eq_true rfl]
        rfl
    · exact bNot_of (b := true) (bV_of tu)
    · refine op_of (a := bk l) (b := bk l) (call1 (a := .str t) rfl ?_) rfl ?_
      · unfold deOw
        rw [rd]
        rfl
      · rw [eqD_bk, decide_eq_true rfl]
/-! ### the law -/
def few1 : List Str := ["", " ", "0+0", "1+2 1+2", "01+2", "1+02", "00+1", "1 + 2", "1+ 2", "1+2 ", " 1+2", "1+2  3+4", "1-2"]
def few2 : List Str := ["1++2", "+1", "1+", "+", "1", "1+2+3", "-1+2", "1+-2", "1_0+2", "a+1", "1.0+2", "1+2,3+4"]
def few3 : List Str := ["1+2\n", "1+2\t3+4"]
def few4 : List Str := [Txt.mul "9" 60 ++ ("+1" : Str), Txt.mul "9" 61 ++ ("+1" : Str), ("1+" : Str) ++ Txt.mul "9" 60, ("1+" : Str) ++ Txt.mul "9" 61, Txt.mul "1" 4000 ++ ("+1" : Str)]
def few5 : List Str := ["0x1+2", "1+2;3+4", "5+0 0+5"]
def fewL : List Str := few1 ++ few2 ++ few3 ++ few4 ++ few5
theorem few_len : ∀ s ∈ fewL, s.length ≤ 5000 := by
  have : fewL.all (fun s => decide (s.length ≤ 5000)) = true := by decide +kernel
  exact fun s hs => of_decide_eq_true (List.all_eq_true.mp this s hs)
theorem few_many : fewL.length ≤ 100 := by decide
theorem mul_D {x : Str} {n : Int} (h : 0 ≤ n ∧ n ≤ 10000 ∧ x.length ≤ 10) : mulSD (.str x) (.int n) = some (.str (Txt.mul x n)) := if_pos h
theorem cat_D {a b : List Str} (h : a.length + b.length ≤ 1000000) : addD (.lst (a.map D.str)) (.lst (b.map D.str)) = some (.lst ((a ++ b).map D.str)) := by
  show (if (a.map D.str).length + (b.map D.str).length ≤ 1000000 then some (D.lst (a.map D.str ++ b.map D.str)) else none) = _
  rw [if_pos (by rw [List.length_map, List.length_map]; exact h), List.map_append]
theorem few_eq : f__law_few K [] = .ok (.lst (fewL.map D.str)) := by
  have s1 : eLst (aCons (eOp addD (eOp mulSD (eC (.str "9")) (eC (.int 60))) (eC (.str "+1"))) (aCons (eOp addD (eOp mulSD (eC (.str "9")) (eC (.int 61))) (eC (.str "+1"))) (aCons (eOp addD (eC (.str "1+")) (eOp mulSD (eC (.str "9")) (eC (.int 60)))) (aCons (eOp addD (eC (.str "1+")) (eOp mulSD (eC (.str "9")) (eC (.int 61)))) (aCons (eOp addD (eOp mulSD (eC (.str "1")) (eC (.int 4000))) (eC (.str "+1"))) aNil))))) [.sh (.lst ((few1 ++ few2 ++ few3).map D.str))] = .ok (.lst (few4.map D.str)) := by
    exact eLst_of (acons (op_of (a := .str (Txt.mul "9" 60)) (b := .str "+1") (op_of rfl rfl (mul_D (by decide +kernel))) rfl (add_strD (by decide +kernel))) (acons (op_of (a := .str (Txt.mul "9" 61)) (b := .str "+1") (op_of rfl rfl (mul_D (by decide +kernel))) rfl (add_strD (by decide +kernel)))
      (acons (op_of (a := .str "1+") (b := .str (Txt.mul "9" 60)) rfl (op_of rfl rfl (mul_D (by decide +kernel))) (add_strD (by decide +kernel))) (acons (op_of (a := .str "1+") (b := .str (Txt.mul "9" 61)) rfl (op_of rfl rfl (mul_D (by decide +kernel))) (add_strD (by decide +kernel)))
      (acons (op_of (a := .str (Txt.mul "1" 4000)) (b := .str "+1") (op_of rfl rfl (mul_D (by decide +kernel))) rfl (add_strD (by decide +kernel))) anil)))))
  exact run_rt (seq_set (d := .lst (few1.map D.str)) rfl (seq_set (d := .lst ((few1 ++ few2).map D.str)) (op_of (a := .lst (few1.map D.str)) (b := .lst (few2.map D.str)) rfl rfl (cat_D (by decide))) (seq_set (d := .lst ((few1 ++ few2 ++ few3).map D.str)) (op_of (a := .lst ((few1 ++ few2).map D.str)) (b := .lst (few3.map D.str)) rfl rfl (cat_D (by decide)))
    (seq_set (d := .lst ((few1 ++ few2 ++ few3 ++ few4).map D.str)) (op_of (a := .lst ((few1 ++ few2 ++ few3).map D.str)) (b := .lst (few4.map D.str)) rfl s1 (cat_D (by decide))) (ret_of (op_of (a := .lst ((few1 ++ few2 ++ few3 ++ few4).map D.str)) (b := .lst (few5.map D.str)) rfl rfl (cat_D (by decide))))))))
theorem at_modL {α : Type} {xs : List α} (h : 0 < xs.length) (c : Int) : ∃ (j : Nat) (x : α), c % (xs.length : Int) = j ∧ xs[j]? = some x := by
  have h0 := Int.emod_nonneg c (show (xs.length : Int) ≠ 0 by omega)
  have h1 := Int.emod_lt_of_pos c (show (0 : Int) < xs.length by omega)
  have hj : (c % xs.length).toNat < xs.length := by omega
  exact ⟨(c % xs.length).toNat, _, (Int.toNat_of_nonneg h0).symm, List.getElem?_eq_getElem hj⟩
theorem sign_at (c : Int) : ∃ k, ixD (.str "0123456789+ -a\n") (.int (c % 15)) = some (.str ⟨#[k]⟩) := by
  have e15 : (tl ("0123456789+ -a\n" : Str)).length = 15 := by decide +kernel
  obtain ⟨j, x, e, h⟩ := at_modL (xs := tl ("0123456789+ -a\n" : Str)) (by rw [e15]; decide) c
  rw [e15] at e
  refine ⟨x, ?_⟩
  rw [show c % 15 = (j : Int) from e]
  show (if ("0123456789+ -a\n" : Str).length ≤ 1000000 then (L2.atI (tl ("0123456789+ -a\n" : Str)) (j : Int)).map fun c => D.str ⟨#[c]⟩ else none) = _
  rw [if_pos (by decide +kernel), atI_nat h]
  rfl
theorem word_sm {t : Int × Int} (nn : 0 ≤ t.1 ∧ 0 ≤ t.2) (sm : t.1 < bigN ∧ t.2 < bigN) : (wordOf t).length ≤ 121 := by
  obtain ⟨_, k1⟩ := str_D nn.1 sm.1
  obtain ⟨_, k2⟩ := str_D nn.2 sm.2
  have kp : PLUS.length = 1 := by decide +kernel
  unfold wordOf
  rw [len_tl, tl_append, tl_append, List.length_append, List.length_append, ← len_tl, ← len_tl, ← len_tl, kp]
  omega
theorem words_sum : ∀ {l : List (Int × Int)}, (∀ t ∈ l, 0 ≤ t.1 ∧ 0 ≤ t.2) → (∀ t ∈ l, t.1 < bigN ∧ t.2 < bigN) → ((l.map wordOf).map (·.length)).sum ≤ 121 * l.length
  | [], _, _ => Nat.zero_le _
  | t :: l, h1, h2 => by
    have ih := words_sum (l := l) (fun t ht => h1 t (List.mem_cons_of_mem _ ht)) (fun t ht => h2 t (List.mem_cons_of_mem _ ht))
    have := word_sm (h1 t List.mem_cons_self) (h2 t List.mem_cons_self)
    rw [List.map_cons, List.map_cons, List.sum_cons, List.length_cons]
    omega
theorem slS_D {z : Str} {lo hi : Option Int} (h : z.length ≤ 1000000) : slD lo hi (.str z) = some (.str (cutS z lo hi)) := if_pos h
theorem len_app (a b : Str) : (a ++ b).length = a.length + b.length := by
  rw [len_tl, tl_append, List.length_append, ← len_tl, ← len_tl]
theorem nines : Txt.mul "9" 60 ++ "+0" = textOf [(bigN - 1, 0)] := by decide +kernel
theorem cut_of {xs : List D} {lo hi : Option Int} {d : D} (h : d ∈ cutG xs lo hi) : d ∈ xs := List.mem_of_mem_drop (List.mem_of_mem_take h)
theorem law_eq (T : Top K mg) (ns : List Int) (hl : ns.length ≤ 63) : f_law K [.lst (ns.map D.int)] = .ok (.bl true) := by
  obtain ⟨l, hb, few, sm40, hbook⟩ := law_book_eq (K := K) ns hl
  have sm : ∀ t ∈ l, t.1 < bigN ∧ t.2 < bigN := fun t ht => by
    obtain ⟨h1, h2⟩ := sm40 t ht
    exact ⟨by show t.1 < 1000000000000000000000000000000000000000000000000000000000000; omega, by show t.2 < 1000000000000000000000000000000000000000000000000000000000000; omega⟩
  have ws := words_sum hb.nn sm
  have hs : ((l.map wordOf).map (·.length)).sum + l.length ≤ 1000000 := by omega
  have tlen : (textOf l).length ≤ 20000 := by
    have := text_len l
    omega
  have wr := written_eq (K := K) hb.ne hb.nn sm hs
  have rt := right_eq T (t := textOf l) (by omega)
  let I : Env → Prop := fun env => ∃ a6 a7 a8 a9 a10 a11 a12, env = [.sh (.lst (ns.map D.int)), .sh (bk l), .sh (.str (textOf l)), .no, .no, .sh (bk l), a6, a7, a8, a9, a10, a11, a12]
  refine run0_rt (seq_set (call1 (a := .lst (ns.map D.int)) rfl hbook) (seq_set (d := .str (textOf l)) (text_of rfl hb.nn sm hs fun t ht => ⟨_, rfl, rfl, rfl⟩) (seq_set (d := bk l) (fn1 rfl list_bk) (seq_ifF ?_ ?_))))
  · refine bOr_F (bV_of (op_of (a := .str (textOf l)) (b := .str (textOf l)) (call1 (a := bk l) rfl wr) rfl ?_)) (bOr_F (bV_of (op_of (a := bk l) (b := bk l) rfl rfl ?_)) (bNot_of (b := true) (bV_of (call1 (a := .str (textOf l)) rfl rt))))
    · rw [neD_str, decide_eq_true rfl]
      rfl
    · rw [neD_bk, decide_eq_true rfl]
      rfl
  show sSeq _ _ [.sh (.lst (ns.map D.int)), .sh (bk l), .sh (.str (textOf l)), .no, .no, .sh (bk l), .no, .no, .no, .no, .no, .no, .no] = _
  have hcat : ∃ ds, (iL (eOp addD (eSl (eVar 0) oNone (oSome (eC (.int 20)))) (eSlSt (eVar 0) (oSome (eC (.int 20))) oNone (oSome (eC (.int 5)))))) [.sh (.lst (ns.map D.int)), .sh (bk l), .sh (.str (textOf l)), .no, .no, .sh (bk l), .no, .no, .no, .no, .no, .no, .no] = .ok ds ∧ ∀ d ∈ ds, ∃ c : Int, d = .int c := by
    refine ⟨cutG (ns.map D.int) none (some 20) ++ pickG (ns.map D.int) (some 20) none 5, ?_, fun d hd => ?_⟩
    · have e1 : slD none (some 20) (.lst (ns.map D.int)) = some (.lst (cutG (ns.map D.int) none (some 20))) := rfl
      have e2 : slStD (some 20) none (some 5) (.lst (ns.map D.int)) = some (.lst (pickG (ns.map D.int) (some 20) none 5)) := by
        refine if_pos ⟨by decide, ?_⟩
        rw [List.length_map]
        omega
      have e3 : addD (.lst (cutG (ns.map D.int) none (some 20))) (.lst (pickG (ns.map D.int) (some 20) none 5)) = some (.lst (cutG (ns.map D.int) none (some 20) ++ pickG (ns.map D.int) (some 20) none 5)) := by
        have q1 : (cutG (ns.map D.int) none (some 20)).length ≤ (ns.map D.int).length := by
          unfold cutG
          rw [List.length_take, List.length_drop]
          omega
        have q2 := pickG_len (ns.map D.int) (some 20) none 5 (by decide)
        rw [List.length_map] at q1 q2
        exact if_pos (by omega)
      repeat (first | simp only [e1, e2, e3] | walk_at "ev")
    · rcases List.mem_append.mp hd with hd | hd
      · obtain ⟨c, _, rfl⟩ := List.mem_map.mp (cut_of hd)
        exact ⟨c, rfl⟩
      · obtain ⟨c, _, rfl⟩ := List.mem_map.mp (pickG_mem hd)
        exact ⟨c, rfl⟩
  obtain ⟨ds, hds, hint⟩ := hcat
  refine seq_for I hds ⟨_, _, _, _, _, _, _, rfl⟩ ?_ (fun e he => ?_)
  · rintro d hd env ⟨a6, a7, a8, a9, a10, a11, a12, rfl⟩
    obtain ⟨c, rfl⟩ := hint d hd
    have hlen := len_strD (w := textOf l) (by omega)
    have m0 : (0 : Int) < ((textOf l).length : Nat) + 1 := by omega
    obtain ⟨k, hk⟩ := sign_at (c / 3)
    obtain ⟨sg, hsg, lsg⟩ : ∃ sg : Str, ixD (.tup [.str "", .str ⟨#[k]⟩]) (.int (c / 7 % 2)) = some (.str sg) ∧ sg.length ≤ 1 := by
      have h0 : 0 ≤ c / 7 % 2 := Int.emod_nonneg _ (by decide)
      have h1 : c / 7 % 2 < 2 := Int.emod_lt_of_pos _ (by decide)
      have h : c / 7 % 2 = 0 ∨ c / 7 % 2 = 1 := by omega
      rcases h with e | e <;> rw [e]
      · exact ⟨"", rfl, by decide +kernel⟩
      · exact ⟨⟨#[k]⟩, rfl, Nat.le_refl 1⟩
    have s1 := slS_D (z := textOf l) (lo := none) (hi := some (c / 41 % (((textOf l).length : Nat) + 1))) (by omega)
    have s2 := slS_D (z := textOf l) (lo := some (c / 41 % (((textOf l).length : Nat) + 1) + c / 13 % 2)) (hi := none) (by omega)
    have q1 := cutS_length (textOf l) none (some (c / 41 % (((textOf l).length : Nat) + 1)))
    have q2 := cutS_length (textOf l) (some (c / 41 % (((textOf l).length : Nat) + 1) + c / 13 % 2)) none
    have k1 := len_app (cutS (textOf l) none (some (c / 41 % (((textOf l).length : Nat) + 1)))) sg
    have k2 := len_app (cutS (textOf l) none (some (c / 41 % (((textOf l).length : Nat) + 1))) ++ sg) (cutS (textOf l) (some (c / 41 % (((textOf l).length : Nat) + 1) + c / 13 % 2)) none)
    have r2 := right_eq T (t := cutS (textOf l) none (some (c / 41 % (((textOf l).length : Nat) + 1))) ++ sg ++ cutS (textOf l) (some (c / 41 % (((textOf l).length : Nat) + 1) + c / 13 % 2)) none) (by omega)
    have d1 := add_strD (a := cutS (textOf l) none (some (c / 41 % (((textOf l).length : Nat) + 1)))) (b := sg) (by omega)
    have d2 := add_strD (a := cutS (textOf l) none (some (c / 41 % (((textOf l).length : Nat) + 1))) ++ sg) (b := cutS (textOf l) (some (c / 41 % (((textOf l).length : Nat) + 1) + c / 13 % 2)) none) (by omega)
    refine ⟨_, rfl, _, seq_set (d := .int (c / 41 % (((textOf l).length : Nat) + 1))) ?_ (seq_set (d := .str sg) ?_ (ifF (bNot_of (b := true) (bV_of (call1 ?_ r2))))), _, _, _, _, _, _, _, rfl⟩
    · show eOp _ _ _ [.sh (.lst (ns.map D.int)), .sh (bk l), .sh (.str (textOf l)), .no, .no, .sh (bk l), .sh (.int c), a7, a8, a9, a10, a11, a12] = _
      repeat (first | simp only [hlen, modD_int m0] | walk_at "ev")
    · show eOp _ _ _ [.sh (.lst (ns.map D.int)), .sh (bk l), .sh (.str (textOf l)), .no, .no, .sh (bk l), .sh (.int c), .sh (.int (c / 41 % (((textOf l).length : Nat) + 1))), a8, a9, a10, a11, a12] = _
      repeat (first | simp only [hk, hsg] | walk_at "ev")
    · show eOp _ _ _ [.sh (.lst (ns.map D.int)), .sh (bk l), .sh (.str (textOf l)), .no, .no, .sh (bk l), .sh (.int c), .sh (.int (c / 41 % (((textOf l).length : Nat) + 1))), .sh (.str sg), a9, a10, a11, a12] = _
      repeat (first | simp only [s1, s2, d1, d2] | walk_at "ev")
  · obtain ⟨a6, a7, a8, a9, a10, a11, a12, rfl⟩ := he
    have lc := eLC_of (vs := [9]) (bt := bNm 9) (fe := eCall (f__law_right K) (aCons (eVar 9) aNil)) (fi := iL (eCall (f__law_few K) aNil)) (env := [.sh (.lst (ns.map D.int)), .sh (bk l), .sh (.str (textOf l)), .no, .no, .sh (bk l), a6, a7, a8, a9, a10, a11, a12]) fewL D.str (fun _ => .bl true) (by
      repeat (first | simp only [few_eq] | walk_at "ev")) (Nat.le_trans few_many (by decide)) fun s hs => ⟨_, rfl, by
        simp only [wipeE]
        exact call1 (a := .str s) rfl (right_eq T (Nat.le_trans (few_len s hs) (by decide)))⟩
    have al := all_lc (p := fun _ => true) lc
    rw [show (fewL.all fun _ => true) = true by rw [List.all_eq_true]; intros; rfl] at al
    refine seq_ifF (bNot_of (b := true) (bV_of al)) (seq_set (d := .int bigN) (by
      show eOp _ _ _ [.sh (.lst (ns.map D.int)), .sh (bk l), .sh (.str (textOf l)), .no, .no, .sh (bk l), a6, a7, a8, a9, a10, a11, a12] = _
      walk_at "ev") ?_)
    let J : Env → Prop := fun env => ∃ a11 a12, env = [.sh (.lst (ns.map D.int)), .sh (bk l), .sh (.str (textOf l)), .no, .no, .sh (bk l), a6, a7, a8, a9, .sh (.int bigN), a11, a12]
    have m2 : mulD (.int 2) (.int bigN) = some (.int (2 * bigN)) := mulD_int (mulOk_l (by decide))
    have cat : addD (bk l) (bk [(1, 2 * bigN)]) = some (bk (l ++ [(1, 2 * bigN)])) := by
      show (if (l.map tr).length + ([(1, 2 * bigN)].map tr).length ≤ 1000000 then some (D.lst (l.map tr ++ [(1, 2 * bigN)].map tr)) else none) = _
      rw [if_pos (by
        rw [List.length_map]
        show l.length + 1 ≤ 1000000
        omega), ← List.map_append]
      rfl
    have b0 : (0 : Int) ≤ bigN := by decide
    refine seq_for J (ds := [bk [(bigN, 1)], bk [(0, bigN)], bk (l ++ [(1, 2 * bigN)])]) ?_ ⟨_, _, rfl⟩ ?_ (fun e he => ?_)
    · show iL _ [.sh (.lst (ns.map D.int)), .sh (bk l), .sh (.str (textOf l)), .no, .no, .sh (bk l), a6, a7, a8, a9, .sh (.int bigN), a11, a12] = _
      have p1 : D.lst [.tup [.int 1, .int (2 * bigN)]] = bk [(1, 2 * bigN)] := rfl
      repeat (first | simp only [m2, p1, cat] | walk_at "ev")
      rfl
    · rintro d hd env ⟨a11, a12, rfl⟩
      have w : f_written K [d] = .ex (ga K "BadBook") := by
        simp only [List.mem_cons, List.not_mem_nil, or_false] at hd
        rcases hd with rfl | rfl | rfl
        · exact written_big (by simp) (by show 1 ≤ 1000000; decide) (fun t ht => by
            obtain rfl := List.mem_singleton.mp ht
            exact ⟨b0, by decide⟩) ⟨_, List.mem_singleton.mpr rfl, .inl (Int.le_refl _)⟩
        · exact written_big (by simp) (by show 1 ≤ 1000000; decide) (fun t ht => by
            obtain rfl := List.mem_singleton.mp ht
            exact ⟨by decide, b0⟩) ⟨_, List.mem_singleton.mpr rfl, .inr (Int.le_refl _)⟩
        · exact written_big (by simp) (by
            rw [List.length_append]
            show l.length + 1 ≤ 1000000
            omega) (fun t ht => by
            rcases List.mem_append.mp ht with ht | ht
            · exact hb.nn t ht
            · obtain rfl := List.mem_singleton.mp ht
              exact ⟨by decide, by decide⟩) ⟨_, List.mem_append_right _ (List.mem_singleton.mpr rfl), .inr (by decide)⟩
      exact ⟨_, rfl, _, ifF (bNot_of (b := true) (bV_of (call3 (a := .cls (ga K "written")) (b := d) (c := .int 0) rfl rfl rfl (refused_written T w)))), _, _, rfl⟩
    · obtain ⟨a11, a12, rfl⟩ := he
      have nn1 : ∀ t ∈ [((bigN - 1, 0) : Int × Int)], 0 ≤ t.1 ∧ 0 ≤ t.2 := fun t ht => by
        obtain rfl := List.mem_singleton.mp ht
        exact ⟨by decide, by decide⟩
      have sm1 : ∀ t ∈ [((bigN - 1, 0) : Int × Int)], t.1 < bigN ∧ t.2 < bigN := fun t ht => by
        obtain rfl := List.mem_singleton.mp ht
        exact ⟨by decide, by decide⟩
      have ws1 := words_sum nn1 sm1
      have w1 := written_eq (K := K) (l := [(bigN - 1, 0)]) (by simp) nn1 sm1 (by
        simp only [List.length_cons, List.length_nil] at ws1 ⊢
        omega)
      refine seq_ifF (bV_of (op_of (a := .str (textOf [(bigN - 1, 0)])) (b := .str (textOf [(bigN - 1, 0)])) (call1 (a := bk [(bigN - 1, 0)]) ?_ w1) (op_of (a := .str (Txt.mul "9" 60)) (b := .str "+0") (op_of rfl rfl (mul_D (by decide +kernel))) rfl ?_) ?_)) (ret_of ?_)
      · show eLst _ [.sh (.lst (ns.map D.int)), .sh (bk l), .sh (.str (textOf l)), .no, .no, .sh (bk l), a6, a7, a8, a9, .sh (.int bigN), a11, a12] = _
        walk_at "ev"
        rfl
      · rw [add_strD (by decide +kernel), nines]
      · rw [neD_str, decide_eq_true rfl]
        rfl
      · have lc := eLC_of (vs := [12]) (bt := bNm 12) (fe := eCall (f__law_refused K) (aCons (eC (.cls (ga K "read"))) (aCons (eVar 12) (aCons (eC (.int 1)) aNil)))) (fi := iL (eLst (aCons (eC .non) (aCons (eC (.int 5)) (aCons (eLst (aCons (eC (.str "0+1")) aNil)) (aCons (eC (.bl true)) aNil)))))) (env := [.sh (.lst (ns.map D.int)), .sh (bk l), .sh (.str (textOf l)), .no, .no, .sh (bk l), a6, a7, a8, a9, .sh (.int bigN), a11, a12]) [D.non, .int 5, .lst [.str "0+1"], .bl true] (fun d => d) (fun _ => .bl true) rfl (by show 4 ≤ 1000000; decide) fun d hd => ⟨_, rfl, by
          simp only [wipeE]
          refine call3 (a := .cls (ga K "read")) (b := d) (c := .int 1) rfl rfl rfl (refused_read T (read_kind ?_))
          simp only [List.mem_cons, List.not_mem_nil, or_false] at hd
          rcases hd with rfl | rfl | rfl | rfl
          · exact isi_non_str
          · exact isi_int_str
          · exact isi_lst_str
          · exact isi_bl_str⟩
        rw [all_lc (p := fun _ => true) lc]
        rfl
end Dt.Ws
open PySem PySem.W PySem.Calls PyProof.Rows
theorem PySem.Challenge.cw_leasttariff_k07_texts_holds : PySem.Challenge.rw_leasttariff_k07_texts.Holds := by
  w_on; o_law
  refine HandSHeadRun.head_any (r := OpenLaw.row PySem.Challenge.rw_leasttariff_k07_texts) (q := view (OpenLaw.row PySem.Challenge.rw_leasttariff_k07_texts).prog [24]) (H := Dt.Ws.hk) (ob := Dt.Ws.ob) (M := 6000) (loose := Dt.Ws.names) (d := HandSHeadRun.topDef (OpenLaw.row PySem.Challenge.rw_leasttariff_k07_texts).prog 24) (kwd := []) Dt.Ws.ob_eq
    (by kernel_rfl) (fun s => by kernel_rfl) Dt.Ws.hrun (by kernel_rfl) (by kernel_rfl) (by kernel_rfl) (by rfl) (by first | assumption | decide +kernel) (by decide +kernel) ⟨rfl, rfl, rfl, rfl, rfl, by decide +kernel⟩ ?hw ?hc
  case hw => w_witness2
  case hc =>
    refine L2.walk_ofE (l := PySem.Challenge.rw_leasttariff_k07_texts) (n := 63) (k := 7) (x := "_law_script") (CX := L2.CX0) rfl (by decide) (by kernel_rfl) ⟨rfl, by decide, by decide⟩ ?F (fun _ _ _ _ z => z)
    intro w mg fa h Y G hmg0
    obtain ⟨K, KX, c⟩ := Y
    have hmg : mg ("law" : PySem.Str) = some (.ref fa) := by
      have e : (HandSHeadRun.topDef (OpenLaw.row PySem.Challenge.rw_leasttariff_k07_texts).prog 24).name = ("law" : PySem.Str) := by kernel_rfl
      rw [← e]
      exact hmg0
    have T := Dt.Ws.top_of KX G c
    have e := hmg.symm.trans T.g_law
    cases e
    obtain ⟨fd, F⟩ := T.d_law
    exact ⟨K, fd, Dt.spD K 1 (Dt.Ws.f_law K), KX, fun s v => F.bindsA (ps := ["_law_script"]) (fun _ _ _ _ _ _ us hl => match us, hl with | [_], _ => rfl) s [v] rfl,
      fun H a ns hl _ hS => Dt.law_sp (Dt.Ws.law_eq T ns hl) hS, fun base _ _ => Dt.Ws.okF_law T F⟩
