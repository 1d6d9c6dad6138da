import PyProof.Rows.All
import Wide.All
import OpenK.AllK
import Wide.FinOn
import KE.KStateDown
import Lean
import HandS.Base
import HandS.Call
import HandS.List
import HandS.Comp
import HandS.Ends
import HandS.Dict
import HandS.Iter
import HandS.Text
import HandS.More
import HandS.Exc
import HandS.TryOnly
import HandS.ExcOwn
import HandS.Words
import HandS.WordsList
import HandS.WordsExc
import HandS.IsInst
import HandS.Wide
import HandS.Walk
import HandS.StrMore
import HandS.Style
import HandS.Conv
import HandS.Flow
import HandS.CallSlots
import HandS.CallLocal
import HandS.Defaults
import HandS.Head0
import HandS.Head1
import HandS.Head2
import HandS.HeadEnd
import HandS.HeadHook1
import HandS.HeadHook2
import PySem.Challenge.RW_leasttariff_k01_costs
set_option Elab.async false
set_option linter.all false
set_option maxRecDepth 100000
set_option maxHeartbeats 0
set_option exponentiation.threshold 10000
/-! # Dt: plain data over the hand layer -/
namespace Dt
open PySem PySem.Spec PyProof.Rows L2
/-- plain data -/
inductive D where
  | non | bl (b : Bool) | int (i : Int) | str (x : Str) | ty (n : String)
  | tup (xs : List D) | lst (xs : List D) | ins (C : Addr) (fs : List (Str × D)) | cls (a : Addr) | dic
mutual
/-- the value v stands for d, in the heap H -/
inductive Rep (K : PySem.W.Frag) (H : Hp) : V → D → Prop
  | non : Rep K H .non .non
  | bl (b : Bool) : Rep K H (.bl b) (.bl b)
  | int (i : Int) : Rep K H (.int i) (.int i)
  | str (x : Str) : Rep K H (.str x) (.str x)
  | ty (n : String) : Rep K H (.ty n) (.ty n)
  | cls (a : Addr) : Rep K H (.ref a) (.cls a)
  | tup {a : Addr} {vs : List V} {ds : List D} : SqT K H a vs → Reps K H vs ds → Rep K H (.ref a) (.tup ds)
  | lst {a : Addr} {vs : List V} {ds : List D} : SqL K H a vs → Reps K H vs ds → Rep K H (.ref a) (.lst ds)
  | ins {a C dx : Addr} {fs : List (Str × V)} {ds : List (Str × D)} : H a = some (.ins C dx fs) → Repf K H fs ds → Rep K H (.ref a) (.ins C ds)
  | dic {a : Addr} : H a = some (.dK []) → Rep K H (.ref a) .dic
inductive Reps (K : PySem.W.Frag) (H : Hp) : List V → List D → Prop
  | nil : Reps K H [] []
  | cons {v : V} {vs : List V} {d : D} {ds : List D} : Rep K H v d → Reps K H vs ds → Reps K H (v :: vs) (d :: ds)
inductive Repf (K : PySem.W.Frag) (H : Hp) : List (Str × V) → List (Str × D) → Prop
  | nil : Repf K H [] []
  | cons {n : Str} {v : V} {vs : List (Str × V)} {d : D} {ds : List (Str × D)} : Rep K H v d → Repf K H vs ds → Repf K H ((n, v) :: vs) ((n, d) :: ds)
end
theorem Same.seqT {K : PySem.W.Frag} {H H' : Hp} {a : Addr} {xs : List V} (e : Same H H') (h : SqT K H a xs) : SqT K H' a xs := by
  rcases h with (h | ⟨o, h⟩) | h
  · exact .inl (.inl (e _ _ h))
  · exact .inl (.inr ⟨o, e _ _ h⟩)
  · exact .inr h
theorem Same.rd {H H' : Hp} {a : Addr} {u : HO} (e : Same H H') (h : Rd H a u) : Rd H' a u := by
  rcases h with h | ⟨o, h⟩
  · exact .inl (e _ _ h)
  · exact .inr ⟨o, e _ _ h⟩
theorem Same.new {H : Hp} {p : Addr} {o : HO} (h : H p = none) : Same H (upd H p o) := fun b x e => by
  rw [upd_ne (ne_of_none e h)]
  exact e
section
variable {K : PySem.W.Frag} {H H' : Hp}
mutual
theorem Rep.mono (s : Same H H') : ∀ {v : V} {d : D}, Rep K H v d → Rep K H' v d
  | _, _, .non => .non
  | _, _, .bl b => .bl b
  | _, _, .int i => .int i
  | _, _, .str x => .str x
  | _, _, .ty n => .ty n
  | _, _, .cls a => .cls a
  | _, _, .tup h r => .tup (Same.seqT s h) (Reps.mono s r)
  | _, _, .lst h r => .lst (Same.seq s h) (Reps.mono s r)
  | _, _, .ins h r => .ins (s _ _ h) (Repf.mono s r)
  | _, _, .dic h => .dic (s _ _ h)
theorem Reps.mono (s : Same H H') : ∀ {vs : List V} {ds : List D}, Reps K H vs ds → Reps K H' vs ds
  | _, _, .nil => .nil
  | _, _, .cons r t => .cons (Rep.mono s r) (Reps.mono s t)
theorem Repf.mono (s : Same H H') : ∀ {vs : List (Str × V)} {ds : List (Str × D)}, Repf K H vs ds → Repf K H' vs ds
  | _, _, .nil => .nil
  | _, _, .cons r t => .cons (Rep.mono s r) (Repf.mono s t)
end
theorem Reps.length : ∀ {vs : List V} {ds : List D}, Reps K H vs ds → vs.length = ds.length
  | _, _, .nil => rfl
  | _, _, .cons _ t => by rw [List.length_cons, List.length_cons, Reps.length t]
theorem Reps.get : ∀ {vs : List V} {ds : List D}, Reps K H vs ds → ∀ {i : Nat} {d : D}, ds[i]? = some d → ∃ v, vs[i]? = some v ∧ Rep K H v d
  | _, _, .nil, i, d, h => by simp at h
  | _, _, .cons r t, 0, d, h => by simp at h; subst h; exact ⟨_, rfl, r⟩
  | _, _, .cons r t, i + 1, d, h => by
    obtain ⟨v, e, q⟩ := Reps.get t (i := i) (by simpa using h)
    exact ⟨v, by simpa using e, q⟩
theorem Reps.get' : ∀ {vs : List V} {ds : List D}, Reps K H vs ds → ∀ {i : Nat} {v : V}, vs[i]? = some v → ∃ d, ds[i]? = some d ∧ Rep K H v d
  | _, _, .nil, i, d, h => by simp at h
  | _, _, .cons r t, 0, d, h => by simp at h; subst h; exact ⟨_, rfl, r⟩
  | _, _, .cons r t, i + 1, d, h => by
    obtain ⟨v, e, q⟩ := Reps.get' t (i := i) (by simpa using h)
    exact ⟨v, by simpa using e, q⟩
theorem Reps.append : ∀ {vs ws : List V} {ds es : List D}, Reps K H vs ds → Reps K H ws es → Reps K H (vs ++ ws) (ds ++ es)
  | _, _, _, _, .nil, s => s
  | _, _, _, _, .cons r t, s => .cons r (Reps.append t s)
theorem Reps.take : ∀ {vs : List V} {ds : List D} (n : Nat), Reps K H vs ds → Reps K H (vs.take n) (ds.take n)
  | _, _, 0, _ => .nil
  | _, _, _ + 1, .nil => .nil
  | _, _, n + 1, .cons r t => .cons r (Reps.take n t)
theorem Reps.drop : ∀ {vs : List V} {ds : List D} (n : Nat), Reps K H vs ds → Reps K H (vs.drop n) (ds.drop n)
  | _, _, 0, r => r
  | _, _, _ + 1, .nil => .nil
  | _, _, n + 1, .cons _ t => Reps.drop n t
theorem Reps.reverse {vs : List V} {ds : List D} (h : Reps K H vs ds) : Reps K H vs.reverse ds.reverse := by
  induction vs generalizing ds with
  | nil => cases h; exact .nil
  | cons v vs ih =>
    cases h with
    | cons r t =>
      rw [List.reverse_cons, List.reverse_cons]
      exact Reps.append (ih t) (.cons r .nil)
theorem Reps.set : ∀ {vs : List V} {ds : List D} {v : V} {d : D} (n : Nat), Rep K H v d → Reps K H vs ds → Reps K H (vs.set n v) (ds.set n d)
  | _, _, _, _, _, _, .nil => .nil
  | _, _, _, _, 0, q, .cons _ t => .cons q t
  | _, _, _, _, n + 1, q, .cons r t => .cons r (Reps.set n q t)
theorem Repf.lookup {f : Str} : ∀ {vs : List (Str × V)} {ds : List (Str × D)} {d : D}, Repf K H vs ds → ds.lookup f = some d → ∃ v, vs.lookup f = some v ∧ Rep K H v d
  | _, _, _, .nil, h => by simp at h
  | _, _, d, @Repf.cons _ _ n v vs d' ds r t, h => by
    by_cases e : (f == n) = true
    · simp only [List.lookup, e] at h ⊢
      cases h
      exact ⟨_, rfl, r⟩
    · have e' : (f == n) = false := by simpa using e
      simp only [List.lookup, e'] at h ⊢
      exact Repf.lookup t h
theorem Repf.none_of {f : Str} : ∀ {vs : List (Str × V)} {ds : List (Str × D)}, Repf K H vs ds → ds.lookup f = none → vs.lookup f = none
  | _, _, .nil, h => rfl
  | _, _, @Repf.cons _ _ n v vs d' ds r t, h => by
    by_cases e : (f == n) = true
    · simp only [List.lookup, e] at h
      cases h
    · have e' : (f == n) = false := by simpa using e
      simp only [List.lookup, e'] at h ⊢
      exact Repf.none_of t h
theorem Reps.ints : ∀ {vs : List V} {ns : List Int}, Reps K H vs (ns.map D.int) → vs = ns.map V.int
  | _, [], .nil => rfl
  | _, n :: ns, .cons r t => by
    cases r
    rw [Reps.ints t]
    rfl
theorem Reps.bls : ∀ {vs : List V} {ns : List Bool}, Reps K H vs (ns.map D.bl) → vs = ns.map V.bl
  | _, [], .nil => rfl
  | _, n :: ns, .cons r t => by
    cases r
    rw [Reps.bls t]
    rfl
theorem Reps.strs : ∀ {vs : List V} {ns : List Str}, Reps K H vs (ns.map D.str) → vs = ns.map V.str
  | _, [], .nil => rfl
  | _, n :: ns, .cons r t => by
    cases r
    rw [Reps.strs t]
    rfl
theorem Reps.of_ints : ∀ {ns : List Int}, Reps K H (ns.map V.int) (ns.map D.int)
  | [] => .nil
  | _ :: _ => .cons (.int _) Reps.of_ints
theorem Reps.of_strs : ∀ {ns : List Str}, Reps K H (ns.map V.str) (ns.map D.str)
  | [] => .nil
  | _ :: _ => .cons (.str _) Reps.of_strs
end
/-! ### results -/
inductive Res (α : Type) where
  | no | ex (C : Addr) | ok (a : α)
def Res.bind {α β : Type} : Res α → (α → Res β) → Res β
  | .no, _ => .no
  | .ex C, _ => .ex C
  | .ok a, g => g a
def ofO {α : Type} : Option α → Res α
  | none => .no
  | some a => .ok a
@[simp] theorem Res.bind_ok {α β : Type} (a : α) (g : α → Res β) : (Res.ok a).bind g = g a := rfl
@[simp] theorem Res.bind_no {α β : Type} (g : α → Res β) : (Res.no : Res α).bind g = .no := rfl
@[simp] theorem Res.bind_ex {α β : Type} (C : Addr) (g : α → Res β) : (Res.ex C : Res α).bind g = .ex C := rfl
@[simp] theorem ofO_some {α : Type} (a : α) : ofO (some a) = .ok a := rfl
@[simp] theorem ofO_none {α : Type} : ofO (none : Option α) = .no := rfl
/-! ### slots -/
inductive Sl where
  | no | sh (d : D) | ow (ds : List D)
abbrev Env := List Sl
/-- the known part H0 of the heap H grows -/
structure Grow (H0 H H0' H' : Hp) : Prop where
  s0 : Same H0 H0'
  s : Same H H'
  sub : Same H0' H'
  fr : ∀ p, H p ≠ none → H0 p = none → H0' p = none
theorem Grow.refl {H0 H : Hp} (h : Same H0 H) : Grow H0 H H0 H := ⟨Same.refl _, Same.refl _, h, fun _ _ e => e⟩
theorem Grow.trans {A0 A B0 B C0 C : Hp} (g : Grow A0 A B0 B) (k : Grow B0 B C0 C) : Grow A0 A C0 C :=
  ⟨g.s0.trans k.s0, g.s.trans k.s, k.sub, fun p h e => k.fr p (fun z => h (Same.free g.s z)) (g.fr p h e)⟩
theorem Grow.new {H0 H : Hp} {p : Addr} {o : HO} (h : Same H0 H) (hp : H p = none) : Grow H0 H (upd H0 p o) (upd H p o) := by
  refine ⟨Same.new (h.free hp), Same.new hp, fun b x e => ?_, fun q hq e => ?_⟩
  · by_cases hb : b = p
    · subst hb
      rw [upd_same] at e ⊢
      exact e
    · rw [upd_ne hb] at e ⊢
      exact h b x e
  · have hb : q ≠ p := fun z => hq (by rw [z]; exact hp)
    rw [upd_ne hb]
    exact e
theorem Grow.keep {H0 H H' : Hp} (h : Same H0 H) (k : Same H H') : Grow H0 H H0 H' := ⟨Same.refl _, k, h.trans k, fun _ _ e => e⟩
/-- the slots σ and the heap H (its known part H0) stand for env -/
structure ER (K : PySem.W.Frag) (σ : L2.St) (H0 H : Hp) (env : Env) : Prop where
  sub : Same H0 H
  len : env.length = σ.length
  sh : ∀ (i : Nat) (d : D), env[i]? = some (.sh d) → ∃ v, σ[i]? = some (some v) ∧ Rep K H0 v d
  ow : ∀ (i : Nat) (ds : List D), env[i]? = some (.ow ds) → ∃ p vs, σ[i]? = some (some (.ref p)) ∧ H p = some (.lst vs) ∧ H0 p = none ∧ Reps K H0 vs ds
  ap : ∀ (i j : Nat) (ds es : List D) (p : Addr), env[i]? = some (.ow ds) → env[j]? = some (.ow es) → σ[i]? = some (some (.ref p)) → σ[j]? = some (some (.ref p)) → i = j
section
variable {K : PySem.W.Frag} {σ : L2.St} {H0 H H0' H' : Hp} {env : Env}
theorem ER.grow (r : ER K σ H0 H env) (g : Grow H0 H H0' H') : ER K σ H0' H' env where
  sub := g.sub
  len := r.len
  sh := fun i d e => let ⟨v, h1, h2⟩ := r.sh i d e; ⟨v, h1, h2.mono g.s0⟩
  ow := fun i ds e => by
    obtain ⟨p, vs, h1, h2, h3, h4⟩ := r.ow i ds e
    exact ⟨p, vs, h1, g.s _ _ h2, g.fr p (by rw [h2]; exact fun z => nomatch z) h3, h4.mono g.s0⟩
  ap := r.ap
theorem set_some {α : Type} {l : List α} {i j : Nat} {x y : α} (h : (l.set i x)[j]? = some y) : (i = j ∧ y = x) ∨ (i ≠ j ∧ l[j]? = some y) := by
  by_cases e : i = j
  · subst e
    by_cases hl : i < l.length
    · rw [List.getElem?_set_self hl] at h
      exact .inl ⟨rfl, (Option.some.inj h).symm⟩
    · rw [List.getElem?_eq_none (by simpa using hl)] at h
      cases h
  · rw [List.getElem?_set_ne e] at h
    exact .inr ⟨e, h⟩
theorem ER.set {i : Nat} {v : V} {d : D} (r : ER K σ H0 H env) (h : Rep K H0 v d) : ER K (σ.set i (some v)) H0 H (env.set i (.sh d)) where
  sub := r.sub
  len := by rw [List.length_set, List.length_set, r.len]
  sh := fun j d' e => by
    rcases set_some e with ⟨rfl, e2⟩ | ⟨hj, e2⟩
    · cases e2
      refine ⟨v, ?_, h⟩
      have hl : i < env.length := by
        by_cases hl : i < env.length
        · exact hl
        · rw [List.getElem?_eq_none (by simpa using hl)] at e
          cases e
      rw [List.getElem?_set_self (by rw [← r.len]; exact hl)]
    · obtain ⟨w, h1, h2⟩ := r.sh j d' e2
      exact ⟨w, by rw [List.getElem?_set_ne hj]; exact h1, h2⟩
  ow := fun j ds e => by
    rcases set_some e with ⟨rfl, e2⟩ | ⟨hj, e2⟩
    · cases e2
    · obtain ⟨p, vs, h1, h2⟩ := r.ow j ds e2
      exact ⟨p, vs, by rw [List.getElem?_set_ne hj]; exact h1, h2⟩
  ap := fun j k ds es p e1 e2 e3 e4 => by
    rcases set_some e1 with ⟨rfl, z⟩ | ⟨hj, z⟩
    · cases z
    · rcases set_some e2 with ⟨rfl, z2⟩ | ⟨hk, z2⟩
      · cases z2
      · rw [List.getElem?_set_ne hj] at e3
        rw [List.getElem?_set_ne hk] at e4
        exact r.ap j k ds es p z z2 e3 e4
/-- a slot forgotten -/
theorem ER.forget {i : Nat} {o : Option V} (r : ER K σ H0 H env) : ER K (σ.set i o) H0 H (env.set i .no) where
  sub := r.sub
  len := by rw [List.length_set, List.length_set, r.len]
  sh := fun j d' e => by
    rcases set_some e with ⟨rfl, e2⟩ | ⟨hj, e2⟩
    · cases e2
    · obtain ⟨w, h1, h2⟩ := r.sh j d' e2
      exact ⟨w, by rw [List.getElem?_set_ne hj]; exact h1, h2⟩
  ow := fun j ds e => by
    rcases set_some e with ⟨rfl, e2⟩ | ⟨hj, e2⟩
    · cases e2
    · obtain ⟨p, vs, h1, h2⟩ := r.ow j ds e2
      exact ⟨p, vs, by rw [List.getElem?_set_ne hj]; exact h1, h2⟩
  ap := fun j k ds es p e1 e2 e3 e4 => by
    rcases set_some e1 with ⟨rfl, z⟩ | ⟨hj, z⟩
    · cases z
    · rcases set_some e2 with ⟨rfl, z2⟩ | ⟨hk, z2⟩
      · cases z2
      · rw [List.getElem?_set_ne hj] at e3
        rw [List.getElem?_set_ne hk] at e4
        exact r.ap j k ds es p z z2 e3 e4
def wipeE (env : Env) : List Nat → Env
  | [] => env
  | v :: vs => (wipeE env vs).set v .no
theorem ER.wipe (r : ER K σ H0 H env) : ∀ vs : List Nat, ER K (L2.wipe σ vs) H0 H (wipeE env vs)
  | [] => r
  | _ :: vs => (ER.wipe r vs).forget
/-- a new list of one's own -/
theorem ER.setO {i : Nat} {p : Addr} {vs : List V} {ds : List D} (r : ER K σ H0 H env) (hp : H p = some (.lst vs)) (h0 : H0 p = none) (hr : Reps K H0 vs ds)
    (new : ∀ (j : Nat) (es : List D), env[j]? = some (.ow es) → σ[j]? ≠ some (some (.ref p))) : ER K (σ.set i (some (.ref p))) H0 H (env.set i (.ow ds)) where
  sub := r.sub
  len := by rw [List.length_set, List.length_set, r.len]
  sh := fun j d' e => by
    rcases set_some e with ⟨rfl, e2⟩ | ⟨hj, e2⟩
    · cases e2
    · obtain ⟨w, h1, h2⟩ := r.sh j d' e2
      exact ⟨w, by rw [List.getElem?_set_ne hj]; exact h1, h2⟩
  ow := fun j es e => by
    rcases set_some e with ⟨rfl, e2⟩ | ⟨hj, e2⟩
    · cases e2
      have hl : i < env.length := by
        by_cases hl : i < env.length
        · exact hl
        · rw [List.getElem?_eq_none (by simpa using hl)] at e
          cases e
      exact ⟨p, vs, by rw [List.getElem?_set_self (by rw [← r.len]; exact hl)], hp, h0, hr⟩
    · obtain ⟨p, vs, h1, h2⟩ := r.ow j es e2
      exact ⟨p, vs, by rw [List.getElem?_set_ne hj]; exact h1, h2⟩
  ap := fun j k d1 d2 q e1 e2 e3 e4 => by
    rcases set_some e1 with ⟨rfl, z⟩ | ⟨hj, z⟩
    · rcases set_some e2 with ⟨rfl, z2⟩ | ⟨hk, z2⟩
      · rfl
      · rw [List.getElem?_set_ne hk] at e4
        rcases set_some e3 with ⟨_, w⟩ | ⟨hi, _⟩
        · cases w
          exact absurd e4 (new k d2 z2)
        · exact absurd rfl hi
    · rcases set_some e2 with ⟨rfl, z2⟩ | ⟨hk, z2⟩
      · rw [List.getElem?_set_ne hj] at e3
        rcases set_some e4 with ⟨_, w⟩ | ⟨hi, _⟩
        · cases w
          exact absurd e3 (new j d1 z)
        · exact absurd rfl hi
      · rw [List.getElem?_set_ne hj] at e3
        rw [List.getElem?_set_ne hk] at e4
        exact r.ap j k d1 d2 q z z2 e3 e4
/-- an own list is written -/
theorem ER.put {i : Nat} {p : Addr} {vs : List V} {ds es : List D} (r : ER K σ H0 H env) (hi : env[i]? = some (.ow es)) (hσ : σ[i]? = some (some (.ref p))) (hr : Reps K H0 vs ds) :
    ER K σ H0 (upd H p (.lst vs)) (env.set i (.ow ds)) := by
  have h0 : H0 p = none := by
    obtain ⟨q, ws, h1, h2, h3, h4⟩ := r.ow i es hi
    rw [hσ] at h1
    cases h1
    exact h3
  refine ⟨fun b o e => ?_, by rw [List.length_set, r.len], fun j d' e => ?_, fun j fs e => ?_, fun j k d1 d2 q e1 e2 e3 e4 => ?_⟩
  · rw [upd_ne (ne_of_none e h0)]
    exact r.sub b o e
  · rcases set_some e with ⟨rfl, e2⟩ | ⟨hj, e2⟩
    · cases e2
    · exact r.sh j d' e2
  · rcases set_some e with ⟨rfl, e2⟩ | ⟨hj, e2⟩
    · cases e2
      exact ⟨p, vs, hσ, upd_same, h0, hr⟩
    · obtain ⟨q, ws, h1, h2, h3⟩ := r.ow j fs e2
      have ne : q ≠ p := fun z => by
        subst z
        exact hj (r.ap i j es fs q hi e2 hσ h1)
      exact ⟨q, ws, h1, by rw [upd_ne ne]; exact h2, h3⟩
  · have old : ∀ (j : Nat) (d1 : List D), (env.set i (.ow ds))[j]? = some (.ow d1) → ∃ d, env[j]? = some (.ow d) := fun j d1 e => by
      rcases set_some e with ⟨rfl, e2⟩ | ⟨hj, e2⟩
      · exact ⟨_, hi⟩
      · exact ⟨_, e2⟩
    obtain ⟨f1, z1⟩ := old j d1 e1
    obtain ⟨f2, z2⟩ := old k d2 e2
    exact r.ap j k f1 f2 q z1 z2 e3 e4
/-- an own list becomes known -/
theorem ER.freeze {i : Nat} {es : List D} (r : ER K σ H0 H env) (hi : env[i]? = some (.ow es)) : ∃ p vs, H p = some (.lst vs) ∧ H0 p = none ∧ σ[i]? = some (some (.ref p)) ∧ Reps K H0 vs es ∧ ER K σ (upd H0 p (.lst vs)) H (env.set i (.sh (.lst es))) := by
  obtain ⟨p, vs, h1, h2, h3, h4⟩ := r.ow i es hi
  have sm : Same H0 (upd H0 p (.lst vs)) := Same.new h3
  refine ⟨p, vs, h2, h3, h1, h4, fun b o e => ?_, by rw [List.length_set, r.len], fun j d' e => ?_, fun j fs e => ?_, fun j k d1 d2 q e1 e2 e3 e4 => ?_⟩
  · by_cases hb : b = p
    · subst hb
      rw [upd_same] at e
      cases e
      exact h2
    · rw [upd_ne hb] at e
      exact r.sub b o e
  · rcases set_some e with ⟨rfl, e2⟩ | ⟨hj, e2⟩
    · cases e2
      exact ⟨_, h1, .lst (SqL.of upd_same) (h4.mono sm)⟩
    · obtain ⟨w, h5, h6⟩ := r.sh j d' e2
      exact ⟨w, h5, h6.mono sm⟩
  · rcases set_some e with ⟨rfl, e2⟩ | ⟨hj, e2⟩
    · cases e2
    · obtain ⟨q, ws, g1, g2, g3, g4⟩ := r.ow j fs e2
      have ne : q ≠ p := fun z => by
        subst z
        exact hj (r.ap i j es fs q hi e2 h1 g1)
      exact ⟨q, ws, g1, g2, by rw [upd_ne ne]; exact g3, g4.mono sm⟩
  · rcases set_some e1 with ⟨rfl, z⟩ | ⟨hj, z⟩
    · cases z
    · rcases set_some e2 with ⟨rfl, z2⟩ | ⟨hk, z2⟩
      · cases z2
      · exact r.ap j k d1 d2 q z z2 e3 e4
end
/-! ### readings -/
/-- what is wanted of a result -/
def Kt {α β : Type} (R : Hp → β → α → Prop) (W : WX) (σ : L2.St) (H0 H : Hp) (r : Res α) (Q : β → Hp → Prop) : Prop := match r with
  | .no => False
  | .ex C => ∀ H0' H', Grow H0 H H0' H' → W (.ref C) none σ H'
  | .ok a => ∀ x H0' H', Grow H0 H H0' H' → R H0' x a → Q x H'
def tR {α β : Type} (K : PySem.W.Frag) (R : Hp → β → α → Prop) (W : WX) (f : Env → Res α) : L2.St → Hp → (β → Hp → Prop) → Prop := fun σ H Q => ∃ H0 env, ER K σ H0 H env ∧ Kt R W σ H0 H (f env) Q
abbrev rD (K : PySem.W.Frag) : Hp → V → D → Prop := fun H v d => Rep K H v d
abbrev rDs (K : PySem.W.Frag) : Hp → List V → List D → Prop := fun H v d => Reps K H v d
abbrev rV {α : Type} : Hp → α → α → Prop := fun _ a b => a = b
abbrev tD (K : PySem.W.Frag) (W : WX) (f : Env → Res D) : TE := tR K (rD K) W f
abbrev tDs (K : PySem.W.Frag) (W : WX) (f : Env → Res (List D)) : TA := tR K (rDs K) W f
abbrev tDB (K : PySem.W.Frag) (W : WX) (f : Env → Res Bool) : TT := tR K rV W f
abbrev tDO (K : PySem.W.Frag) (W : WX) (f : Env → Res (Option Int)) : TO := tR K rV W f
section
variable {K : PySem.W.Frag} {σ : L2.St} {H0 H H0' H' : Hp} {env : Env} {W : WX} {α β γ δ : Type} {R : Hp → β → α → Prop} {R' : Hp → δ → γ → Prop}
theorem Kt.shift {r : Res α} {Q : β → Hp → Prop} (g : Grow H0 H H0' H') (k : Kt R W σ H0 H r Q) : Kt R W σ H0' H' r Q := by
  cases r with
  | no => exact k
  | ex C => exact fun A B h => k A B (g.trans h)
  | ok a => exact fun x A B h q => k x A B (g.trans h) q
theorem Kt.seq {r : Res α} {g : α → Res γ} {P : β → Hp → Prop} {Q : δ → Hp → Prop} (er : ER K σ H0 H env) (k : Kt R' W σ H0 H (r.bind g) Q)
    (p : ∀ x a H0' H', Grow H0 H H0' H' → ER K σ H0' H' env → R H0' x a → Kt R' W σ H0' H' (g a) Q → P x H') : Kt R W σ H0 H r P := by
  cases r with
  | no => exact k
  | ex C => exact k
  | ok a => exact fun x A B h q => p x a A B h (er.grow h) q (Kt.shift h k)
theorem Kt.ok {a : α} {Q : β → Hp → Prop} {x : β} (k : Kt R W σ H0 H (.ok a) Q) (g : Grow H0 H H0' H') (h : R H0' x a) : Q x H' := k x _ _ g h
end
theorem PE.imp {X : Cx} {e : Expr} {t t' : TE} (h : PE X e t) (i : ∀ σ H Q, t' σ H Q → t σ H Q) : PE X e t' := ⟨fun pins s σ H Q I w => h.run pins s σ H Q I (i σ H Q w)⟩
theorem PT.imp {X : Cx} {e : Expr} {t t' : TT} (h : PT X e t) (i : ∀ σ H Q, t' σ H Q → t σ H Q) : PT X e t' := ⟨fun pins s σ H Q I w => h.run pins s σ H Q I (i σ H Q w)⟩
theorem PA.imp {X : Cx} {e : List Expr} {t t' : TA} (h : PA X e t) (i : ∀ σ H Q, t' σ H Q → t σ H Q) : PA X e t' := ⟨fun pos pins s σ H Q I w => h.run pos pins s σ H Q I (i σ H Q w)⟩
theorem PO.imp {X : Cx} {e : Option Expr} {t t' : TO} (h : PO X e t) (i : ∀ σ H Q, t' σ H Q → t σ H Q) : PO X e t' := ⟨fun pins s σ H Q I w => h.run pins s σ H Q I (i σ H Q w)⟩
theorem PS.imp {X : Cx} {e : Stmt} {t t' : TS} (h : PS X e t) (i : ∀ D σ H, t' D σ H → t D σ H) : PS X e t' := ⟨fun pins s σ H Q I w => h.run pins s σ H Q I (i Q σ H w)⟩
theorem PSs.imp {X : Cx} {e : List Stmt} {t t' : TS} (h : PSs X e t) (i : ∀ D σ H, t' D σ H → t D σ H) : PSs X e t' := ⟨fun pins s σ H Q I w => h.run pins s σ H Q I (i Q σ H w)⟩
end Dt
namespace Dt
open PySem PySem.Spec PyProof.Rows L2
/-! ## expressions -/
def eVar (i : Nat) : Env → Res D := fun env => match env[i]? with
  | some (.sh d) => .ok d
  | _ => .no
def eC (d : D) : Env → Res D := fun _ => .ok d
def eOp (g : D → D → Option D) (fa fb : Env → Res D) : Env → Res D := fun env => (fa env).bind fun a => (fb env).bind fun b => ofO (g a b)
def eUn (g : D → Option D) (fa : Env → Res D) : Env → Res D := fun env => (fa env).bind fun a => ofO (g a)
def toB : D → Res Bool
  | .bl b => .ok b
  | _ => .no
def bV (fa : Env → Res D) : Env → Res Bool := fun env => (fa env).bind toB
def bAnd (fa fb : Env → Res Bool) : Env → Res Bool := fun env => (fa env).bind fun a => if a = true then fb env else .ok false
def bOr (fa fb : Env → Res Bool) : Env → Res Bool := fun env => (fa env).bind fun a => if a = true then .ok true else fb env
def bNot (fa : Env → Res Bool) : Env → Res Bool := fun env => (fa env).bind fun a => .ok (!a)
/-- a truth as a value -/
def eB (fa : Env → Res Bool) : Env → Res D := fun env => (fa env).bind fun a => .ok (.bl a)
def eIf (fc : Env → Res Bool) (fa fb : Env → Res D) : Env → Res D := fun env => (fc env).bind fun c => if c = true then fa env else fb env
def aNil : Env → Res (List D) := fun _ => .ok []
def aCons (fa : Env → Res D) (fr : Env → Res (List D)) : Env → Res (List D) := fun env => (fa env).bind fun a => (fr env).bind fun r => .ok (a :: r)
def eFn (g : List D → Option D) (fa : Env → Res (List D)) : Env → Res D := fun env => (fa env).bind fun a => ofO (g a)
def eCall (g : List D → Res D) (fa : Env → Res (List D)) : Env → Res D := fun env => (fa env).bind fun a => g a
def eTup (fa : Env → Res (List D)) : Env → Res D := fun env => (fa env).bind fun a => .ok (.tup a)
def eLst (fa : Env → Res (List D)) : Env → Res D := fun env => (fa env).bind fun a => .ok (.lst a)
/-- a method of a built-in type -/
def eMt (t : D → Bool) (g : D → List D → Option D) (fo : Env → Res D) (fa : Env → Res (List D)) : Env → Res D := fun env => (fo env).bind fun o => if t o = true then (fa env).bind fun a => ofO (g o a) else .no
def eChain (g g' : D → D → Option D) (fa fb fc : Env → Res D) : Env → Res D := fun env => (fa env).bind fun a => (fb env).bind fun b => (ofO (g a b)).bind fun z => (toB z).bind fun k => if k = true then (fc env).bind fun c => ofO (g' b c) else .ok (.bl false)
def oNone : Env → Res (Option Int) := fun _ => .ok none
def toI : D → Res Int
  | .int i => .ok i
  | _ => .no
def oSome (fa : Env → Res D) : Env → Res (Option Int) := fun env => (fa env).bind fun a => (toI a).bind fun i => .ok (some i)
/-- what a rule on values must do -/
def Good2 (K : PySem.W.Frag) (r : R2) (g : D → D → Option D) : Prop := ∀ H0 H x y a b d (Q : VK), Same H0 H → Rep K H0 x a → Rep K H0 y b → g a b = some d → (∀ v H0' H', Grow H0 H H0' H' → Rep K H0' v d → Q v H') → r x y H Q
def Good1 (K : PySem.W.Frag) (r : V → Hp → VK → Prop) (g : D → Option D) : Prop := ∀ H0 H x a d (Q : VK), Same H0 H → Rep K H0 x a → g a = some d → (∀ v H0' H', Grow H0 H H0' H' → Rep K H0' v d → Q v H') → r x H Q
def GoodN (K : PySem.W.Frag) (r : List V → Hp → VK → Prop) (g : List D → Option D) : Prop := ∀ H0 H xs as d (Q : VK), Same H0 H → Reps K H0 xs as → g as = some d → (∀ v H0' H', Grow H0 H H0' H' → Rep K H0' v d → Q v H') → r xs H Q
def GoodM (K : PySem.W.Frag) (r : V → List V → Hp → VK → Prop) (g : D → List D → Option D) : Prop := ∀ H0 H x xs a as d (Q : VK), Same H0 H → Rep K H0 x a → Reps K H0 xs as → g a as = some d → (∀ v H0' H', Grow H0 H H0' H' → Rep K H0' v d → Q v H') → r x xs H Q
section
variable {K : PySem.W.Frag} {W : WX} {σ : L2.St} {H : Hp} {fa fb fc : Env → Res D} {ta tb tc : Env → Res Bool} {fl fr : Env → Res (List D)}
theorem t_var {i : Nat} {Q : VK} (h : tD K W (eVar i) σ H Q) : tVar i σ H Q := by
  obtain ⟨H0, env, er, k⟩ := h
  unfold eVar at k
  cases e : env[i]? with
  | none => rw [e] at k; exact k.elim
  | some s =>
    rw [e] at k
    cases s with
    | no => exact k.elim
    | ow ds => exact k.elim
    | sh d =>
      obtain ⟨v, h1, h2⟩ := er.sh i d e
      exact ⟨v, h1, k v H0 H (Grow.refl er.sub) h2⟩
theorem t_c {v : V} {d : D} {Q : VK} (r : ∀ H, Rep K H v d) (h : tD K W (eC d) σ H Q) : tC v σ H Q := by
  obtain ⟨H0, env, er, k⟩ := h
  exact k v H0 H (Grow.refl er.sub) (r H0)
theorem kt_ofO {H0 : Hp} {o : Option D} {Q : VK} (s : Same H0 H) (k : Kt (rD K) W σ H0 H (ofO o) Q) : ∃ d, o = some d ∧ ∀ v H0' H', Grow H0 H H0' H' → Rep K H0' v d → Q v H' := by
  cases o with
  | none => exact k.elim
  | some d => exact ⟨d, rfl, k⟩
theorem t_op {r : R2} {g : D → D → Option D} {Q : VK} (hg : Good2 K r g) (h : tD K W (eOp g fa fb) σ H Q) : tOp r (tD K W fa) (tD K W fb) σ H Q := by
  obtain ⟨H0, env, er, k⟩ := h
  refine ⟨H0, env, er, Kt.seq er k fun x a A B gr er' rx k' => ⟨A, env, er', Kt.seq er' k' fun y b A' B' gr' er'' ry k'' => ?_⟩⟩
  obtain ⟨d, e, q⟩ := kt_ofO er''.sub k''
  exact hg A' B' x y a b d Q er''.sub (rx.mono gr'.s0) ry e q
theorem t_un {r : V → Hp → VK → Prop} {g : D → Option D} {Q : VK} (hg : Good1 K r g) (h : tD K W (eUn g fa) σ H Q) : tUn r (tD K W fa) σ H Q := by
  obtain ⟨H0, env, er, k⟩ := h
  refine ⟨H0, env, er, Kt.seq er k fun x a A B gr er' rx k' => ?_⟩
  obtain ⟨d, e, q⟩ := kt_ofO er'.sub k'
  exact hg A B x a d Q er'.sub rx e q
theorem t_nil {Q : List V → Hp → Prop} (h : tDs K W aNil σ H Q) : tNil σ H Q := by
  obtain ⟨H0, env, er, k⟩ := h
  exact k [] H0 H (Grow.refl er.sub) .nil
theorem t_cons {Q : List V → Hp → Prop} (h : tDs K W (aCons fa fl) σ H Q) : tCons (tD K W fa) (tDs K W fl) σ H Q := by
  obtain ⟨H0, env, er, k⟩ := h
  refine ⟨H0, env, er, Kt.seq er k fun x a A B gr er' rx k' => ⟨A, env, er', Kt.seq er' k' fun y b A' B' gr' er'' ry k'' => ?_⟩⟩
  exact k'' _ A' B' (Grow.refl er''.sub) (.cons (rx.mono gr'.s0) ry)
theorem t_fn {r : List V → Hp → VK → Prop} {g : List D → Option D} {Q : VK} (hg : GoodN K r g) (h : tD K W (eFn g fl) σ H Q) : tCB r (tDs K W fl) σ H Q := by
  obtain ⟨H0, env, er, k⟩ := h
  refine ⟨H0, env, er, Kt.seq er k fun x a A B gr er' rx k' => ?_⟩
  obtain ⟨d, e, q⟩ := kt_ofO er'.sub k'
  exact hg A B x a d Q er'.sub rx e q
theorem t_mt {t : D → Bool} {P : V → Hp → Prop} {r : V → List V → Hp → VK → Prop} {g : D → List D → Option D} {Q : VK} (hg : GoodM K r g) (hP : ∀ H0 H x a, Same H0 H → Rep K H0 x a → t a = true → P x H) (h : tD K W (eMt t g fa fl) σ H Q) : (tD K W fa) σ H fun x H1 => P x H1 ∧ tDs K W fl σ H1 fun xs H2 => r x xs H2 Q := by
  obtain ⟨H0, env, er, k⟩ := h
  refine ⟨H0, env, er, Kt.seq er k fun x a A B gr er' rx k' => ?_⟩
  cases e : t a with
  | false => rw [e] at k'; exact k'.elim
  | true =>
    rw [e] at k'
    refine ⟨hP A B x a er'.sub rx e, A, env, er', Kt.seq er' k' fun y b A' B' gr' er'' ry k'' => ?_⟩
    obtain ⟨d, e, q⟩ := kt_ofO er''.sub k''
    exact hg A' B' x y a b d Q er''.sub (rx.mono gr'.s0) ry e q
/-- a reading is monotone in what is wanted -/
theorem tR_mono {α β : Type} {R : Hp → β → α → Prop} {f : Env → Res α} {Q Q' : β → Hp → Prop} (h : tR K R W f σ H Q) (i : ∀ x H', Same H H' → Q x H' → Q' x H') : tR K R W f σ H Q' := by
  obtain ⟨H0, env, er, k⟩ := h
  refine ⟨H0, env, er, ?_⟩
  cases e : f env with
  | no => rw [e] at k; exact k
  | ex C => rw [e] at k; exact k
  | ok a => rw [e] at k; exact fun x A B g r => i x B g.s (k x A B g r)
theorem t_tup {n : Nat} {Q : VK} (hn : ∀ env ds, fl env = .ok ds → ds.length ≤ n) (hz : n ≤ sizeLine) (h : tD K W (eTup fl) σ H Q) : tTup (tDs K W fl) σ H Q := by
  obtain ⟨H0, env, er, k⟩ := h
  refine ⟨H0, env, er, ?_⟩
  have hl := hn env
  cases e : fl env with
  | no => unfold eTup at k; rw [e] at k; exact k
  | ex C => unfold eTup at k; rw [e] at k; exact k
  | ok ds =>
    unfold eTup at k; rw [e] at k
    intro xs A B g r
    refine ⟨by rw [r.length]; exact Nat.le_trans (hl ds e) hz, fun p hp => ?_⟩
    have g2 := Grow.new (o := .tup xs) g.sub hp
    exact k _ _ _ (g.trans g2) (.tup (SqT.of upd_same) (r.mono g2.s0))
theorem t_lst {n : Nat} {Q : VK} (hn : ∀ env ds, fl env = .ok ds → ds.length ≤ n) (hz : n ≤ sizeLine) (h : tD K W (eLst fl) σ H Q) : tLst (tDs K W fl) σ H Q := by
  obtain ⟨H0, env, er, k⟩ := h
  refine ⟨H0, env, er, ?_⟩
  have hl := hn env
  cases e : fl env with
  | no => unfold eLst at k; rw [e] at k; exact k
  | ex C => unfold eLst at k; rw [e] at k; exact k
  | ok ds =>
    unfold eLst at k; rw [e] at k
    intro xs A B g r
    refine ⟨by rw [r.length]; exact Nat.le_trans (hl ds e) hz, fun p hp => ?_⟩
    have g2 := Grow.new (o := .lst xs) g.sub hp
    exact k _ _ _ (g.trans g2) (.lst (SqL.of upd_same) (r.mono g2.s0))
theorem kt_toB {H0 : Hp} {a : D} {x : V} {Q : Bool → Hp → Prop} (r : Rep K H0 x a) (s : Same H0 H) (k : Kt rV W σ H0 H (toB a) Q) : ∃ c, x = .bl c ∧ Q c H := by
  cases a with
  | bl b =>
    cases r
    exact ⟨b, rfl, k b H0 H (Grow.refl s) rfl⟩
  | _ => exact k.elim
theorem t_bV {Q : Bool → Hp → Prop} (h : tDB K W (bV fa) σ H Q) : tB (tD K W fa) σ H Q := by
  obtain ⟨H0, env, er, k⟩ := h
  refine ⟨H0, env, er, Kt.seq er k fun x a A B gr er' rx k' => ?_⟩
  exact kt_toB rx er'.sub k'
theorem t_and {Q : Bool → Hp → Prop} (h : tDB K W (bAnd ta tb) σ H Q) : tAnd (tDB K W ta) (tDB K W tb) σ H Q := by
  obtain ⟨H0, env, er, k⟩ := h
  refine ⟨H0, env, er, Kt.seq er k fun x a A B gr er' rx k' => ?_⟩
  cases (show x = a from rx)
  cases x with
  | true => exact iteT ⟨A, env, er', k'⟩
  | false => exact iteF (k' false A B (Grow.refl er'.sub) rfl)
theorem t_or {Q : Bool → Hp → Prop} (h : tDB K W (bOr ta tb) σ H Q) : tOr (tDB K W ta) (tDB K W tb) σ H Q := by
  obtain ⟨H0, env, er, k⟩ := h
  refine ⟨H0, env, er, Kt.seq er k fun x a A B gr er' rx k' => ?_⟩
  cases (show x = a from rx)
  cases x with
  | true => exact iteT (k' true A B (Grow.refl er'.sub) rfl)
  | false => exact iteF ⟨A, env, er', k'⟩
theorem t_not {Q : Bool → Hp → Prop} (h : tDB K W (bNot ta) σ H Q) : tNot (tDB K W ta) σ H Q := by
  obtain ⟨H0, env, er, k⟩ := h
  refine ⟨H0, env, er, Kt.seq er k fun x a A B gr er' rx k' => ?_⟩
  cases (show x = a from rx)
  exact k' _ A B (Grow.refl er'.sub) rfl
theorem t_if {Q : VK} (h : tD K W (eIf tc fa fb) σ H Q) : tIf (tDB K W tc) (tD K W fa) (tD K W fb) σ H Q := by
  obtain ⟨H0, env, er, k⟩ := h
  refine ⟨H0, env, er, Kt.seq er k fun x a A B gr er' rx k' => ?_⟩
  cases (show x = a from rx)
  cases x with
  | true => exact iteT ⟨A, env, er', k'⟩
  | false => exact iteF ⟨A, env, er', k'⟩
/-- x and y, x or y, not x of truths as values -/
theorem t_andV {Q : VK} (h : tD K W (eB (bAnd ta tb)) σ H Q) : tAndV (tD K W (eB ta)) (tD K W (eB tb)) σ H Q := by
  obtain ⟨H0, env, er, k⟩ := h
  refine ⟨H0, env, er, ?_⟩
  unfold eB bAnd at k
  unfold eB
  cases e : ta env with
  | no => rw [e] at k; exact k
  | ex C => rw [e] at k; exact k
  | ok a =>
    rw [e] at k
    intro x A B g r
    cases r
    refine ⟨a, rfl, ?_⟩
    cases a with
    | true => exact iteT ⟨A, env, er.grow g, Kt.shift g k⟩
    | false => exact iteF (k _ A B g (.bl false))
theorem t_orV {Q : VK} (h : tD K W (eB (bOr ta tb)) σ H Q) : tOrV (tD K W (eB ta)) (tD K W (eB tb)) σ H Q := by
  obtain ⟨H0, env, er, k⟩ := h
  refine ⟨H0, env, er, ?_⟩
  unfold eB bOr at k
  unfold eB
  cases e : ta env with
  | no => rw [e] at k; exact k
  | ex C => rw [e] at k; exact k
  | ok a =>
    rw [e] at k
    intro x A B g r
    cases r
    refine ⟨a, rfl, ?_⟩
    cases a with
    | true => exact iteT (k _ A B g (.bl true))
    | false => exact iteF ⟨A, env, er.grow g, Kt.shift g k⟩
theorem t_notV {Q : VK} (h : tD K W (eB (bNot ta)) σ H Q) : tNotV (tD K W (eB ta)) σ H Q := by
  obtain ⟨H0, env, er, k⟩ := h
  refine ⟨H0, env, er, ?_⟩
  unfold eB bNot at k
  unfold eB
  cases e : ta env with
  | no => rw [e] at k; exact k
  | ex C => rw [e] at k; exact k
  | ok a =>
    rw [e] at k
    intro x A B g r
    cases r
    exact ⟨a, rfl, k _ A B g (.bl _)⟩
/-- a value that is a truth, as eB of its truth -/
theorem t_eBV {Q : VK} (h : tD K W (eB (bV fa)) σ H Q) : tD K W fa σ H Q := by
  obtain ⟨H0, env, er, k⟩ := h
  refine ⟨H0, env, er, ?_⟩
  unfold eB bV at k
  cases e : fa env with
  | no => rw [e] at k; exact k
  | ex C => rw [e] at k; exact k
  | ok a =>
    rw [e] at k
    cases a with
    | bl b => exact k
    | _ => exact k.elim
theorem t_chain {r r' : R2} {g g' : D → D → Option D} {Q : VK} (hg : Good2 K r g) (hg' : Good2 K r' g') (h : tD K W (eChain g g' fa fb fc) σ H Q) : tChain r r' (tD K W fa) (tD K W fb) (tD K W fc) σ H Q := by
  obtain ⟨H0, env, er, k⟩ := h
  refine ⟨H0, env, er, Kt.seq er k fun x a A B gr er' rx k' => ⟨A, env, er', Kt.seq er' k' fun y b A' B' gr' er'' ry k'' => ?_⟩⟩
  cases e : g a b with
  | none => rw [e] at k''; exact k''.elim
  | some z =>
    rw [e] at k''
    refine hg A' B' x y a b z _ er''.sub (rx.mono gr'.s0) ry e fun v A3 B3 g3 rv => ?_
    cases z with
    | bl c =>
      cases rv
      refine ⟨c, rfl, ?_⟩
      have k3 := Kt.shift g3 k''
      cases c with
      | true =>
        refine iteT ⟨A3, env, er''.grow g3, Kt.seq (er''.grow g3) k3 fun w c' A4 B4 g4 er4 rw4 k4 => ?_⟩
        obtain ⟨d, e4, q⟩ := kt_ofO er4.sub k4
        exact hg' A4 B4 y w b c' d Q er4.sub ((ry.mono g3.s0).mono g4.s0) rw4 e4 q
      | false => exact iteF (k3 _ A3 B3 (Grow.refl g3.sub) (.bl false))
    | _ => exact k''.elim
theorem t_oNone {Q : Option Int → Hp → Prop} (h : tDO K W oNone σ H Q) : tNoPart σ H Q := by
  obtain ⟨H0, env, er, k⟩ := h
  exact k none H0 H (Grow.refl er.sub) rfl
theorem t_oSome {Q : Option Int → Hp → Prop} (h : tDO K W (oSome fa) σ H Q) : tPart (tD K W fa) σ H Q := by
  obtain ⟨H0, env, er, k⟩ := h
  refine ⟨H0, env, er, Kt.seq er k fun x a A B gr er' rx k' => ?_⟩
  cases a with
  | int i =>
    cases rx
    exact ⟨i, rfl, k' _ A B (Grow.refl er'.sub) rfl⟩
  | _ => exact k'.elim
end
/-! ### the rules -/
section
variable {X : Cx} {W : WX} {e a b c : Expr} {es rest : List Expr} {pos p pos' : Pos} {fa fb fc : Env → Res D} {ta tb tc : Env → Res Bool} {fl : Env → Res (List D)}
theorem pd_var (i : Nat) {x : Str} (hN : X.N[i]? = some x := by rfl) (hv : Vis X.env.scope x := by first | exact Or.inl rfl | exact Or.inr (Or.inl rfl) | exact Or.inr (Or.inr rfl)) (hd : (x == ("__debug__" : Str)) = false := by decide)
    (hcd : (x == ("__classdict__" : Str)) = false := by decide) : PE X (.Name x pos) (tD X.K W (eVar i)) := PE.imp (pe_var hN hv hd hcd) fun _ _ _ h => t_var h
theorem pd_int {i : Int} {j pos} : PE X (.Constant (.int i) j pos) (tD X.K W (eC (.int i))) := PE.imp pe_int fun _ _ _ h => t_c (fun _ => .int i) h
theorem pd_bl {i : Bool} {j pos} : PE X (.Constant (.bool i) j pos) (tD X.K W (eC (.bl i))) := PE.imp pe_bl fun _ _ _ h => t_c (fun _ => .bl i) h
theorem pd_non {j pos} : PE X (.Constant .none j pos) (tD X.K W (eC .non)) := PE.imp pe_non fun _ _ _ h => t_c (fun _ => .non) h
theorem pd_str {i : Str} {j pos} : PE X (.Constant (.str i) j pos) (tD X.K W (eC (.str i))) := PE.imp pe_str fun _ _ _ h => t_c (fun _ => .str i) h
/-- a module's constant -/
theorem pd_glob {x : Str} {v : V} {u : Value} {d : D} (hg : Gl X x) (hm : X.mg x = some u) (r : RelV v u) (h : ∀ H, Rep X.K H v d) (hd : (x == ("__debug__" : Str)) = false := by decide) : PE X (.Name x pos) (tD X.K W (eC d)) :=
  PE.imp (pe_glob hg hm r hd) fun _ _ _ q => t_c h q
/-- a built-in class's name as a value -/
theorem pd_bty {x : Str} {n : String} (hg : Gl X x) (hm : X.mg x = none) (hv : bootBuiltins x = some (.type n)) (hn : x ≠ "__name__" := by decide) (hd : (x == ("__debug__" : Str)) = false := by decide) : PE X (.Name x pos) (tD X.K W (eC (.ty n))) :=
  PE.imp (pe_bltn (v := .ty n) hg hm hv rfl hn hd) fun _ _ _ q => t_c (fun _ => .ty n) q
theorem pd_op {op : Operator} {r : R2} {g : D → D → Option D} (ho : OpR X (binaryOp op) r) (hg : Good2 X.K r g) (ha : PE X a (tD X.K W fa)) (hb : PE X b (tD X.K W fb)) : PE X (.BinOp a op b pos) (tD X.K W (eOp g fa fb)) :=
  PE.imp (pe_op ho ha hb) fun _ _ _ h => t_op hg h
theorem pd_un {op : UnaryOp} {r : V → Hp → VK → Prop} {g : D → Option D} (ho : UnR X (unaryOp op) r) (hg : Good1 X.K r g) (ha : PE X a (tD X.K W fa)) : PE X (.UnaryOp op a pos) (tD X.K W (eUn g fa)) :=
  PE.imp (pe_un ho ha) fun _ _ _ h => t_un hg h
theorem pd_cmp {op : CmpOp} {r : R2} {g : D → D → Option D} (ho : OpR X (compareOp op) r) (hg : Good2 X.K r g) (ha : PE X a (tD X.K W fa)) (hb : PE X b (tD X.K W fb)) (hm : behindInMarks op b = false := by first | exact nomark _ | rfl) : PE X (.Compare a [op] [b] pos) (tD X.K W (eOp g fa fb)) :=
  PE.imp (pe_cmpR ho ha hb hm) fun _ _ _ h => t_op hg h
theorem pt_cmp' {op : CmpOp} {r : R2} {g : D → D → Option D} (ho : OpR X (compareOp op) r) (hg : Good2 X.K r g) (ha : PE X a (tD X.K W fa)) (hb : PE X b (tD X.K W fb)) (hm : behindInMarks op b = false := by first | exact nomark _ | rfl) : PT X (.Compare a [op] [b] pos) (tDB X.K W (bV (eOp g fa fb))) :=
  PT.imp (pt_cmpR ho ha hb hm) fun σ H Q h => by
    obtain ⟨H0, env, er, k⟩ := h
    unfold bV at k
    refine t_op hg ⟨H0, env, er, Kt.seq er k fun x a A B gr er' rx k' => ?_⟩
    exact kt_toB rx er'.sub k'
theorem pd_chain {op op' : CmpOp} {r r' : R2} {g g' : D → D → Option D} (ho : OpR X (compareOp op) r) (hg : Good2 X.K r g) (ho' : OpR X (compareOp op') r') (hg' : Good2 X.K r' g') (ha : PE X a (tD X.K W fa)) (hb : PE X b (tD X.K W fb)) (hc : PE X c (tD X.K W fc))
    (hm : lastMarks [op, op'] [b, c] = false := by with_unfolding_all rfl) : PE X (.Compare a [op, op'] [b, c] pos) (tD X.K W (eChain g g' fa fb fc)) := PE.imp (pe_chain ho ho' ha hb hc hm) fun _ _ _ h => t_chain hg hg' h
theorem pt_chain' {op op' : CmpOp} {r r' : R2} {g g' : D → D → Option D} (ho : OpR X (compareOp op) r) (hg : Good2 X.K r g) (ho' : OpR X (compareOp op') r') (hg' : Good2 X.K r' g') (ha : PE X a (tD X.K W fa)) (hb : PE X b (tD X.K W fb)) (hc : PE X c (tD X.K W fc))
    (hm : lastMarks [op, op'] [b, c] = false := by with_unfolding_all rfl) : PT X (.Compare a [op, op'] [b, c] pos) (tDB X.K W (bV (eChain g g' fa fb fc))) := PT.imp (pt_chain ho ho' ha hb hc hm) fun σ H Q h => by
    obtain ⟨H0, env, er, k⟩ := h
    refine t_chain hg hg' ⟨H0, env, er, Kt.seq er k fun x a A B gr er' rx k' => ?_⟩
    exact kt_toB rx er'.sub k'
theorem pt_v (ha : PE X e (tD X.K W fa)) (he : ∀ whole, isTrue e X.env whole = (do let v ← whole; standAt e.pos; holding [v] (truthy v)) := by intro _; rfl) : PT X e (tDB X.K W (bV fa)) :=
  PT.imp (pt_val ha he) fun _ _ _ h => t_bV h
theorem pwd_and1 (ha : PT X a (tDB X.K W ta)) : PW X (.BoolOp .And [a] pos) (tDB X.K W ta) := pw_and1 ha
theorem pwd_or1 (ha : PT X a (tDB X.K W ta)) : PW X (.BoolOp .Or [a] pos) (tDB X.K W ta) := pw_or1 ha
theorem pwd_and (ha : PT X a (tDB X.K W ta)) (hb : PW X (.BoolOp .And (b :: rest) pos) (tDB X.K W tb)) : PW X (.BoolOp .And (a :: b :: rest) pos) (tDB X.K W (bAnd ta tb)) :=
  ⟨fun whole pins s σ H Q I h => (pw_and ha hb).run whole pins s σ H Q I (t_and h)⟩
theorem pwd_or (ha : PT X a (tDB X.K W ta)) (hb : PW X (.BoolOp .Or (b :: rest) pos) (tDB X.K W tb)) : PW X (.BoolOp .Or (a :: b :: rest) pos) (tDB X.K W (bOr ta tb)) :=
  ⟨fun whole pins s σ H Q I h => (pw_or ha hb).run whole pins s σ H Q I (t_or h)⟩
theorem ptd_not (ha : PT X a (tDB X.K W ta)) : PT X (.UnaryOp .Not a pos) (tDB X.K W (bNot ta)) := PT.imp (pt_not ha) fun _ _ _ h => t_not h
/-- truths as values -/
theorem pd_eB (h : PE X e (tD X.K W fa)) : PE X e (tD X.K W (eB (bV fa))) := PE.imp h fun _ _ _ q => t_eBV q
theorem pd_one {op} (h : PE X a (tD X.K W (eB ta))) : PE X (.BoolOp op [a] pos) (tD X.K W (eB ta)) := pe_one h
theorem pd_and (ha : PE X a (tD X.K W (eB ta))) (hb : PE X (.BoolOp .And (b :: rest) pos) (tD X.K W (eB tb))) : PE X (.BoolOp .And (a :: b :: rest) pos) (tD X.K W (eB (bAnd ta tb))) := PE.imp (pe_and ha hb) fun _ _ _ h => t_andV h
theorem pd_or (ha : PE X a (tD X.K W (eB ta))) (hb : PE X (.BoolOp .Or (b :: rest) pos) (tD X.K W (eB tb))) : PE X (.BoolOp .Or (a :: b :: rest) pos) (tD X.K W (eB (bOr ta tb))) := PE.imp (pe_or ha hb) fun _ _ _ h => t_orV h
theorem pd_not (ha : PE X a (tD X.K W (eB ta))) : PE X (.UnaryOp .Not a pos) (tD X.K W (eB (bNot ta))) := PE.imp (pe_not ha) fun _ _ _ h => t_notV h
theorem pd_if {c : Expr} (hc : PT X c (tDB X.K W tc)) (ha : PE X a (tD X.K W fa)) (hb : PE X b (tD X.K W fb)) : PE X (.IfExp c a b pos) (tD X.K W (eIf tc fa fb)) := PE.imp (pe_ifExp hc ha hb) fun _ _ _ h => t_if h
theorem pad_nil : PA X [] (tDs X.K W aNil) := PA.imp pa_nil fun _ _ _ h => t_nil h
theorem pad_cons (ha : PE X e (tD X.K W fa)) (hr : PA X es (tDs X.K W fl)) (hs : starEach (e :: es) X.env = (false, eval e X.env) :: starEach es X.env := by rfl) : PA X (e :: es) (tDs X.K W (aCons fa fl)) := PA.imp (pa_cons ha hr hs) fun _ _ _ h => t_cons h
/-- how many are written -/
def ArgN (n : Nat) (f : Env → Res (List D)) : Prop := ∀ env ds, f env = .ok ds → ds.length ≤ n
theorem arg_nil : ArgN 0 aNil := fun env ds h => by
  cases h
  exact Nat.le_refl _
theorem arg_cons {n : Nat} (h : ArgN n fl) : ArgN (n + 1) (aCons fa fl) := fun env ds e => by
  unfold aCons at e
  cases e1 : fa env with
  | no => rw [e1] at e; cases e
  | ex C => rw [e1] at e; cases e
  | ok a =>
    rw [e1] at e
    cases e2 : fl env with
    | no => rw [e2] at e; cases e
    | ex C => rw [e2] at e; cases e
    | ok r =>
      rw [e2] at e
      cases e
      rw [List.length_cons]
      exact Nat.succ_le_succ (h env r e2)
theorem pd_tup {n x1 : Nat} (h : PA X es (tDs X.K W fl)) (hn : ArgN n fl) (hz : n ≤ sizeLine := by decide) : PE X (.Tuple es x1 pos) (tD X.K W (eTup fl)) := PE.imp (pe_tup h) fun _ _ _ q => t_tup hn hz q
theorem pd_lst {n : Nat} (h : PA X es (tDs X.K W fl)) (hn : ArgN n fl) (hz : n ≤ sizeLine := by decide) : PE X (.List es pos) (tD X.K W (eLst fl)) := PE.imp (pe_lst h) fun _ _ _ q => t_lst hn hz q
theorem pd_ix {r : R2} {g : D → D → Option D} (hr : IxR X r) (hg : Good2 X.K r g) (ha : PE X a (tD X.K W fa)) (hb : PE X b (tD X.K W fb)) (hs : PlainIx b := by exact fun _ _ => rfl) : PE X (.Subscript a b pos) (tD X.K W (eOp g fa fb)) :=
  PE.imp (pe_ix hr ha hb hs) fun _ _ _ h => t_op hg h
theorem pd_fnB {x : Str} {id : String} {r : List V → Hp → VK → Prop} {g : List D → Option D} (hc : CallR X (.builtin id) r) (hgd : GoodN X.K r g) (hv : bootBuiltins x = some (.builtin id)) (hg : Gl X x) (hm : X.mg x = none) (ha : PA X (e :: es) (tDs X.K W fl)) (hn : x ≠ "__name__" := by decide) (hdb : (x == ("__debug__" : Str)) = false := by decide)
    (he : starEach (e :: es) X.env = (false, eval e X.env) :: starEach es X.env := by rfl) (hpl : (backTo pos (starEach es X.env)).any (·.1) = false := by rfl) : PE X (.Call (.Name x p) (e :: es) [] pos) (tD X.K W (eFn g fl)) :=
  PE.imp (pe_callB hc hg hm hv ha hn hdb he hpl) fun _ _ _ h => t_fn hgd h
theorem pd_fnT {x : Str} {T : String} {r : List V → Hp → VK → Prop} {g : List D → Option D} (hc : CallR X (.type T) r) (hgd : GoodN X.K r g) (hv : bootBuiltins x = some (.type T)) (hg : Gl X x) (hm : X.mg x = none) (ha : PA X (e :: es) (tDs X.K W fl)) (hn : x ≠ "__name__" := by decide) (hdb : (x == ("__debug__" : Str)) = false := by decide)
    (he : starEach (e :: es) X.env = (false, eval e X.env) :: starEach es X.env := by rfl) (hpl : (backTo pos (starEach es X.env)).any (·.1) = false := by rfl) : PE X (.Call (.Name x p) (e :: es) [] pos) (tD X.K W (eFn g fl)) :=
  PE.imp (pe_callTy hc hg hm hv ha hn hdb he hpl) fun _ _ _ h => t_fn hgd h
def isLst : D → Bool
  | .lst _ => true
  | _ => false
def isStr : D → Bool
  | .str _ => true
  | _ => false
theorem ty_lst {K : PySem.W.Frag} {H0 H : Hp} {x : V} {a : D} (s : Same H0 H) (r : Rep K H0 x a) (h : isLst a = true) : tyV K "list" x H := by
  cases a with
  | lst ds =>
    cases r with
    | lst q _ => exact .inl ⟨rfl, _, Same.seq s q⟩
  | _ => exact absurd (show false = true from h) Bool.false_ne_true
theorem pd_mtL {id : String} {name : Str} {r : V → List V → Hp → VK → Prop} {g : D → List D → Option D} {o : Expr} {apos : Pos} (slot : Slot "list" name id) (hty : typeOf (.builtin id) = pure (.type "method_descriptor")) (hm : MtR X id r) (hg : GoodM X.K r g)
    (ho : PE X o (tD X.K W fa)) (ha : PA X (e :: es) (tDs X.K W fl))
    (hbase : attributeBase o name X.env (eval o X.env) = eval o X.env := by rfl)
    (hfew : ((backTo pos (starEach (e :: es) X.env)).all (fun x => !x.1) && (backToKw pos (keywordEach [] X.env)).all (fun x => x.1.isSome)
      && decide ((e :: es).length + ([] : List Keyword).length + (if ([] : List Keyword).isEmpty then 0 else 1) < 30)) = true := by rfl)
    (hline : (apos.endLine == pos.line) = true := by rfl) (hs : starEach (e :: es) X.env = (false, eval e X.env) :: starEach es X.env := by rfl) (hplain : (backTo pos (starEach es X.env)).any (·.1) = false := by rfl) :
    PE X (.Call (.Attribute o name apos) (e :: es) [] pos) (tD X.K W (eMt isLst g fa fl)) :=
  PE.imp (pe_bm PySem.F.plainAttrs_list slot hty hm ho ha hbase hfew hline hs hplain) fun _ _ _ h => t_mt hg (fun _ _ _ _ s r e => ty_lst s r e) h
theorem po_n : PO X none (tDO X.K W oNone) := PO.imp po_none fun _ _ _ h => t_oNone h
theorem po_s (h : PE X e (tD X.K W fa)) : PO X (some e) (tDO X.K W (oSome fa)) := PO.imp (po_some h) fun _ _ _ q => t_oSome q
end
end Dt
namespace Dt
open PySem PySem.Spec PyProof.Rows L2
theorem sz_le {n : Nat} (h : n ≤ 1000000) : n ≤ sizeLine := Nat.le_trans h (by decide)
theorem sz_lt {n : Nat} (h : n < 1000000) : n < sizeLine := Nat.lt_of_lt_of_le h (by decide)
section
variable {K : PySem.W.Frag}
theorem Good2.or {r r' : R2} {g : D → D → Option D} (h : ∀ H0 H x y a b d (Q : VK), Same H0 H → Rep K H0 x a → Rep K H0 y b → g a b = some d → (∀ v H0' H', Grow H0 H H0' H' → Rep K H0' v d → Q v H') → r x y H Q ∨ r' x y H Q) : Good2 K (fun x y H Q => r x y H Q ∨ r' x y H Q) g := h
theorem OpR.or {X : Cx} {f : Value → Value → Sem Value} {r r' : R2} (h : OpR X f r) (h' : OpR X f r') : OpR X f (fun x y H Q => r x y H Q ∨ r' x y H Q) := by
  intro pins s σ H x y v u Q I rx ry q
  rcases q with q | q
  · exact h pins s σ H x y v u Q I rx ry q
  · exact h' pins s σ H x y v u Q I rx ry q
end
/-! ### ints -/
@[irreducible] def lim : Nat := 2 ^ 9000
def intOp (C : Int → Int → Bool) (f : Int → Int → Int) : D → D → Option D
  | .int i, .int j => if C i j = true then some (.int (f i j)) else none
  | _, _ => none
def intCmp (f : Int → Int → Bool) : D → D → Option D
  | .int i, .int j => some (.bl (f i j))
  | _, _ => none
theorem good_int {K : PySem.W.Frag} {C : Int → Int → Prop} {B : Int → Int → Bool} {f : Int → Int → Int} (h : ∀ i j, B i j = true → C i j) : Good2 K (L2.rI C fun i j => .int (f i j)) (intOp B f) := by
  intro H0 H x y a b d Q s rx ry e q
  cases a with
  | int i =>
    cases b with
    | int j =>
      cases rx
      cases ry
      have e : (if B i j = true then some (D.int (f i j)) else none) = some d := e
      by_cases c : B i j = true
      · rw [if_pos c] at e
        cases e
        exact ⟨i, j, rfl, rfl, h i j c, q _ _ _ (Grow.refl s) (.int _)⟩
      · rw [if_neg c] at e
        cases e
    | _ => cases e
  | _ => cases e
theorem good_int0 {K : PySem.W.Frag} {f : Int → Int → Int} : Good2 K (rI0 fun i j => .int (f i j)) (intOp (fun _ _ => true) f) := by
  intro H0 H x y a b d Q s rx ry e q
  cases a with
  | int i =>
    cases b with
    | int j =>
      cases rx
      cases ry
      cases e
      exact ⟨i, j, rfl, rfl, q _ _ _ (Grow.refl s) (.int _)⟩
    | _ => cases e
  | _ => cases e
theorem good_cmp {K : PySem.W.Frag} {f : Int → Int → Bool} : Good2 K (rI0 fun i j => .bl (f i j)) (intCmp f) := by
  intro H0 H x y a b d Q s rx ry e q
  cases a with
  | int i =>
    cases b with
    | int j =>
      cases rx
      cases ry
      cases e
      exact ⟨i, j, rfl, rfl, q _ _ _ (Grow.refl s) (.bl _)⟩
    | _ => cases e
  | _ => cases e
abbrev ltD := intCmp fun i j => decide (i < j)
abbrev leD := intCmp fun i j => decide (i ≤ j)
abbrev gtD := intCmp fun i j => decide (j < i)
abbrev geD := intCmp fun i j => decide (j ≤ i)
abbrev subD := intOp (fun _ _ => true) fun i j => i - j
abbrev divD := intOp (fun _ j => decide (0 < j) && decide (j.natAbs < lim)) fun i j => i / j
abbrev modD := intOp (fun _ j => decide (0 < j)) fun i j => i % j
abbrev powD := intOp (fun i j => decide (0 ≤ j) && decide (j ≤ 1000) && decide (i.natAbs < 2 ^ 60)) fun i j => i ^ j.toNat
def mulOk (i j : Int) : Bool := decide (i.natAbs < 2 ^ 60) || decide (j.natAbs < 2 ^ 60) || (decide (i.natAbs < lim) && decide (j.natAbs < lim))
def CMulX (i j : Int) : Prop := CMul i j ∨ CMulW i j
theorem op_mulX {X : Cx} : OpR X (binaryOp .Mult) (L2.rI CMulX fun i j => .int (i * j)) := opI fun _ _ _ _ _ _ _ hc q => mul_int q (by
  rcases hc with h | h
  · exact h.ok
  · exact h.ok)
theorem lim_lt {i : Int} (h : i.natAbs < lim) : i.natAbs < 2 ^ 9000 := by
  unfold lim at h
  exact h
theorem mulOk_ok {i j : Int} (h : mulOk i j = true) : CMulX i j := by
  unfold mulOk at h
  simp only [Bool.or_eq_true, Bool.and_eq_true, decide_eq_true_eq] at h
  rcases h with (h | h) | ⟨h1, h2⟩
  · exact .inl (.inl ⟨by omega, by omega⟩)
  · exact .inl (.inr ⟨by omega, by omega⟩)
  · exact .inr (wide_mul (lim_lt h1) (lim_lt h2) (by decide) (by decide) (by decide))
abbrev mulI := intOp mulOk fun i j => i * j
section
variable {X : Cx} {W : WX} {a b : Expr} {pos : Pos} {fa fb : Env → Res D}
theorem pd_sub (ha : PE X a (tD X.K W fa)) (hb : PE X b (tD X.K W fb)) : PE X (.BinOp a .Sub b pos) (tD X.K W (eOp subD fa fb)) := pd_op op_sub good_int0 ha hb
theorem pd_div (ha : PE X a (tD X.K W fa)) (hb : PE X b (tD X.K W fb)) : PE X (.BinOp a .FloorDiv b pos) (tD X.K W (eOp divD fa fb)) := pd_op op_fdivW (good_int fun i j h => by
  simp only [Bool.and_eq_true, decide_eq_true_eq] at h
  exact wide_div h.1 (lim_lt h.2) (by decide) (by decide)) ha hb
theorem pd_mod (ha : PE X a (tD X.K W fa)) (hb : PE X b (tD X.K W fb)) : PE X (.BinOp a .Mod b pos) (tD X.K W (eOp modD fa fb)) := pd_op op_mod (good_int fun i j h => of_decide_eq_true h) ha hb
theorem pd_pow (ha : PE X a (tD X.K W fa)) (hb : PE X b (tD X.K W fb)) : PE X (.BinOp a .Pow b pos) (tD X.K W (eOp powD fa fb)) := pd_op op_pow (good_int fun i j h => by
  simp only [Bool.and_eq_true, decide_eq_true_eq] at h
  exact ⟨h.1.1, by have := h.1.2; omega, by have := h.2; omega⟩) ha hb
theorem pd_lt (ha : PE X a (tD X.K W fa)) (hb : PE X b (tD X.K W fb)) : PE X (.Compare a [.Lt] [b] pos) (tD X.K W (eOp ltD fa fb)) := pd_cmp op_lt good_cmp ha hb
theorem pd_le (ha : PE X a (tD X.K W fa)) (hb : PE X b (tD X.K W fb)) : PE X (.Compare a [.LtE] [b] pos) (tD X.K W (eOp leD fa fb)) := pd_cmp op_le good_cmp ha hb
theorem pd_gt (ha : PE X a (tD X.K W fa)) (hb : PE X b (tD X.K W fb)) : PE X (.Compare a [.Gt] [b] pos) (tD X.K W (eOp gtD fa fb)) := pd_cmp op_gt good_cmp ha hb
theorem pd_ge (ha : PE X a (tD X.K W fa)) (hb : PE X b (tD X.K W fb)) : PE X (.Compare a [.GtE] [b] pos) (tD X.K W (eOp geD fa fb)) := pd_cmp op_ge good_cmp ha hb
theorem pt_lt (ha : PE X a (tD X.K W fa)) (hb : PE X b (tD X.K W fb)) : PT X (.Compare a [.Lt] [b] pos) (tDB X.K W (bV (eOp ltD fa fb))) := pt_cmp' op_lt good_cmp ha hb
theorem pt_le (ha : PE X a (tD X.K W fa)) (hb : PE X b (tD X.K W fb)) : PT X (.Compare a [.LtE] [b] pos) (tDB X.K W (bV (eOp leD fa fb))) := pt_cmp' op_le good_cmp ha hb
theorem pt_gt (ha : PE X a (tD X.K W fa)) (hb : PE X b (tD X.K W fb)) : PT X (.Compare a [.Gt] [b] pos) (tDB X.K W (bV (eOp gtD fa fb))) := pt_cmp' op_gt good_cmp ha hb
theorem pt_ge (ha : PE X a (tD X.K W fa)) (hb : PE X b (tD X.K W fb)) : PT X (.Compare a [.GtE] [b] pos) (tDB X.K W (bV (eOp geD fa fb))) := pt_cmp' op_ge good_cmp ha hb
theorem pd_chLL {c : Expr} {fc : Env → Res D} (ha : PE X a (tD X.K W fa)) (hb : PE X b (tD X.K W fb)) (hc : PE X c (tD X.K W fc)) (hm : lastMarks [.LtE, .Lt] [b, c] = false := by with_unfolding_all rfl) : PE X (.Compare a [.LtE, .Lt] [b, c] pos) (tD X.K W (eChain leD ltD fa fb fc)) := pd_chain op_le good_cmp op_lt good_cmp ha hb hc hm
theorem pt_chLL {c : Expr} {fc : Env → Res D} (ha : PE X a (tD X.K W fa)) (hb : PE X b (tD X.K W fb)) (hc : PE X c (tD X.K W fc)) (hm : lastMarks [.LtE, .Lt] [b, c] = false := by with_unfolding_all rfl) : PT X (.Compare a [.LtE, .Lt] [b, c] pos) (tDB X.K W (bV (eChain leD ltD fa fb fc))) := pt_chain' op_le good_cmp op_lt good_cmp ha hb hc hm
theorem pd_chEE {c : Expr} {fc : Env → Res D} (ha : PE X a (tD X.K W fa)) (hb : PE X b (tD X.K W fb)) (hc : PE X c (tD X.K W fc)) (hm : lastMarks [.LtE, .LtE] [b, c] = false := by with_unfolding_all rfl) : PE X (.Compare a [.LtE, .LtE] [b, c] pos) (tD X.K W (eChain leD leD fa fb fc)) := pd_chain op_le good_cmp op_le good_cmp ha hb hc hm
theorem pt_chEE {c : Expr} {fc : Env → Res D} (ha : PE X a (tD X.K W fa)) (hb : PE X b (tD X.K W fb)) (hc : PE X c (tD X.K W fc)) (hm : lastMarks [.LtE, .LtE] [b, c] = false := by with_unfolding_all rfl) : PT X (.Compare a [.LtE, .LtE] [b, c] pos) (tDB X.K W (bV (eChain leD leD fa fb fc))) := pt_chain' op_le good_cmp op_le good_cmp ha hb hc hm
theorem pt_chTT {c : Expr} {fc : Env → Res D} (ha : PE X a (tD X.K W fa)) (hb : PE X b (tD X.K W fb)) (hc : PE X c (tD X.K W fc)) (hm : lastMarks [.Lt, .Lt] [b, c] = false := by with_unfolding_all rfl) : PT X (.Compare a [.Lt, .Lt] [b, c] pos) (tDB X.K W (bV (eChain ltD ltD fa fb fc))) := pt_chain' op_lt good_cmp op_lt good_cmp ha hb hc hm
end
def negD : D → Option D
  | .int i => some (.int (-i))
  | _ => none
theorem pd_neg {X : Cx} {W : WX} {a : Expr} {pos : Pos} {fa : Env → Res D} (ha : PE X a (tD X.K W fa)) : PE X (.UnaryOp .USub a pos) (tD X.K W (eUn negD fa)) := pd_un un_neg (fun H0 H x a d Q s rx e q => by
  cases a with
  | int i =>
    cases rx
    cases e
    exact ⟨i, rfl, q _ _ _ (Grow.refl s) (.int _)⟩
  | _ => cases e) ha
/-! ### + of ints, lists, texts -/
def addD : D → D → Option D
  | .int i, .int j => some (.int (i + j))
  | .lst a, .lst b => if a.length + b.length ≤ 1000000 then some (.lst (a ++ b)) else none
  | .str a, .str b => if a.length + b.length ≤ 1000000 then some (.str (a ++ b)) else none
  | _, _ => none
/-- list + list, either may be locked -/
def rCatR (K : PySem.W.Frag) : R2 := fun x y H Q => ∃ l b xs zs, x = .ref l ∧ y = .ref b ∧ SqL K H l xs ∧ SqL K H b zs ∧ xs.length + zs.length ≤ sizeLine ∧ ∀ p, H p = none → Q (.ref p) (upd H p (.lst (xs ++ zs)))
theorem op_catR {X : Cx} : OpR X (binaryOp .Add) (rCatR X.K) := by
  intro pins s σ H x y v u Q I rx ry h
  obtain ⟨l, b, xs, zs, rfl, rfl, hH, hB, hz, q⟩ := h
  cases rx
  cases ry
  obtain ⟨its, r, ⟨⟨cls, dd, data, sl⟩, n, ho, hc, hdn, hd⟩, z⟩ := I.list hH
  obtain ⟨its2, r2, ⟨⟨cls2, dd2, data2, sl2⟩, n2, ho2, hc2, hdn2, hd2⟩, z2⟩ := I.list hB
  simp only at hc hd hc2 hd2
  subst hc hd hc2 hd2
  have hl := r.length
  have hl2 := r2.length
  have e : its.toArray ++ its2.toArray = (its ++ its2).toArray := by simp
  refine concat_meets ⟨_, ho, rfl⟩ ⟨_, ho2, rfl⟩ noFill_list_add seq_list_add PySem.F.slot_list_add PySem.F.entry_list_add (PySem.F.args_list_add_2 _ _) (list_addW l b its.toArray its2.toArray n n2 dd dd2 sl sl2 (by rw [List.size_toArray, List.size_toArray]; omega)) ⟨ho, ho2, ?_⟩
  rw [e]
  exact ⟨.ref _, _, I.lnew (t' := s.toks) (r.append r2) (by rw [List.length_append]; omega), rfl, q _ I.fresh⟩
def rAdd3 (K : PySem.W.Frag) : R2 := fun x y H Q => (rI0 (fun i j => .int (i + j)) x y H Q ∨ rCatR K x y H Q) ∨ (∃ i j, x = .str i ∧ y = .str j ∧ i.length + j.length ≤ sizeLine ∧ Q (.str (i ++ j)) H)
theorem op_add3 {X : Cx} : OpR X (binaryOp .Add) (rAdd3 X.K) := OpR.or (OpR.or op_add op_catR) op_add_str
theorem good_add {K : PySem.W.Frag} : Good2 K (rAdd3 K) addD := by
  intro H0 H x y a b d Q s rx ry e q
  cases a with
  | int i =>
    cases b with
    | int j =>
      cases rx
      cases ry
      cases e
      exact .inl (.inl ⟨i, j, rfl, rfl, q _ _ _ (Grow.refl s) (.int _)⟩)
    | _ => cases e
  | lst xs =>
    cases b with
    | lst ys =>
      cases rx with
      | lst h1 r1 =>
      cases ry with
      | lst h2 r2 =>
        have e : (if xs.length + ys.length ≤ 1000000 then some (D.lst (xs ++ ys)) else none) = some d := e
        by_cases c : xs.length + ys.length ≤ 1000000
        · rw [if_pos c] at e
          cases e
          refine .inl (.inr ⟨_, _, _, _, rfl, rfl, Same.seq s h1, Same.seq s h2, ?_, fun p hp => ?_⟩)
          · rw [r1.length, r2.length]
            exact sz_le c
          · exact q _ _ _ (Grow.new s hp) (.lst (SqL.of upd_same) ((r1.append r2).mono (Grow.new s hp).s0))
        · rw [if_neg c] at e
          cases e
    | _ => cases e
  | str xs =>
    cases b with
    | str ys =>
      cases rx
      cases ry
      have e : (if xs.length + ys.length ≤ 1000000 then some (D.str (xs ++ ys)) else none) = some d := e
      by_cases c : xs.length + ys.length ≤ 1000000
      · rw [if_pos c] at e
        cases e
        exact .inr ⟨xs, ys, rfl, rfl, sz_le c, q _ _ _ (Grow.refl s) (.str _)⟩
      · rw [if_neg c] at e
        cases e
    | _ => cases e
  | _ => cases b <;> cases e
theorem pd_add {X : Cx} {W : WX} {a b : Expr} {pos : Pos} {fa fb : Env → Res D} (ha : PE X a (tD X.K W fa)) (hb : PE X b (tD X.K W fb)) : PE X (.BinOp a .Add b pos) (tD X.K W (eOp addD fa fb)) := pd_op op_add3 good_add ha hb
/-! ### * of ints; of a text by an int -/
def mulD : D → D → Option D := mulI
theorem pd_mul {X : Cx} {W : WX} {a b : Expr} {pos : Pos} {fa fb : Env → Res D} (ha : PE X a (tD X.K W fa)) (hb : PE X b (tD X.K W fb)) : PE X (.BinOp a .Mult b pos) (tD X.K W (eOp mulD fa fb)) := pd_op op_mulX (good_int fun _ _ h => mulOk_ok h) ha hb
/-! ### ==, != -/
def scV : D → Option V
  | .non => some .non | .bl b => some (.bl b) | .int i => some (.int i) | .str s => some (.str s)
  | _ => none
mutual
def toPy : D → Option PyData
  | .non => some .none | .bl b => some (.bool b) | .int i => some (.int i) | .str s => some (.str s)
  | .lst xs => (toPys xs).map .list
  | .tup xs => (toPys xs).map .tuple
  | .ty _ => none | .ins _ _ => none | .cls _ => none | .dic => none
def toPys : List D → Option (List PyData)
  | [] => some []
  | x :: xs => match toPy x, toPys xs with
    | some a, some b => some (a :: b)
    | _, _ => none
end
def eqB (a b : D) : Option Bool := match scV a, scV b with
  | some x, some y => if scal x y = true then some (decide (x = y)) else none
  | _, _ => match toPy a, toPy b with
    | some x, some y => if (SeqAt.shaped x && SeqAt.shaped y) = true then some (PyData.eqv x y) else none
    | _, _ => none
def eqD (a b : D) : Option D := (eqB a b).map .bl
def neD (a b : D) : Option D := (eqB a b).map fun c => .bl (!c)
section
variable {K : PySem.W.Frag} {H : Hp}
mutual
theorem Rep.dp : ∀ {d : D} {v : V} {p : PyData}, Rep K H v d → toPy d = some p → Dp K H v p
  | .non, _, _, .non, e => by cases e; exact .non
  | .bl b, _, _, .bl _, e => by cases e; exact .bl b
  | .int b, _, _, .int _, e => by cases e; exact .int b
  | .str b, _, _, .str _, e => by cases e; exact .str b
  | .lst xs, _, _, .lst h r, e => by
    unfold toPy at e
    cases e1 : toPys xs with
    | none => rw [e1] at e; cases e
    | some ps => rw [e1] at e; cases e; exact .lst h (Reps.dp r e1)
  | .tup xs, _, _, .tup h r, e => by
    unfold toPy at e
    cases e1 : toPys xs with
    | none => rw [e1] at e; cases e
    | some ps => rw [e1] at e; cases e; exact .tup h (Reps.dp r e1)
  | .ty _, _, _, _, e => by cases e
  | .ins _ _, _, _, _, e => by cases e
  | .cls _, _, _, _, e => by cases e
  | .dic, _, _, _, e => by cases e
theorem Reps.dp : ∀ {ds : List D} {vs : List V} {ps : List PyData}, Reps K H vs ds → toPys ds = some ps → DpAll K H vs ps
  | [], _, _, .nil, e => by cases e; exact .nil
  | x :: xs, _, _, .cons r t, e => by
    unfold toPys at e
    cases e1 : toPy x with
    | none => rw [e1] at e; cases e
    | some a =>
      cases e2 : toPys xs with
      | none => rw [e1, e2] at e; cases e
      | some b => rw [e1, e2] at e; cases e; exact .cons (Rep.dp r e1) (Reps.dp t e2)
end
theorem Rep.sc {d : D} {v x : V} (r : Rep K H v d) (e : scV d = some x) : v = x := by
  cases d <;> cases e <;> cases r <;> rfl
mutual
theorem Dp.mono {H H' : Hp} (s : Same H H') : ∀ {v : V} {d : PyData}, Dp K H v d → Dp K H' v d
  | _, _, .non => .non
  | _, _, .bl b => .bl b
  | _, _, .int i => .int i
  | _, _, .str x => .str x
  | _, _, .lst h r => .lst (Same.seq s h) (DpAll.mono s r)
  | _, _, .tup h r => .tup (Same.seqT s h) (DpAll.mono s r)
theorem DpAll.mono {H H' : Hp} (s : Same H H') : ∀ {v : List V} {d : List PyData}, DpAll K H v d → DpAll K H' v d
  | _, _, .nil => .nil
  | _, _, .cons r t => .cons (Dp.mono s r) (DpAll.mono s t)
end
end
theorem good_eq {K : PySem.W.Frag} : Good2 K (fun x y H Q => rEq x y H Q ∨ rEqD K x y H Q) eqD := by
  intro H0 H x y a b d Q s rx ry e q
  unfold eqD eqB at e
  cases e1 : scV a with
  | some x1 =>
    cases e2 : scV b with
    | some y1 =>
      rw [e1, e2] at e
      rw [rx.sc e1, ry.sc e2]
      by_cases c : scal x1 y1 = true
      · simp only [if_pos c, Option.map] at e
        cases e
        exact .inl ⟨c, q _ _ _ (Grow.refl s) (.bl _)⟩
      · simp only [if_neg c, Option.map] at e
        cases e
    | none =>
      rw [e1, e2] at e
      cases e3 : toPy a with
      | none => simp only [e3, Option.map] at e; cases e
      | some p =>
        cases e4 : toPy b with
        | none => simp only [e3, e4, Option.map] at e; cases e
        | some p2 =>
          simp only [e3, e4, Option.map] at e
          by_cases c : (SeqAt.shaped p && SeqAt.shaped p2) = true
          · rw [if_pos c] at e
            cases e
            obtain ⟨c1, c2⟩ := Bool.and_eq_true_iff.mp c
            exact .inr ⟨p, p2, Dt.Dp.mono s (rx.dp e3), Dt.Dp.mono s (ry.dp e4), c1, c2, q _ _ _ (Grow.refl s) (.bl _)⟩
          · rw [if_neg c] at e
            cases e
  | none =>
    rw [e1] at e
    cases e3 : toPy a with
    | none => simp only [e3, Option.map] at e; cases e
    | some p =>
      cases e4 : toPy b with
      | none => simp only [e3, e4, Option.map] at e; cases e
      | some p2 =>
        simp only [e3, e4, Option.map] at e
        by_cases c : (SeqAt.shaped p && SeqAt.shaped p2) = true
        · rw [if_pos c] at e
          cases e
          obtain ⟨c1, c2⟩ := Bool.and_eq_true_iff.mp c
          exact .inr ⟨p, p2, Dt.Dp.mono s (rx.dp e3), Dt.Dp.mono s (ry.dp e4), c1, c2, q _ _ _ (Grow.refl s) (.bl _)⟩
        · rw [if_neg c] at e
          cases e
theorem good_ne {K : PySem.W.Frag} : Good2 K (fun x y H Q => rNe x y H Q ∨ rNeD K x y H Q) neD := by
  intro H0 H x y a b d Q s rx ry e q
  unfold neD eqB at e
  cases e1 : scV a with
  | some x1 =>
    cases e2 : scV b with
    | some y1 =>
      rw [e1, e2] at e
      rw [rx.sc e1, ry.sc e2]
      by_cases c : scal x1 y1 = true
      · simp only [if_pos c, Option.map] at e
        cases e
        exact .inl ⟨c, q _ _ _ (Grow.refl s) (.bl _)⟩
      · simp only [if_neg c, Option.map] at e
        cases e
    | none =>
      rw [e1, e2] at e
      cases e3 : toPy a with
      | none => simp only [e3, Option.map] at e; cases e
      | some p =>
        cases e4 : toPy b with
        | none => simp only [e3, e4, Option.map] at e; cases e
        | some p2 =>
          simp only [e3, e4, Option.map] at e
          by_cases c : (SeqAt.shaped p && SeqAt.shaped p2) = true
          · rw [if_pos c] at e
            cases e
            obtain ⟨c1, c2⟩ := Bool.and_eq_true_iff.mp c
            exact .inr ⟨p, p2, Dt.Dp.mono s (rx.dp e3), Dt.Dp.mono s (ry.dp e4), c1, c2, q _ _ _ (Grow.refl s) (.bl _)⟩
          · rw [if_neg c] at e
            cases e
  | none =>
    rw [e1] at e
    cases e3 : toPy a with
    | none => simp only [e3, Option.map] at e; cases e
    | some p =>
      cases e4 : toPy b with
      | none => simp only [e3, e4, Option.map] at e; cases e
      | some p2 =>
        simp only [e3, e4, Option.map] at e
        by_cases c : (SeqAt.shaped p && SeqAt.shaped p2) = true
        · rw [if_pos c] at e
          cases e
          obtain ⟨c1, c2⟩ := Bool.and_eq_true_iff.mp c
          exact .inr ⟨p, p2, Dt.Dp.mono s (rx.dp e3), Dt.Dp.mono s (ry.dp e4), c1, c2, q _ _ _ (Grow.refl s) (.bl _)⟩
        · rw [if_neg c] at e
          cases e
section
variable {X : Cx} {W : WX} {a b : Expr} {pos : Pos} {fa fb : Env → Res D}
theorem pd_eq (hu : X.A.units + 64 < cLine) (ha : PE X a (tD X.K W fa)) (hb : PE X b (tD X.K W fb)) : PE X (.Compare a [.Eq] [b] pos) (tD X.K W (eOp eqD fa fb)) := pd_cmp (OpR.or op_eq (op_eqD hu)) good_eq ha hb
theorem pd_ne (hu : X.A.units + 64 < cLine) (ha : PE X a (tD X.K W fa)) (hb : PE X b (tD X.K W fb)) : PE X (.Compare a [.NotEq] [b] pos) (tD X.K W (eOp neD fa fb)) := pd_cmp (OpR.or op_ne (op_neD hu)) good_ne ha hb
theorem pt_eq (hu : X.A.units + 64 < cLine) (ha : PE X a (tD X.K W fa)) (hb : PE X b (tD X.K W fb)) : PT X (.Compare a [.Eq] [b] pos) (tDB X.K W (bV (eOp eqD fa fb))) := pt_cmp' (OpR.or op_eq (op_eqD hu)) good_eq ha hb
theorem pt_ne (hu : X.A.units + 64 < cLine) (ha : PE X a (tD X.K W fa)) (hb : PE X b (tD X.K W fb)) : PT X (.Compare a [.NotEq] [b] pos) (tDB X.K W (bV (eOp neD fa fb))) := pt_cmp' (OpR.or op_ne (op_neD hu)) good_ne ha hb
end
/-! ### is, is not: None, True, False on the right -/
def isB : D → D → Option Bool
  | .bl a, .bl b => some (decide (a = b))
  | .non, .non => some true
  | .bl _, .non => some false
  | .int _, .non => some false
  | .str _, .non => some false
  | .lst _, .non => some false
  | .tup _, .non => some false
  | .ins _ _, .non => some false
  | _, _ => none
def isD (a b : D) : Option D := (isB a b).map .bl
def isnD (a b : D) : Option D := (isB a b).map fun c => .bl (!c)
theorem good_is {K : PySem.W.Frag} : Good2 K (fun x y H Q => (y = .non ∧ Q (.bl (decide (x = .non))) H) ∨ rIsB x y H Q) isD := by
  intro H0 H x y a b d Q s rx ry e q
  cases b with
  | non =>
    cases ry
    cases a <;> cases e <;> cases rx <;> exact .inl ⟨rfl, q _ _ _ (Grow.refl s) (.bl _)⟩
  | bl c =>
    cases ry
    cases a with
    | bl z =>
      cases rx
      cases e
      exact .inr ⟨_, _, rfl, rfl, q _ _ _ (Grow.refl s) (.bl _)⟩
    | _ => cases e
  | _ => cases a <;> cases e
theorem good_isn {K : PySem.W.Frag} : Good2 K (fun x y H Q => (y = .non ∧ Q (.bl (!decide (x = .non))) H) ∨ rNotB x y H Q) isnD := by
  intro H0 H x y a b d Q s rx ry e q
  cases b with
  | non =>
    cases ry
    cases a <;> cases e <;> cases rx <;> exact .inl ⟨rfl, q _ _ _ (Grow.refl s) (.bl _)⟩
  | bl c =>
    cases ry
    cases a with
    | bl z =>
      cases rx
      cases e
      exact .inr ⟨_, _, rfl, rfl, q _ _ _ (Grow.refl s) (.bl _)⟩
    | _ => cases e
  | _ => cases a <;> cases e
section
variable {X : Cx} {W : WX} {a b : Expr} {pos : Pos} {fa fb : Env → Res D}
theorem pd_is (ha : PE X a (tD X.K W fa)) (hb : PE X b (tD X.K W fb)) : PE X (.Compare a [.Is] [b] pos) (tD X.K W (eOp isD fa fb)) := pd_cmp (OpR.or op_isN op_isBl) good_is ha hb
theorem pd_isn (ha : PE X a (tD X.K W fa)) (hb : PE X b (tD X.K W fb)) : PE X (.Compare a [.IsNot] [b] pos) (tD X.K W (eOp isnD fa fb)) := pd_cmp (OpR.or op_notN op_notBl) good_isn ha hb
theorem pt_is (ha : PE X a (tD X.K W fa)) (hb : PE X b (tD X.K W fb)) : PT X (.Compare a [.Is] [b] pos) (tDB X.K W (bV (eOp isD fa fb))) := pt_cmp' (OpR.or op_isN op_isBl) good_is ha hb
theorem pt_isn (ha : PE X a (tD X.K W fa)) (hb : PE X b (tD X.K W fb)) : PT X (.Compare a [.IsNot] [b] pos) (tDB X.K W (bV (eOp isnD fa fb))) := pt_cmp' (OpR.or op_notN op_notBl) good_isn ha hb
end
end Dt
namespace Dt
open PySem PySem.Spec PyProof.Rows L2
/-! ### subscripts -/
def ixD : D → D → Option D
  | .lst xs, .int i => atI xs i
  | .tup xs, .int i => atI xs i
  | .str z, .int i => if z.length ≤ 1000000 then (atI z.cps.toList i).map fun c => .str ⟨#[c]⟩ else none
  | _, _ => none
theorem Reps.atI {K : PySem.W.Frag} {H : Hp} {vs : List V} {ds : List D} {i : Int} {d : D} (r : Reps K H vs ds) (h : L2.atI ds i = some d) : ∃ v, L2.atI vs i = some v ∧ Rep K H v d := by
  unfold L2.atI at h ⊢
  rw [r.length]
  cases e : ixN ds.length i with
  | none => rw [e] at h; cases h
  | some j =>
    rw [e] at h
    exact r.get (i := j) h
theorem good_ix {K : PySem.W.Frag} : Good2 K (rIx K) ixD := by
  intro H0 H x y a b d Q s rx ry e q
  cases b with
  | int i =>
    cases ry
    cases a with
    | lst xs =>
      cases rx with
      | lst h r =>
      obtain ⟨v, h1, h2⟩ := r.atI (i := i) (d := d) e
      exact .inl ⟨_, _, i, v, rfl, rfl, Same.seq s h, h1, q _ _ _ (Grow.refl s) h2⟩
    | tup xs =>
      cases rx with
      | tup h r =>
      obtain ⟨v, h1, h2⟩ := r.atI (i := i) (d := d) e
      exact .inr (.inl ⟨_, _, i, v, rfl, rfl, Same.seqT s h, h1, q _ _ _ (Grow.refl s) h2⟩)
    | str z =>
      cases rx
      have e : (if z.length ≤ 1000000 then (L2.atI z.cps.toList i).map fun c => D.str ⟨#[c]⟩ else none) = some d := e
      by_cases c : z.length ≤ 1000000
      · rw [if_pos c] at e
        cases e1 : L2.atI z.cps.toList i with
        | none => rw [e1] at e; cases e
        | some k =>
          rw [e1] at e
          cases e
          exact .inr (.inr ⟨z, i, k, rfl, rfl, sz_le c, e1, q _ _ _ (Grow.refl s) (.str _)⟩)
      · rw [if_neg c] at e
        cases e
    | _ => cases e
  | _ => cases a <;> cases e
theorem pd_sub' {X : Cx} {W : WX} {a b : Expr} {pos : Pos} {fa fb : Env → Res D} (ha : PE X a (tD X.K W fa)) (hb : PE X b (tD X.K W fb)) (hs : PlainIx b := by exact fun _ _ => rfl) : PE X (.Subscript a b pos) (tD X.K W (eOp ixD fa fb)) := pd_ix ix_seq good_ix ha hb hs
/-! ### slices -/
def cutG {α : Type} (xs : List α) (lo hi : Option Int) : List α := (xs.drop (HT.sIx xs.length 0 lo)).take (HT.sIx xs.length xs.length hi - HT.sIx xs.length 0 lo)
def slD (lo hi : Option Int) : D → Option D
  | .lst xs => some (.lst (cutG xs lo hi))
  | .str z => if z.length ≤ 1000000 then some (.str (cutS z lo hi)) else none
  | _ => none
def eSl (fa : Env → Res D) (fl fh : Env → Res (Option Int)) : Env → Res D := fun env => (fa env).bind fun a => (fl env).bind fun l => (fh env).bind fun h => ofO (slD l h a)
def pickG {α : Type} (xs : List α) (lo hi : Option Int) (st : Int) : List α := (sliceRange (sliceBounds lo hi (some st) xs.length).1 (sliceBounds lo hi (some st) xs.length).2.1 (sliceBounds lo hi (some st) xs.length).2.2).filterMap (xs[·]?)
def slStD (lo hi st : Option Int) : D → Option D
  | .lst xs => match st with
    | some k => if k ≠ 0 ∧ xs.length ≤ 1000000 then some (.lst (pickG xs lo hi k)) else none
    | none => none
  | _ => none
def eSlSt (fa : Env → Res D) (fl fh fs : Env → Res (Option Int)) : Env → Res D := fun env => (fa env).bind fun a => (fl env).bind fun l => (fh env).bind fun h => (fs env).bind fun st => ofO (slStD l h st a)
theorem Reps.cutG {K : PySem.W.Frag} {H : Hp} {vs : List V} {ds : List D} (r : Reps K H vs ds) (lo hi : Option Int) : Reps K H (Dt.cutG vs lo hi) (Dt.cutG ds lo hi) := by
  unfold Dt.cutG
  rw [r.length]
  exact (r.drop _).take _
theorem Reps.pick {K : PySem.W.Frag} {H : Hp} {vs : List V} {ds : List D} (r : Reps K H vs ds) : ∀ is : List Nat, Reps K H (is.filterMap (vs[·]?)) (is.filterMap (ds[·]?))
  | [] => .nil
  | i :: is => by
    rw [List.filterMap_cons, List.filterMap_cons]
    cases e : ds[i]? with
    | none =>
      have e2 : vs[i]? = none := by
        rw [List.getElem?_eq_none_iff] at e ⊢
        rw [r.length]
        exact e
      rw [e2]
      exact Reps.pick r is
    | some d =>
      obtain ⟨v, h1, h2⟩ := r.get e
      rw [h1]
      exact .cons h2 (Reps.pick r is)
theorem Vals.pick {vs : List V} {us : List Value} (r : Vals vs us) : ∀ is : List Nat, Vals (is.filterMap (vs[·]?)) (is.filterMap (us[·]?))
  | [] => .nil
  | i :: is => by
    rw [List.filterMap_cons, List.filterMap_cons]
    cases e : vs[i]? with
    | none =>
      rw [Vals.none_of r e]
      exact Vals.pick r is
    | some d =>
      obtain ⟨v, h1, h2⟩ := r.get e
      rw [h1]
      exact .cons h2 (Vals.pick r is)
theorem Reps.pickG {K : PySem.W.Frag} {H : Hp} {vs : List V} {ds : List D} (r : Reps K H vs ds) (lo hi : Option Int) (st : Int) : Reps K H (Dt.pickG vs lo hi st) (Dt.pickG ds lo hi st) := by
  unfold Dt.pickG
  rw [r.length]
  exact r.pick _
section
variable {K : PySem.W.Frag} {W : WX} {σ : L2.St} {H : Hp} {fa : Env → Res D} {fl fh fs : Env → Res (Option Int)}
def rSl2 (K : PySem.W.Frag) : V → Option Int → Option Int → Hp → VK → Prop := fun x lo hi H Q => rSlL K x lo hi H Q ∨ rSlS x lo hi H Q
theorem t_sl {Q : VK} (h : tD K W (eSl fa fl fh) σ H Q) : tSl (rSl2 K) (tD K W fa) (tDO K W fl) (tDO K W fh) σ H Q := by
  obtain ⟨H0, env, er, k⟩ := h
  refine ⟨H0, env, er, Kt.seq er k fun x a A B gr er' rx k' => ⟨A, env, er', Kt.seq er' k' fun l l' A' B' gr' er'' rl k'' => ⟨A', env, er'', Kt.seq er'' k'' fun u u' A3 B3 g3 er3 ru k3 => ?_⟩⟩⟩
  cases (show l = l' from rl)
  cases (show u = u' from ru)
  obtain ⟨d, e, q⟩ := kt_ofO er3.sub k3
  have rx3 := (rx.mono gr'.s0).mono g3.s0
  cases a with
  | lst xs =>
    cases rx3 with
    | lst h r =>
    cases e
    refine .inl ⟨_, _, rfl, Same.seq er3.sub h, fun p hp => ?_⟩
    exact q _ _ _ (Grow.new er3.sub hp) (.lst (SqL.of upd_same) ((r.cutG l u).mono (Grow.new (o := .lst _) er3.sub hp).s0))
  | str z =>
    cases rx3
    have e : (if z.length ≤ 1000000 then some (D.str (cutS z l u)) else none) = some d := e
    by_cases c : z.length ≤ 1000000
    · rw [if_pos c] at e
      cases e
      exact .inr ⟨z, rfl, sz_le c, q _ _ _ (Grow.refl er3.sub) (.str _)⟩
    · rw [if_neg c] at e
      cases e
  | _ => cases e
/-- xs[lo:hi:st] -/
def tSlSt (K : PySem.W.Frag) (te : TE) (tl th ts : TO) : TE := fun σ H Q => te σ H fun x H1 => tl σ H1 fun l H2 => th σ H2 fun u H3 => ts σ H3 fun st H4 => ∃ a xs k, x = .ref a ∧ SqL K H4 a xs ∧ st = some k ∧ k ≠ 0 ∧ ∀ p, H4 p = none → Q (.ref p) (upd H4 p (.lst (pickG xs l u k)))
theorem t_slSt {Q : VK} (h : tD K W (eSlSt fa fl fh fs) σ H Q) : tSlSt K (tD K W fa) (tDO K W fl) (tDO K W fh) (tDO K W fs) σ H Q := by
  obtain ⟨H0, env, er, k⟩ := h
  refine ⟨H0, env, er, Kt.seq er k fun x a A B gr er' rx k' => ⟨A, env, er', Kt.seq er' k' fun l l' A' B' gr' er'' rl k'' => ⟨A', env, er'', Kt.seq er'' k'' fun u u' A3 B3 g3 er3 ru k3 => ⟨A3, env, er3, Kt.seq er3 k3 fun w w' A4 B4 g4 er4 rw4 k4 => ?_⟩⟩⟩⟩
  cases (show l = l' from rl)
  cases (show u = u' from ru)
  cases (show w = w' from rw4)
  obtain ⟨d, e, q⟩ := kt_ofO er4.sub k4
  have rx3 := ((rx.mono gr'.s0).mono g3.s0).mono g4.s0
  cases a with
  | lst xs =>
    cases rx3 with
    | lst h r =>
    cases w with
    | none => cases e
    | some n =>
      have e : (if n ≠ 0 ∧ xs.length ≤ 1000000 then some (D.lst (pickG xs l u n)) else none) = some d := e
      by_cases c : n ≠ 0 ∧ xs.length ≤ 1000000
      · rw [if_pos c] at e
        cases e
        refine ⟨_, _, n, rfl, Same.seq er4.sub h, rfl, c.1, fun p hp => ?_⟩
        exact q _ _ _ (Grow.new er4.sub hp) (.lst (SqL.of upd_same) ((r.pickG l u n).mono (Grow.new (o := .lst _) er4.sub hp).s0))
      · rw [if_neg c] at e
        cases e
  | _ => cases e
end
theorem filterMap_len {α β : Type} (f : α → Option β) : ∀ l : List α, (l.filterMap f).length ≤ l.length
  | [] => Nat.le_refl _
  | x :: l => by
    rw [List.filterMap_cons]
    cases f x with
    | none => exact Nat.le_succ_of_le (filterMap_len f l)
    | some y => exact Nat.succ_le_succ (filterMap_len f l)
theorem pickG_len {α : Type} (xs : List α) (lo hi : Option Int) (k : Int) (h : k ≠ 0) : (pickG xs lo hi k).length ≤ xs.length := by
  refine Nat.le_trans (filterMap_len _ _) ?_
  refine sliceRange_length_le _ _ _ _ (fun c => ?_) (fun c => ?_)
  · unfold sliceBounds at *
    simp only [Option.getD_some] at *
    have c' : k > 0 := c
    cases lo <;> cases hi <;> simp only [c', if_true] <;> constructor <;> (try split) <;> omega
  · unfold sliceBounds at *
    simp only [Option.getD_some] at *
    have c' : ¬ k > 0 := c
    cases lo <;> cases hi <;> simp only [c', if_false] <;> constructor <;> (try split) <;> omega
section
variable {X : Cx} {W : WX} {e : Expr} {lo hi : Option Expr} {st : Expr} {fa : Env → Res D} {fl fh fs : Env → Res (Option Int)} {pos p2 : Pos}
theorem pd_sl (he : PE X e (tD X.K W fa)) (hl : PO X lo (tDO X.K W fl)) (hu : PO X hi (tDO X.K W fh)) : PE X (.Subscript e (.Slice lo hi none p2) pos) (tD X.K W (eSl fa fl fh)) :=
  PE.imp (pe_slice (SlR.or sl_list sl_str) he hl hu) fun _ _ _ h => t_sl h
theorem pe_slSt {te : TE} {tl th ts : TO} (he : PE X e te) (hl : PO X lo tl) (hu : PO X hi th) (hs : PO X (some st) ts)
    (hsub : ∀ o i, subscripted (.Slice lo hi (some st) p2) false o i = operate [o, i] (getItem o i) := by intro _ _; with_unfolding_all rfl) : PE X (.Subscript e (.Slice lo hi (some st) p2) pos) (tSlSt X.K te tl th ts) := by
  refine ⟨fun pins s σ H Q I h => ?_⟩
  refine Subscript_ (thn (he.run pins s σ H _ I h) fun v s1 ⟨x, H1, I1, r1, q1⟩ => ?_)
  refine wpAny_Slice (thn (hl.run pins s1 σ H1 _ I1 q1) fun vl s2 ⟨l, H2, I2, pl, q2⟩ => thn (hu.run pins s2 σ H2 _ I2 q2) fun vu s3 ⟨u, H3, I3, pu, q3⟩ => thn (hs.run pins s3 σ H3 _ I3 q3) fun vs s4 ⟨w, H4, I4, ps, q4⟩ => ?_)
  obtain ⟨a, xs, k, ex, hx, ew, hk, q⟩ := q4
  subst ex ew
  cases r1
  have I5 : Inv X pins σ H4 { s4 with heap := s4.heap.push { cls := .type "slice", data := .fields #[vl, vu, vs] } } := I4.kept (t' := s4.toks) fun b ob q => Heap.get?_push_of_some _ q
  obtain ⟨its, r, ht, hz⟩ := I5.list hx
  have hlen := r.length
  show wpAny (model X.prog X.w) X.A (subscriptTail e (.Slice lo hi (some st) p2) (.ref a) (.ref s4.heap.objs.size)) (EP X pins σ Q) X.xe { s4 with heap := s4.heap.push { cls := .type "slice", data := .fields #[vl, vu, vs] } }
  refine tail_any (ops := [.ref a, .ref s4.heap.objs.size]) ht.isList.typeIs (PySem.slot_list_getitem.lookup) ?_ (hsub _ _)
  refine wpAny_getItem_list_slice ht.isList (Heap.IsSliceOf.new _ vl vu vs) pl pu ps (fun z => hk (Option.some.inj z)) ?_ (by rw [List.size_toArray]; omega)
  have ep : slicePick its.toArray l u (some k) = (pickG its l u k).toArray := by
    unfold slicePick pickG
    simp only [List.size_toArray, List.getElem?_toArray]
  rw [ep]
  have rp : Vals (pickG xs l u k) (pickG its l u k) := by
    unfold pickG
    rw [← hlen]
    exact Dt.Vals.pick r _
  refine ⟨.ref _, _, I5.laid (t' := s4.toks) (o := .lst (pickG xs l u k)) (fun b ob q => Heap.get?_push_of_some _ q) (Nat.le_refl _) ?_, rfl, q _ (I5.hok.fresh (Nat.le_refl _))⟩
  exact ⟨Nat.le_trans (pickG_len xs l u k hk) hz, _, 0, rp, Heap.get?_push_size _ rfl⟩
theorem pd_slSt (he : PE X e (tD X.K W fa)) (hl : PO X lo (tDO X.K W fl)) (hu : PO X hi (tDO X.K W fh)) (hs : PO X (some st) (tDO X.K W fs))
    (hsub : ∀ o i, subscripted (.Slice lo hi (some st) p2) false o i = operate [o, i] (getItem o i) := by intro _ _; with_unfolding_all rfl) : PE X (.Subscript e (.Slice lo hi (some st) p2) pos) (tD X.K W (eSlSt fa fl fh fs)) :=
  PE.imp (pe_slSt he hl hu hs hsub) fun _ _ _ h => t_slSt h
end
/-! ### built-ins -/
def toInts : List D → Option (List Int)
  | [] => some []
  | .int i :: r => (toInts r).map (i :: ·)
  | _ :: _ => none
theorem toInts_eq : ∀ {ds : List D} {ns : List Int}, toInts ds = some ns → ds = ns.map D.int
  | [], ns, e => by cases e; rfl
  | d :: r, ns, e => by
    cases d with
    | int i =>
      have e : (toInts r).map (i :: ·) = some ns := e
      cases e1 : toInts r with
      | none => rw [e1] at e; cases e
      | some ms =>
        rw [e1] at e
        cases e
        rw [toInts_eq e1]
        rfl
    | _ => cases e
@[simp] theorem toInts_map : ∀ ns : List Int, toInts (ns.map D.int) = some ns
  | [] => rfl
  | n :: ns => by
    show (toInts (ns.map D.int)).map (n :: ·) = _
    rw [toInts_map ns]
    rfl
def toBls : List D → Option (List Bool)
  | [] => some []
  | .bl i :: r => (toBls r).map (i :: ·)
  | _ :: _ => none
theorem toBls_eq : ∀ {ds : List D} {ns : List Bool}, toBls ds = some ns → ds = ns.map D.bl
  | [], ns, e => by cases e; rfl
  | d :: r, ns, e => by
    cases d with
    | bl i =>
      have e : (toBls r).map (i :: ·) = some ns := e
      cases e1 : toBls r with
      | none => rw [e1] at e; cases e
      | some ms =>
        rw [e1] at e
        cases e
        rw [toBls_eq e1]
        rfl
    | _ => cases e
@[simp] theorem toBls_map : ∀ ns : List Bool, toBls (ns.map D.bl) = some ns
  | [] => rfl
  | n :: ns => by
    show (toBls (ns.map D.bl)).map (n :: ·) = _
    rw [toBls_map ns]
    rfl
def lenD : List D → Option D
  | [.lst xs] => some (.int xs.length)
  | [.tup xs] => some (.int xs.length)
  | [.str z] => if z.length ≤ 1000000 then some (.int z.length) else none
  | _ => none
def allD : List D → Option D
  | [.lst xs] => (toBls xs).map fun bs => .bl (bs.all id)
  | _ => none
def anyD : List D → Option D
  | [.lst xs] => (toBls xs).map fun bs => .bl (bs.any id)
  | _ => none
def sumD : List D → Option D
  | [.lst xs] => (toInts xs).map fun ns => .int ns.sum
  | _ => none
def minL : List Int → Int
  | [] => 0
  | x :: xs => xs.foldl min x
def maxL : List Int → Int
  | [] => 0
  | x :: xs => xs.foldl max x
def minD : List D → Option D
  | [.lst xs] => match toInts xs with
    | some (n :: ns) => some (.int (minL (n :: ns)))
    | _ => none
  | [.int i, .int j] => some (.int (min i j))
  | _ => none
def maxD : List D → Option D
  | [.lst xs] => match toInts xs with
    | some (n :: ns) => some (.int (maxL (n :: ns)))
    | _ => none
  | [.int i, .int j] => some (.int (max i j))
  | _ => none
def listD : List D → Option D
  | [.lst xs] => some (.lst xs)
  | [.tup xs] => some (.lst xs)
  | _ => none
theorem foldl_min (xs : List Int) : ∀ x : Int, (xs.foldl min x ≤ x ∧ ∀ y ∈ xs, xs.foldl min x ≤ y) ∧ (xs.foldl min x = x ∨ xs.foldl min x ∈ xs) := by
  induction xs with
  | nil => exact fun x => ⟨⟨Int.le_refl _, fun y hy => nomatch hy⟩, .inl rfl⟩
  | cons z zs ih =>
    intro x
    obtain ⟨⟨h1, h2⟩, h3⟩ := ih (min x z)
    refine ⟨⟨?_, fun y hy => ?_⟩, ?_⟩
    · show zs.foldl min (min x z) ≤ x
      omega
    · show zs.foldl min (min x z) ≤ y
      rcases List.mem_cons.mp hy with e | hy
      · subst e; omega
      · exact h2 y hy
    · show zs.foldl min (min x z) = x ∨ zs.foldl min (min x z) ∈ z :: zs
      rcases h3 with e | e
      · by_cases c : x ≤ z
        · left; omega
        · right; rw [List.mem_cons]; left; omega
      · exact .inr (List.mem_cons_of_mem _ e)
theorem foldl_max (xs : List Int) : ∀ x : Int, (x ≤ xs.foldl max x ∧ ∀ y ∈ xs, y ≤ xs.foldl max x) ∧ (xs.foldl max x = x ∨ xs.foldl max x ∈ xs) := by
  induction xs with
  | nil => exact fun x => ⟨⟨Int.le_refl _, fun y hy => nomatch hy⟩, .inl rfl⟩
  | cons z zs ih =>
    intro x
    obtain ⟨⟨h1, h2⟩, h3⟩ := ih (max x z)
    refine ⟨⟨?_, fun y hy => ?_⟩, ?_⟩
    · show x ≤ zs.foldl max (max x z)
      omega
    · show y ≤ zs.foldl max (max x z)
      rcases List.mem_cons.mp hy with e | hy
      · subst e; omega
      · exact h2 y hy
    · show zs.foldl max (max x z) = x ∨ zs.foldl max (max x z) ∈ z :: zs
      rcases h3 with e | e
      · by_cases c : z ≤ x
        · left; omega
        · right; rw [List.mem_cons]; left; omega
      · exact .inr (List.mem_cons_of_mem _ e)
theorem minL_spec {n : Int} {ns : List Int} : (minL (n :: ns) ∈ n :: ns) ∧ ∀ y ∈ n :: ns, minL (n :: ns) ≤ y := by
  obtain ⟨⟨h1, h2⟩, h3⟩ := foldl_min ns n
  refine ⟨?_, fun y hy => ?_⟩
  · rcases h3 with e | e
    · rw [List.mem_cons]; exact .inl e
    · exact List.mem_cons_of_mem _ e
  · rcases List.mem_cons.mp hy with e | hy
    · subst e; exact h1
    · exact h2 y hy
theorem maxL_spec {n : Int} {ns : List Int} : (maxL (n :: ns) ∈ n :: ns) ∧ ∀ y ∈ n :: ns, y ≤ maxL (n :: ns) := by
  obtain ⟨⟨h1, h2⟩, h3⟩ := foldl_max ns n
  refine ⟨?_, fun y hy => ?_⟩
  · rcases h3 with e | e
    · rw [List.mem_cons]; exact .inl e
    · exact List.mem_cons_of_mem _ e
  · rcases List.mem_cons.mp hy with e | hy
    · subst e; exact h1
    · exact h2 y hy
theorem reps1 {K : PySem.W.Frag} {H : Hp} {vs : List V} {d : D} (r : Reps K H vs [d]) : ∃ v, vs = [v] ∧ Rep K H v d := by
  cases r with
  | cons r t =>
    cases t
    exact ⟨_, rfl, r⟩
theorem reps2 {K : PySem.W.Frag} {H : Hp} {vs : List V} {d e : D} (r : Reps K H vs [d, e]) : ∃ v w, vs = [v, w] ∧ Rep K H v d ∧ Rep K H w e := by
  cases r with
  | cons r t =>
    obtain ⟨w, rfl, h⟩ := reps1 t
    exact ⟨_, w, rfl, r, h⟩
theorem good_len {K : PySem.W.Frag} : GoodN K (fun xs H Q => ∃ x n, xs = [x] ∧ LenV K x H n ∧ Q (.int n) H) lenD := by
  intro H0 H xs as d Q s r e q
  match as, e with
  | [.lst ys], e =>
    obtain ⟨v, rfl, rv⟩ := reps1 r
    cases rv with
    | lst h rr =>
    cases e
    refine ⟨_, ys.length, rfl, .inl ⟨_, Same.seq s h, rr.length.symm⟩, q _ _ _ (Grow.refl s) (.int _)⟩
  | [.tup ys], e =>
    obtain ⟨v, rfl, rv⟩ := reps1 r
    cases rv with
    | tup h rr =>
    cases e
    refine ⟨_, ys.length, rfl, .inr ⟨_, Same.seqT s h, rr.length.symm⟩, q _ _ _ (Grow.refl s) (.int _)⟩
  | [.str z], e =>
    obtain ⟨v, rfl, rv⟩ := reps1 r
    cases rv
    have e : (if z.length ≤ 1000000 then some (D.int z.length) else none) = some d := e
    by_cases c : z.length ≤ 1000000
    · rw [if_pos c] at e
      cases e
      exact ⟨_, z.length, rfl, ⟨sz_le c, rfl⟩, q _ _ _ (Grow.refl s) (.int _)⟩
    · rw [if_neg c] at e
      cases e
theorem good_all {K : PySem.W.Frag} : GoodN K (rAll K) allD := by
  intro H0 H xs as d Q s r e q
  match as, e with
  | [.lst ys], e =>
    obtain ⟨v, rfl, rv⟩ := reps1 r
    cases rv with
    | lst h rr =>
    have e : (toBls ys).map (fun bs => D.bl (bs.all id)) = some d := e
    cases e1 : toBls ys with
    | none => rw [e1] at e; cases e
    | some bs =>
      rw [e1] at e
      cases e
      rw [toBls_eq e1] at rr
      rw [rr.bls] at h
      exact ⟨_, bs, rfl, Same.seq s h, q _ _ _ (Grow.refl s) (.bl _)⟩
theorem good_any {K : PySem.W.Frag} : GoodN K (rAny K) anyD := by
  intro H0 H xs as d Q s r e q
  match as, e with
  | [.lst ys], e =>
    obtain ⟨v, rfl, rv⟩ := reps1 r
    cases rv with
    | lst h rr =>
    have e : (toBls ys).map (fun bs => D.bl (bs.any id)) = some d := e
    cases e1 : toBls ys with
    | none => rw [e1] at e; cases e
    | some bs =>
      rw [e1] at e
      cases e
      rw [toBls_eq e1] at rr
      rw [rr.bls] at h
      exact ⟨_, bs, rfl, Same.seq s h, q _ _ _ (Grow.refl s) (.bl _)⟩
theorem good_sum {K : PySem.W.Frag} : GoodN K (rSum K) sumD := by
  intro H0 H xs as d Q s r e q
  match as, e with
  | [.lst ys], e =>
    obtain ⟨v, rfl, rv⟩ := reps1 r
    cases rv with
    | lst h rr =>
    have e : (toInts ys).map (fun bs => D.int bs.sum) = some d := e
    cases e1 : toInts ys with
    | none => rw [e1] at e; cases e
    | some bs =>
      rw [e1] at e
      cases e
      rw [toInts_eq e1] at rr
      rw [rr.ints] at h
      exact ⟨_, bs, rfl, Same.seq s h, q _ _ _ (Grow.refl s) (.int _)⟩
theorem good_min {K : PySem.W.Frag} : GoodN K (fun xs H Q => rMin K xs H Q ∨ ∃ i j, xs = [.int i, .int j] ∧ Q (.int (if j < i then j else i)) H) minD := by
  intro H0 H xs as d Q s r e q
  match as, e with
  | [.lst ys], e =>
    obtain ⟨v, rfl, rv⟩ := reps1 r
    cases rv with
    | lst h rr =>
    cases e1 : toInts ys with
    | none => simp only [minD, e1] at e; cases e
    | some bs =>
      cases bs with
      | nil => simp only [minD, e1] at e; cases e
      | cons n ns =>
        simp only [minD, e1] at e
        cases e
        rw [toInts_eq e1] at rr
        rw [rr.ints] at h
        refine .inl ⟨_, n :: ns, rfl, Same.seq s h, Nat.succ_pos _, fun m h1 h2 => ?_⟩
        have sp := minL_spec (n := n) (ns := ns)
        have em : m = minL (n :: ns) := Int.le_antisymm (h2 _ sp.1) (sp.2 m h1)
        rw [em]
        exact q _ _ _ (Grow.refl s) (.int _)
  | [.int i, .int j], e =>
    obtain ⟨v, w, rfl, rv, rw'⟩ := reps2 r
    cases rv
    cases rw'
    cases e
    refine .inr ⟨i, j, rfl, ?_⟩
    have em : (if j < i then j else i) = min i j := by
      by_cases c : j < i
      · rw [if_pos c]; omega
      · rw [if_neg c]; omega
    rw [em]
    exact q _ _ _ (Grow.refl s) (.int _)
theorem good_max {K : PySem.W.Frag} : GoodN K (fun xs H Q => rMax K xs H Q ∨ ∃ i j, xs = [.int i, .int j] ∧ Q (.int (if j > i then j else i)) H) maxD := by
  intro H0 H xs as d Q s r e q
  match as, e with
  | [.lst ys], e =>
    obtain ⟨v, rfl, rv⟩ := reps1 r
    cases rv with
    | lst h rr =>
    cases e1 : toInts ys with
    | none => simp only [maxD, e1] at e; cases e
    | some bs =>
      cases bs with
      | nil => simp only [maxD, e1] at e; cases e
      | cons n ns =>
        simp only [maxD, e1] at e
        cases e
        rw [toInts_eq e1] at rr
        rw [rr.ints] at h
        refine .inl ⟨_, n :: ns, rfl, Same.seq s h, Nat.succ_pos _, fun m h1 h2 => ?_⟩
        have sp := maxL_spec (n := n) (ns := ns)
        have em : m = maxL (n :: ns) := Int.le_antisymm (sp.2 m h1) (h2 _ sp.1)
        rw [em]
        exact q _ _ _ (Grow.refl s) (.int _)
  | [.int i, .int j], e =>
    obtain ⟨v, w, rfl, rv, rw'⟩ := reps2 r
    cases rv
    cases rw'
    cases e
    refine .inr ⟨i, j, rfl, ?_⟩
    have em : (if j > i then j else i) = max i j := by
      by_cases c : j > i
      · rw [if_pos c]; omega
      · rw [if_neg c]; omega
    rw [em]
    exact q _ _ _ (Grow.refl s) (.int _)
theorem good_list {K : PySem.W.Frag} : GoodN K (fun xs H Q => ∃ p ys, xs = [.ref p] ∧ (SqL K H p ys ∨ SqT K H p ys) ∧ ∀ l, H l = none → Q (.ref l) (upd H l (.lst ys))) listD := by
  intro H0 H xs as d Q s r e q
  match as, e with
  | [.lst ys], e =>
    obtain ⟨v, rfl, rv⟩ := reps1 r
    cases rv with
    | lst h rr =>
    cases e
    exact ⟨_, _, rfl, .inl (Same.seq s h), fun l hl => q _ _ _ (Grow.new s hl) (.lst (SqL.of upd_same) (rr.mono (Grow.new (o := .lst _) s hl).s0))⟩
  | [.tup ys], e =>
    obtain ⟨v, rfl, rv⟩ := reps1 r
    cases rv with
    | tup h rr =>
    cases e
    exact ⟨_, _, rfl, .inr (Same.seqT s h), fun l hl => q _ _ _ (Grow.new s hl) (.lst (SqL.of upd_same) (rr.mono (Grow.new (o := .lst _) s hl).s0))⟩
section
variable {X : Cx} {W : WX} {e : Expr} {es : List Expr} {pos p : Pos} {fl : Env → Res (List D)}
theorem pd_len (hg : Gl X "len") (hm : X.mg "len" = none) (ha : PA X (e :: es) (tDs X.K W fl)) (he : starEach (e :: es) X.env = (false, eval e X.env) :: starEach es X.env := by rfl) (hpl : (backTo pos (starEach es X.env)).any (·.1) = false := by rfl) :
    PE X (.Call (.Name "len" p) (e :: es) [] pos) (tD X.K W (eFn lenD fl)) := pd_fnB call_len good_len PySem.boot_len hg hm ha (by decide) (by decide) he hpl
theorem pd_all (hc : X.calm = true) (hg : Gl X "all") (hm : X.mg "all" = none) (ha : PA X (e :: es) (tDs X.K W fl)) (he : starEach (e :: es) X.env = (false, eval e X.env) :: starEach es X.env := by rfl) (hpl : (backTo pos (starEach es X.env)).any (·.1) = false := by rfl) :
    PE X (.Call (.Name "all" p) (e :: es) [] pos) (tD X.K W (eFn allD fl)) := pd_fnB (cr_all hc) good_all (by decide +kernel) hg hm ha (by decide) (by decide) he hpl
theorem pd_any (hc : X.calm = true) (hg : Gl X "any") (hm : X.mg "any" = none) (ha : PA X (e :: es) (tDs X.K W fl)) (he : starEach (e :: es) X.env = (false, eval e X.env) :: starEach es X.env := by rfl) (hpl : (backTo pos (starEach es X.env)).any (·.1) = false := by rfl) :
    PE X (.Call (.Name "any" p) (e :: es) [] pos) (tD X.K W (eFn anyD fl)) := pd_fnB (cr_any hc) good_any (by decide +kernel) hg hm ha (by decide) (by decide) he hpl
theorem pd_sum (hc : X.calm = true) (hg : Gl X "sum") (hm : X.mg "sum" = none) (ha : PA X (e :: es) (tDs X.K W fl)) (he : starEach (e :: es) X.env = (false, eval e X.env) :: starEach es X.env := by rfl) (hpl : (backTo pos (starEach es X.env)).any (·.1) = false := by rfl) :
    PE X (.Call (.Name "sum" p) (e :: es) [] pos) (tD X.K W (eFn sumD fl)) := pd_fnB (cr_sum hc) good_sum (by decide +kernel) hg hm ha (by decide) (by decide) he hpl
theorem pd_min (hc : X.calm = true) (hg : Gl X "min") (hm : X.mg "min" = none) (ha : PA X (e :: es) (tDs X.K W fl)) (he : starEach (e :: es) X.env = (false, eval e X.env) :: starEach es X.env := by rfl) (hpl : (backTo pos (starEach es X.env)).any (·.1) = false := by rfl) :
    PE X (.Call (.Name "min" p) (e :: es) [] pos) (tD X.K W (eFn minD fl)) := pd_fnB (CallR.or (cr_min hc) (call_min2 hc)) good_min (by decide +kernel) hg hm ha (by decide) (by decide) he hpl
theorem pd_max (hc : X.calm = true) (hg : Gl X "max") (hm : X.mg "max" = none) (ha : PA X (e :: es) (tDs X.K W fl)) (he : starEach (e :: es) X.env = (false, eval e X.env) :: starEach es X.env := by rfl) (hpl : (backTo pos (starEach es X.env)).any (·.1) = false := by rfl) :
    PE X (.Call (.Name "max" p) (e :: es) [] pos) (tD X.K W (eFn maxD fl)) := pd_fnB (CallR.or (cr_max hc) (call_max2 hc)) good_max (by decide +kernel) hg hm ha (by decide) (by decide) he hpl
theorem pd_list (hg : Gl X "list") (hm : X.mg "list" = none) (ha : PA X (e :: es) (tDs X.K W fl)) (he : starEach (e :: es) X.env = (false, eval e X.env) :: starEach es X.env := by rfl) (hpl : (backTo pos (starEach es X.env)).any (·.1) = false := by rfl) :
    PE X (.Call (.Name "list" p) (e :: es) [] pos) (tD X.K W (eFn listD fl)) := pd_fnT call_list_of good_list (by decide +kernel) hg hm ha (by decide) (by decide) he hpl
end
end Dt
namespace Dt
open PySem PySem.Spec PyProof.Rows L2
/-! ### isinstance -/
/-- what isinstance asks of an own class -/
structure CI (K : PySem.W.Frag) (C : Addr) : Prop where
  cl : Cls K C
  ha : PySem.W.findIn K (.ref C) "__class__" = some (some (.builtin "object.__class__"))
  hn : PySem.W.specialIn K (.builtin "object.__class__") "__get__" = some (some (.builtin "getset_descriptor.__get__"))
  htk : PySem.W.takesIn K (.builtin "object.__class__") = some true
  hm : PySem.W.mroIn K C (.type "object") = some true
def tyD (Cs : List Addr) : D → Option Value
  | .non => some (.type "NoneType") | .bl _ => some (.type "bool") | .int _ => some (.type "int") | .str _ => some (.type "str")
  | .lst _ => some (.type "list") | .tup _ => some (.type "tuple") | .dic => some (.type "dict")
  | .ins C _ => if C ∈ Cs then some (.ref C) else none
  | _ => none
def clsD : D → Option Value
  | .ty n => some (.type n) | .cls a => some (.ref a)
  | _ => none
def isiD (K : PySem.W.Frag) (Cs : List Addr) : List D → Option D
  | [x, c] => match tyD Cs x, clsD c with
    | some t, some u => (PySem.W.kitOne K t u).map .bl
    | _, _ => none
  | _ => none
theorem tyD_ok {K : PySem.W.Frag} {Cs : List Addr} (hC : ∀ C ∈ Cs, CI K C) {H0 H : Hp} {x : V} {d : D} {t : Value} (s : Same H0 H) (r : Rep K H0 x d) (e : tyD Cs d = some t) : TyX K H x t := by
  cases d with
  | non => cases r; cases e; exact .base .non
  | bl b => cases r; cases e; exact .base (.bl b)
  | int b => cases r; cases e; exact .base (.int b)
  | str b => cases r; cases e; exact .base (.str b)
  | lst xs =>
    cases e
    cases r with
    | lst h _ =>
    rcases Same.seq s h with (h | ⟨o, h⟩) | ⟨o, its, n, h1, h2, _⟩
    · exact .base (.lst h)
    · exact .base (.frz h)
    · exact .kList h1 h2
  | tup xs =>
    cases e
    cases r with
    | tup h _ =>
    rcases Same.seqT s h with (h | ⟨o, h⟩) | ⟨o, its, n, h1, h2, _⟩
    · exact .base (.tup h)
    · exact .fTuple h
    · exact .kTuple h1 h2
  | dic =>
    cases e
    cases r with
    | dic h => exact .base (.dK (s _ _ h))
  | ins C fs =>
    have e : (if C ∈ Cs then some (Value.ref C) else none) = some t := e
    by_cases c : C ∈ Cs
    · rw [if_pos c] at e
      cases e
      cases r with
      | ins h _ =>
      have q := hC C c
      exact .base (.ins (s _ _ h) q.cl q.ha q.hn q.htk q.hm)
    · rw [if_neg c] at e
      cases e
  | _ => cases e
theorem clsD_ok {K : PySem.W.Frag} {H0 : Hp} {x : V} {d : D} {u : Value} (r : Rep K H0 x d) (e : clsD d = some u) : ClsV x u := by
  cases d with
  | ty n => cases r; cases e; exact .ty n
  | cls a => cases r; cases e; exact .own a
  | _ => cases e
theorem good_isi {K : PySem.W.Frag} {Cs : List Addr} (hC : ∀ C ∈ Cs, CI K C) : GoodN K (rIsi K) (isiD K Cs) := by
  intro H0 H xs as d Q s r e q
  match as, e with
  | [x, c], e =>
    obtain ⟨v, w, rfl, rv, rw'⟩ := reps2 r
    cases e1 : tyD Cs x with
    | none => simp only [isiD, e1] at e; cases e
    | some t =>
      cases e2 : clsD c with
      | none => simp only [isiD, e1, e2] at e; cases e
      | some u =>
        simp only [isiD, e1, e2] at e
        cases e3 : PySem.W.kitOne K t u with
        | none => rw [e3] at e; cases e
        | some b =>
          rw [e3] at e
          cases e
          exact ⟨v, w, t, u, b, rfl, clsD_ok rw' e2, tyD_ok hC s rv e1, e3, q _ _ _ (Grow.refl s) (.bl _)⟩
theorem pd_isi {X : Cx} {W : WX} {e : Expr} {es : List Expr} {pos p : Pos} {fl : Env → Res (List D)} {Cs : List Addr} (hC : ∀ C ∈ Cs, CI X.K C) (hg : Gl X "isinstance") (hm : X.mg "isinstance" = none) (ha : PA X (e :: es) (tDs X.K W fl)) (he : starEach (e :: es) X.env = (false, eval e X.env) :: starEach es X.env := by rfl) (hpl : (backTo pos (starEach es X.env)).any (·.1) = false := by rfl) :
    PE X (.Call (.Name "isinstance" p) (e :: es) [] pos) (tD X.K W (eFn (isiD X.K Cs) fl)) := pd_fnB call_isi (good_isi hC) (by decide +kernel) hg hm ha (by decide) (by decide) he hpl
/-! ### xs.index(y), ints -/
def indexD : D → List D → Option D
  | .lst xs, [.int i] => match toInts xs with
    | some ns => if i ∈ ns then some (.int (ns.idxOf i)) else none
    | none => none
  | _, _ => none
theorem idxOf_le : ∀ {ns : List Int} {m : Nat} {n : Int}, ns[m]? = some n → ns.idxOf n ≤ m
  | [], m, n, h => by simp at h
  | x :: xs, 0, n, h => by
    simp at h
    subst h
    simp [List.idxOf_cons]
  | x :: xs, m + 1, n, h => by
    have ih := idxOf_le (ns := xs) (m := m) (n := n) (by simpa using h)
    rw [List.idxOf_cons]
    cases (x == n)
    · show xs.idxOf n + 1 ≤ m + 1
      omega
    · exact Nat.zero_le _
theorem good_index {K : PySem.W.Frag} : GoodM K (rIndex K) indexD := by
  intro H0 H x xs a as d Q s rx r e q
  match a, as, e with
  | .lst ys, [.int i], e =>
    obtain ⟨v, rfl, rv⟩ := reps1 r
    cases rv
    cases rx with
    | lst h rr =>
    cases e1 : toInts ys with
    | none => simp only [indexD, e1] at e; cases e
    | some ns =>
      simp only [indexD, e1] at e
      by_cases c : i ∈ ns
      · rw [if_pos c] at e
        cases e
        rw [toInts_eq e1] at rr
        rw [rr.ints] at h
        have hl : ns.idxOf i < ns.length := List.idxOf_lt_length_of_mem c
        refine ⟨_, _, .int i, ns.idxOf i, .int i, rfl, rfl, Same.seq s h, rfl, ?_, ?_, by simp [eqV], fun m z hm hz => ?_, q _ _ _ (Grow.refl s) (.int _)⟩
        · rw [List.all_eq_true]
          intro z hz
          obtain ⟨n, _, rfl⟩ := List.mem_map.mp hz
          rfl
        · rw [List.getElem?_map, List.getElem?_eq_getElem hl]
          simp [List.getElem_idxOf]
        · rw [List.getElem?_map] at hz
          cases en : ns[m]? with
          | none => rw [en] at hz; cases hz
          | some n =>
            rw [en] at hz
            cases hz
            have ne : n ≠ i := fun z => by
              subst z
              have hm2 : m < ns.length := Nat.lt_trans hm hl
              have := idxOf_le en
              omega
            simp [eqV, ne]
      · rw [if_neg c] at e
        cases e
theorem pd_index {X : Cx} {W : WX} {e o : Expr} {es : List Expr} {pos apos : Pos} {fa : Env → Res D} {fl : Env → Res (List D)} (ho : PE X o (tD X.K W fa)) (ha : PA X (e :: es) (tDs X.K W fl))
    (hbase : attributeBase o "index" X.env (eval o X.env) = eval o X.env := by rfl)
    (hfew : ((backTo pos (starEach (e :: es) X.env)).all (fun x => !x.1) && (backToKw pos (keywordEach [] X.env)).all (fun x => x.1.isSome)
      && decide ((e :: es).length + ([] : List Keyword).length + (if ([] : List Keyword).isEmpty then 0 else 1) < 30)) = true := by rfl)
    (hline : (apos.endLine == pos.line) = true := by rfl) (hs : starEach (e :: es) X.env = (false, eval e X.env) :: starEach es X.env := by rfl) (hplain : (backTo pos (starEach es X.env)).any (·.1) = false := by rfl) :
    PE X (.Call (.Attribute o "index" apos) (e :: es) [] pos) (tD X.K W (eMt isLst indexD fa fl)) := pd_mtL PySem.F.slot_list_index PySem.F.type_list_index mt_index good_index ho ha hbase hfew hline hs hplain
end Dt
namespace Dt
open PySem PySem.Spec PyProof.Rows L2
/-! ## targets -/
def OwnB (B : Addr → Prop) (σ : L2.St) (env : Env) : Prop := ∀ (i : Nat) (ds : List D) (p : Addr), env[i]? = some (.ow ds) → σ[i]? = some (some (.ref p)) → B p
theorem OwnB.set {B : Addr → Prop} {σ : L2.St} {env : Env} {i : Nat} {v : Option V} {d : D} (o : OwnB B σ env) : OwnB B (σ.set i v) (env.set i (.sh d)) := fun j ds p e1 e2 => by
  rcases set_some e1 with ⟨rfl, z⟩ | ⟨hj, z⟩
  · cases z
  · rw [List.getElem?_set_ne hj] at e2
    exact o j ds p z e2
theorem wipe_get (σ : L2.St) (j : Nat) : ∀ vs : List Nat, (L2.wipe σ vs)[j]? = if j ∈ vs then (σ[j]?).map (fun _ => none) else σ[j]?
  | [] => by simp [L2.wipe]
  | w :: vs => by
    have ih := wipe_get σ j vs
    show ((L2.wipe σ vs).set w none)[j]? = _
    by_cases e : w = j
    · subst e
      rw [if_pos List.mem_cons_self]
      by_cases hl : w < σ.length
      · rw [List.getElem?_set_self (by rw [L2.wipe_length]; exact hl), List.getElem?_eq_getElem hl]
        rfl
      · rw [List.getElem?_eq_none (by rw [List.length_set, L2.wipe_length]; omega), List.getElem?_eq_none (by omega)]
        rfl
    · rw [List.getElem?_set_ne e, ih]
      by_cases c : j ∈ vs
      · rw [if_pos c, if_pos (List.mem_cons_of_mem _ c)]
      · rw [if_neg c, if_neg (fun z => by
          rcases List.mem_cons.mp z with z | z
          · exact e z.symm
          · exact c z)]
theorem wipe_set {σ : L2.St} {i : Nat} {v : Option V} {vs : List Nat} (h : i ∈ vs) : L2.wipe (σ.set i v) vs = L2.wipe σ vs := by
  apply List.ext_getElem?
  intro j
  rw [wipe_get, wipe_get]
  by_cases c : j ∈ vs
  · rw [if_pos c, if_pos c]
    by_cases e : i = j
    · subst e
      by_cases hl : i < σ.length
      · rw [List.getElem?_set_self hl, List.getElem?_eq_getElem hl]
        rfl
      · rw [List.getElem?_eq_none (by rw [List.length_set]; omega), List.getElem?_eq_none (by omega)]
    · rw [List.getElem?_set_ne e]
  · rw [if_neg c, if_neg c]
    have e : i ≠ j := fun z => c (z ▸ h)
    rw [List.getElem?_set_ne e]
theorem wipe_wipe {σ : L2.St} {vs : List Nat} : L2.wipe (L2.wipe σ vs) vs = L2.wipe σ vs := by
  apply List.ext_getElem?
  intro j
  rw [wipe_get, wipe_get]
  by_cases c : j ∈ vs
  · rw [if_pos c, if_pos c]
    cases σ[j]? <;> rfl
  · rw [if_neg c, if_neg c]
/-- what a target leaves: the slots ts alone are changed -/
structure Tgt (ts : List Nat) (σ σ' : L2.St) (env env' : Env) : Prop where
  wp : ∀ vs : List Nat, (∀ i ∈ ts, i ∈ vs) → L2.wipe σ' vs = L2.wipe σ vs
  ow : ∀ B, OwnB B σ env → OwnB B σ' env'
theorem Tgt.refl {σ : L2.St} {env : Env} : Tgt [] σ σ env env := ⟨fun _ _ => rfl, fun _ h => h⟩
theorem Tgt.trans {t u : List Nat} {σ σ1 σ2 : L2.St} {e e1 e2 : Env} (a : Tgt t σ σ1 e e1) (b : Tgt u σ1 σ2 e1 e2) : Tgt (t ++ u) σ σ2 e e2 :=
  ⟨fun vs h => (b.wp vs fun i hi => h i (List.mem_append_right _ hi)).trans (a.wp vs fun i hi => h i (List.mem_append_left _ hi)), fun B o => b.ow B (a.ow B o)⟩
abbrev Bt := D → Env → Res Env
abbrev Bts := List D → Env → Res Env
def bNm (i : Nat) : Bt := fun d env => .ok (env.set i (.sh d))
def bsNil : Bts := fun ds env => match ds with
  | [] => .ok env
  | _ => .no
def bsCons (b : Bt) (r : Bts) : Bts := fun ds env => match ds with
  | d :: ds => (b d env).bind fun e => r ds e
  | [] => .no
def bTup (r : Bts) : Bt := fun d env => match d with
  | .tup ds => r ds env
  | _ => .no
def tG (K : PySem.W.Frag) (ts : List Nat) (b : Bt) : TG := fun v σ H Q => ∃ A env d, ER K σ A H env ∧ Rep K A v d ∧ ∃ env', b d env = .ok env' ∧ ∀ σ', ER K σ' A H env' → Tgt ts σ σ' env env' → Q σ' H
def tGs (K : PySem.W.Frag) (ts : List Nat) (b : Bts) : TGs := fun vs σ H Q => ∃ A env ds, ER K σ A H env ∧ Reps K A vs ds ∧ ∃ env', b ds env = .ok env' ∧ ∀ σ', ER K σ' A H env' → Tgt ts σ σ' env env' → Q σ' H
theorem PG.imp {X : Cx} {e : Expr} {t t' : TG} (h : PG X e t) (i : ∀ v σ H Q, t' v σ H Q → t v σ H Q) : PG X e t' := ⟨fun pins s σ H v u Q I r w => h.run pins s σ H v u Q I r (i v σ H Q w)⟩
theorem PGs.imp {X : Cx} {e : List Expr} {t t' : TGs} (h : PGs X e t) (i : ∀ v σ H Q, t' v σ H Q → t v σ H Q) : PGs X e t' := ⟨fun pins s σ H v u Q I r w => h.run pins s σ H v u Q I r (i v σ H Q w)⟩
section
variable {X : Cx} {pos : Pos} {e : Expr} {es : List Expr} {b : Bt} {r : Bts} {ts us : List Nat}
theorem gd_name {i : Nat} {x : Str} (hN : X.N.Nodup) (hi : X.N[i]? = some x := by rfl) (hx : Loc X.env.scope x := by first | exact Or.inl rfl | exact Or.inr rfl) (hf : X.fn x = true ∨ X.env.scope.names.lookup x = some .local := by first | exact .inl rfl | exact .inr rfl | assumption) : PG X (.Name x pos) (tG X.K [i] (bNm i)) :=
  PG.imp (pg_name hN hi hx hf) fun v σ H Q h => by
    obtain ⟨A, env, d, er, rv, env', e1, k⟩ := h
    cases e1
    exact k _ (er.set rv) ⟨fun vs hv => wipe_set (hv i List.mem_cons_self), fun B o => o.set⟩
theorem gds_nil : PGs X [] (tGs X.K [] bsNil) := PGs.imp pgs_nil fun v σ H Q h => by
  obtain ⟨A, env, ds, er, rv, env', e1, k⟩ := h
  cases ds with
  | nil =>
    cases rv
    cases e1
    exact ⟨rfl, k _ er Tgt.refl⟩
  | cons d ds => cases e1
theorem gds_cons (h1 : PG X e (tG X.K ts b)) (h2 : PGs X es (tGs X.K us r)) (ha : (assignEach (e :: es) X.env).map (·.2) = assign e X.env :: (assignEach es X.env).map (·.2) := by rfl) : PGs X (e :: es) (tGs X.K (ts ++ us) (bsCons b r)) := PGs.imp (pgs_cons h1 h2 ha) fun v σ H Q h => by
  obtain ⟨A, env, ds, er, rv, env', e1, k⟩ := h
  cases ds with
  | nil => cases e1
  | cons d ds =>
    cases rv with
    | cons rv rt =>
    have e1 : (b d env).bind (fun e => r ds e) = .ok env' := e1
    refine ⟨_, _, rfl, A, env, d, er, rv, ?_⟩
    cases e2 : b d env with
    | no => rw [e2] at e1; cases e1
    | ex C => rw [e2] at e1; cases e1
    | ok env1 =>
      rw [e2] at e1
      exact ⟨env1, rfl, fun σ1 er1 t1 => ⟨A, env1, ds, er1, rt, env', e1, fun σ2 er2 t2 => k σ2 er2 (t1.trans t2)⟩⟩
/-- how many -/
def BtN (n : Nat) (r : Bts) : Prop := ∀ ds env env', r ds env = .ok env' → ds.length = n
theorem btn_nil : BtN 0 bsNil := fun ds env env' h => by
  cases ds with
  | nil => rfl
  | cons d ds => cases h
theorem btn_cons {n : Nat} (h : BtN n r) : BtN (n + 1) (bsCons b r) := fun ds env env' e => by
  cases ds with
  | nil => cases e
  | cons d ds =>
    have e1 : (b d env).bind (fun e => r ds e) = .ok env' := e
    cases e2 : b d env with
    | no => rw [e2] at e1; cases e1
    | ex C => rw [e2] at e1; cases e1
    | ok env1 =>
      rw [e2] at e1
      rw [List.length_cons, h ds env1 env' e1]
theorem gd_tup {k n : Nat} (hc : X.calm = true) (h : PGs X es (tGs X.K ts r)) (hr : BtN n r) (hn : (assignEach es X.env).length = n := by rfl) (hst : (assignEach es X.env).findIdx? (·.1) = none := by rfl) : PG X (.Tuple es k pos) (tG X.K ts (bTup r)) :=
  PG.imp (pg_tup hc h hn hst) fun v σ H Q h => by
    obtain ⟨A, env, d, er, rv, env', e1, k⟩ := h
    cases d with
    | tup ds =>
      cases rv with
      | tup q rr =>
      exact ⟨_, _, rfl, Same.seqT er.sub q, by rw [rr.length]; exact hr _ _ _ e1, A, env, ds, er, rr, env', e1, k⟩
    | _ => cases e1
end
/-! ## what is walked -/
structure Yl (K : PySem.W.Frag) (H0 : Hp) (J : It) (ds : List D) : Prop where
  go : ∀ i A B, Same H0 A → Same A B → i < ds.length → J.go i B
  stop : ∀ A B, Same H0 A → Same A B → J.stop ds.length B
  yld : ∀ i A B x B', Same H0 A → Same A B → i < ds.length → J.yld i B x B' → ∃ d A', ds[i]? = some d ∧ Grow A B A' B' ∧ Rep K A' x d
theorem Yl.mono {K : PySem.W.Frag} {H0 H1 : Hp} {J : It} {ds : List D} (h : Yl K H0 J ds) (s : Same H0 H1) : Yl K H1 J ds :=
  ⟨fun i A B a b => h.go i A B (s.trans a) b, fun A B a b => h.stop A B (s.trans a) b, fun i A B x B' a b => h.yld i A B x B' (s.trans a) b⟩
abbrev tI (K : PySem.W.Frag) (W : WX) (f : Env → Res (List D)) : TI := tR K (fun A (J : It) ds => Yl K A J ds) W f
theorem PI.imp {X : Cx} {tg e : Expr} {t t' : TI} (h : PI X tg e t) (i : ∀ σ H Q, t' σ H Q → t σ H Q) : PI X tg e t' := ⟨fun pins s σ H Q I w => h.run pins s σ H Q I (i σ H Q w)⟩
def toL : D → Res (List D)
  | .lst xs => .ok xs
  | _ => .no
def toT : D → Res (List D)
  | .tup xs => .ok xs
  | _ => .no
def iL (fa : Env → Res D) : Env → Res (List D) := fun env => (fa env).bind toL
def iT (fa : Env → Res D) : Env → Res (List D) := fun env => (fa env).bind toT
def enumFrom : Nat → List D → List D
  | _, [] => []
  | n, d :: ds => .tup [.int (n : Nat), d] :: enumFrom (n + 1) ds
def iE (fl : Env → Res (List D)) : Env → Res (List D) := fun env => (fl env).bind fun as => match as with
  | [.lst xs] => .ok (enumFrom 0 xs)
  | _ => .no
def zipD : List D → List D → List D
  | x :: xs, y :: ys => .tup [x, y] :: zipD xs ys
  | _, _ => []
def iZ (fl : Env → Res (List D)) : Env → Res (List D) := fun env => (fl env).bind fun as => match as with
  | [.lst xs, .lst ys] => .ok (zipD xs ys)
  | _ => .no
def rangeD (lo n : Int) : List D := (List.range (n - lo).toNat).map fun (i : Nat) => .int (lo + i)
def iR1 (fl : Env → Res (List D)) : Env → Res (List D) := fun env => (fl env).bind fun as => match as with
  | [.int n] => if n ≤ 1000000 ∧ -1000000 ≤ n then .ok (rangeD 0 n) else .no
  | _ => .no
def iR2 (fl : Env → Res (List D)) : Env → Res (List D) := fun env => (fl env).bind fun as => match as with
  | [.int lo, .int n] => if (-1000000 ≤ lo ∧ lo ≤ 1000000) ∧ n ≤ 1000000 ∧ -1000000 ≤ n then .ok (rangeD lo n) else .no
  | _ => .no
theorem enumFrom_len : ∀ (n : Nat) (ds : List D), (enumFrom n ds).length = ds.length
  | _, [] => rfl
  | n, d :: ds => by
    show (enumFrom (n + 1) ds).length + 1 = ds.length + 1
    rw [enumFrom_len]
theorem enumFrom_get : ∀ (n : Nat) (ds : List D) (i : Nat), (enumFrom n ds)[i]? = (ds[i]?).map fun d => .tup [.int ((n + i : Nat) : Int), d]
  | _, [], i => by simp [enumFrom]
  | n, d :: ds, 0 => by simp [enumFrom]
  | n, d :: ds, i + 1 => by
    show (enumFrom (n + 1) ds)[i]? = (ds[i]?).map _
    rw [enumFrom_get (n + 1) ds i, show n + 1 + i = n + (i + 1) by omega]
theorem zipD_len : ∀ (xs ys : List D), (zipD xs ys).length = min xs.length ys.length
  | [], ys => by simp [zipD]
  | x :: xs, [] => by simp [zipD]
  | x :: xs, y :: ys => by
    show (zipD xs ys).length + 1 = min (xs.length + 1) (ys.length + 1)
    rw [zipD_len]; omega
theorem zipD_get : ∀ (xs ys : List D) (i : Nat) (x y : D), xs[i]? = some x → ys[i]? = some y → (zipD xs ys)[i]? = some (.tup [x, y])
  | [], ys, i, x, y, h, _ => by simp at h
  | x :: xs, [], i, _, _, _, h => by simp at h
  | x :: xs, y :: ys, 0, a, b, h1, h2 => by
    simp at h1 h2
    subst h1 h2
    rfl
  | x :: xs, y :: ys, i + 1, a, b, h1, h2 => zipD_get xs ys i a b (by simpa using h1) (by simpa using h2)
section
variable {X : Cx} {W : WX} {pos p tpos : Pos} {tg e : Expr} {elts : List Expr} {kk : Nat} {fa : Env → Res D} {fl : Env → Res (List D)}
theorem yl_list {K : PySem.W.Frag} {A : Hp} {a : Addr} {vs : List V} {ds : List D} (h : SqL K A a vs) (r : Reps K A vs ds) : Yl K A (Itl K a) ds := by
  have hl := r.length
  refine ⟨fun i B C s1 s2 hi => ?_, fun B C s1 s2 => ?_, fun i B C x C' s1 s2 hi y => ?_⟩
  · exact walk_list.goes i C (by omega) (Same.seq s2 (Same.seq s1 h))
  · rw [← hl]
    exact walk_list.stops C (Same.seq s2 (Same.seq s1 h))
  · obtain ⟨e1, e2⟩ := walk_list.yields i C x C' (by omega) (Same.seq s2 (Same.seq s1 h)) y
    subst e1
    obtain ⟨d, e3, rd⟩ := r.get' e2
    exact ⟨d, B, e3, Grow.refl s2, rd.mono s1⟩
theorem id_list (h : PE X e (tD X.K W fa)) : PI X tg e (tI X.K W (iL fa)) := PI.imp (pi_list h) fun σ H Q h => by
  obtain ⟨H0, env, er, k⟩ := h
  refine ⟨H0, env, er, Kt.seq er k fun x a A B gr er' rx k' => ?_⟩
  cases a with
  | lst ds =>
    cases rx with
    | lst q r =>
    exact ⟨_, rfl, ⟨_, Same.seq er'.sub q⟩, k' _ A B (Grow.refl er'.sub) (yl_list q r)⟩
  | _ => exact k'.elim
theorem yl_tup {K : PySem.W.Frag} {A : Hp} {a : Addr} {vs : List V} {ds : List D} (h : SqT K A a vs) (r : Reps K A vs ds) : Yl K A (Itt K a) ds := by
  have hl := r.length
  refine ⟨fun i B C s1 s2 hi => ?_, fun B C s1 s2 => ?_, fun i B C x C' s1 s2 hi y => ?_⟩
  · exact walk_tup.goes i C (by omega) (Same.seqT s2 (Same.seqT s1 h))
  · rw [← hl]
    exact walk_tup.stops C (Same.seqT s2 (Same.seqT s1 h))
  · obtain ⟨e1, e2⟩ := walk_tup.yields i C x C' (by omega) (Same.seqT s2 (Same.seqT s1 h)) y
    subst e1
    obtain ⟨d, e3, rd⟩ := r.get' e2
    exact ⟨d, B, e3, Grow.refl s2, rd.mono s1⟩
theorem id_tup (h : PE X e (tD X.K W fa)) : PI X tg e (tI X.K W (iT fa)) := PI.imp (pi_tup h) fun σ H Q h => by
  obtain ⟨H0, env, er, k⟩ := h
  refine ⟨H0, env, er, Kt.seq er k fun x a A B gr er' rx k' => ?_⟩
  cases a with
  | tup ds =>
    cases rx with
    | tup q r =>
    exact ⟨_, rfl, ⟨_, Same.seqT er'.sub q⟩, k' _ A B (Grow.refl er'.sub) (yl_tup q r)⟩
  | _ => exact k'.elim
theorem yl_enum {K : PySem.W.Frag} {A : Hp} {a : Addr} {vs : List V} {ds : List D} (h : SqL K A a vs) (r : Reps K A vs ds) : Yl K A (Ite K a) (enumFrom 0 ds) := by
  have hl := r.length
  refine ⟨fun i B C s1 s2 hi => ?_, fun B C s1 s2 => ?_, fun i B C x C' s1 s2 hi y => ?_⟩
  · rw [enumFrom_len] at hi
    exact walk_enum.goes i C (by omega) (Same.seq s2 (Same.seq s1 h))
  · rw [enumFrom_len, ← hl]
    exact walk_enum.stops C (Same.seq s2 (Same.seq s1 h))
  · rw [enumFrom_len] at hi
    obtain ⟨T, u, v, e1, e2, e3, e4, e5⟩ := walk_enum.yields i C x C' (by omega) (Same.seq s2 (Same.seq s1 h)) y
    subst e1 e3
    cases e4
    obtain ⟨d, e6, rd⟩ := r.get' e5
    refine ⟨.tup [.int (i : Nat), d], upd B T (.tup [.int (i : Nat), v]), ?_, Grow.new s2 e2, .tup (SqT.of upd_same) (.cons (.int _) (.cons ((rd.mono s1).mono (Grow.new (o := .tup _) s2 e2).s0) .nil))⟩
    rw [enumFrom_get, e6, Nat.zero_add]
    rfl
theorem id_enum (hg : Gl X "enumerate") (hm : X.mg "enumerate" = none) (ha : PA X [e] (tDs X.K W fl)) (hs : starEach [e] X.env = [(false, eval e X.env)] := by rfl) : PI X (.Tuple elts kk tpos) (.Call (.Name "enumerate" p) [e] [] pos) (tI X.K W (iE fl)) :=
  PI.imp (pi_enum hg hm ha hs) fun σ H Q h => by
  obtain ⟨H0, env, er, k⟩ := h
  refine ⟨H0, env, er, Kt.seq er k fun x a A B gr er' rx k' => ?_⟩
  match a, k', rx with
  | [.lst ds], k', rx =>
    obtain ⟨v, rfl, rv⟩ := reps1 rx
    cases rv with
    | lst q r =>
    exact ⟨_, _, rfl, Same.seq er'.sub q, k' _ A B (Grow.refl er'.sub) (yl_enum q r)⟩
theorem yl_zip {K : PySem.W.Frag} {A : Hp} {a b : Addr} {vs ws : List V} {ds es : List D} (h : SqL K A a vs) (r : Reps K A vs ds) (h2 : SqL K A b ws) (r2 : Reps K A ws es) : Yl K A (Itz K a b) (zipD ds es) := by
  have hl := r.length
  have hl2 := r2.length
  have w := walk_zip (K := K) (a := a) (b := b) (xs := vs) (ys := ws) rfl
  refine ⟨fun i B C s1 s2 hi => ?_, fun B C s1 s2 => ?_, fun i B C x C' s1 s2 hi y => ?_⟩
  · rw [zipD_len] at hi
    exact w.goes i C (by omega) ⟨Same.seq s2 (Same.seq s1 h), Same.seq s2 (Same.seq s1 h2)⟩
  · rw [zipD_len, ← hl, ← hl2]
    exact w.stops C ⟨Same.seq s2 (Same.seq s1 h), Same.seq s2 (Same.seq s1 h2)⟩
  · rw [zipD_len] at hi
    obtain ⟨T, u, v, e1, e2, e3, e4, e5⟩ := w.yields i C x C' (by omega) ⟨Same.seq s2 (Same.seq s1 h), Same.seq s2 (Same.seq s1 h2)⟩ y
    subst e1 e3
    obtain ⟨d, e6, rd⟩ := r.get' e4
    obtain ⟨d2, e7, rd2⟩ := r2.get' e5
    have s3 := (Grow.new (o := .tup [u, v]) s2 e2).s0
    exact ⟨.tup [d, d2], upd B T (.tup [u, v]), zipD_get _ _ _ _ _ e6 e7, Grow.new s2 e2, .tup (SqT.of upd_same) (.cons ((rd.mono s1).mono s3) (.cons ((rd2.mono s1).mono s3) .nil))⟩
theorem id_zip {e2 : Expr} (hg : Gl X "zip") (hm : X.mg "zip" = none) (ha : PA X [e, e2] (tDs X.K W fl)) (hs : starEach [e, e2] X.env = (false, eval e X.env) :: starEach [e2] X.env := by rfl) (hpl : (backTo pos (starEach [e2] X.env)).any (·.1) = false := by rfl) :
    PI X (.Tuple elts kk tpos) (.Call (.Name "zip" p) [e, e2] [] pos) (tI X.K W (iZ fl)) :=
  PI.imp (pi_zip hg hm ha hs hpl) fun σ H Q h => by
  obtain ⟨H0, env, er, k⟩ := h
  refine ⟨H0, env, er, Kt.seq er k fun x a A B gr er' rx k' => ?_⟩
  match a, k', rx with
  | [.lst ds, .lst es], k', rx =>
    obtain ⟨v, w, rfl, rv, rw'⟩ := reps2 rx
    cases rv with
    | lst q r =>
    cases rw' with
    | lst q2 r2 =>
    exact ⟨_, _, _, _, rfl, Same.seq er'.sub q, Same.seq er'.sub q2, k' _ A B (Grow.refl er'.sub) (yl_zip q r q2 r2)⟩
theorem yl_range {K : PySem.W.Frag} {A : Hp} {lo n : Int} : Yl K A (Itr lo (n - lo).toNat) (rangeD lo n) := by
  have hl : (rangeD lo n).length = (n - lo).toNat := by
    unfold rangeD
    rw [List.length_map, List.length_range]
  refine ⟨fun i B C s1 s2 hi => ?_, fun B C s1 s2 => ?_, fun i B C x C' s1 s2 hi y => ?_⟩
  · rw [hl] at hi
    exact hi
  · rw [hl]
    exact Nat.le_refl _
  · rw [hl] at hi
    obtain ⟨e1, e2⟩ := y
    subst e1 e2
    refine ⟨.int (lo + i), B, ?_, Grow.refl s2, .int _⟩
    unfold rangeD
    rw [List.getElem?_map, List.getElem?_range hi]
    rfl
theorem id_range1 (hg : Gl X "range") (hm : X.mg "range" = none) (ha : PA X [e] (tDs X.K W fl)) (hs : starEach [e] X.env = [(false, eval e X.env)] := by rfl) : PI X tg (.Call (.Name "range" p) [e] [] pos) (tI X.K W (iR1 fl)) :=
  PI.imp (pi_range1 hg hm ha hs) fun σ H Q h => by
  obtain ⟨H0, env, er, k⟩ := h
  refine ⟨H0, env, er, Kt.seq er k fun x a A B gr er' rx k' => ?_⟩
  match a, k', rx with
  | [.int n], k', r =>
    obtain ⟨v, rfl, rv⟩ := reps1 r
    cases rv
    have k : Kt (fun A (J : It) ds => Yl X.K A J ds) W σ A B (if n ≤ 1000000 ∧ -1000000 ≤ n then .ok (rangeD 0 n) else .no) Q := k'
    by_cases c : n ≤ 1000000 ∧ -1000000 ≤ n
    · rw [if_pos c] at k
      refine ⟨n, rfl, by omega, by omega, ?_⟩
      have z := yl_range (K := X.K) (A := A) (lo := 0) (n := n)
      rw [Int.sub_zero] at z
      exact k _ A B (Grow.refl er'.sub) z
    · rw [if_neg c] at k
      exact k.elim
theorem id_range2 {e2 : Expr} (hg : Gl X "range") (hm : X.mg "range" = none) (ha : PA X [e, e2] (tDs X.K W fl)) (hs : starEach [e, e2] X.env = [(false, eval e X.env), (false, eval e2 X.env)] := by rfl) (hs2 : starEach [e2] X.env = [(false, eval e2 X.env)] := by rfl) : PI X tg (.Call (.Name "range" p) [e, e2] [] pos) (tI X.K W (iR2 fl)) :=
  PI.imp (pi_range2 hg hm ha hs hs2) fun σ H Q h => by
  obtain ⟨H0, env, er, k⟩ := h
  refine ⟨H0, env, er, Kt.seq er k fun x a A B gr er' rx k' => ?_⟩
  match a, k', rx with
  | [.int lo, .int n], k', r =>
    obtain ⟨v, w, rfl, rv, rw'⟩ := reps2 r
    cases rv
    cases rw'
    have k : Kt (fun A (J : It) ds => Yl X.K A J ds) W σ A B (if (-1000000 ≤ lo ∧ lo ≤ 1000000) ∧ n ≤ 1000000 ∧ -1000000 ≤ n then .ok (rangeD lo n) else .no) Q := k'
    by_cases c : (-1000000 ≤ lo ∧ lo ≤ 1000000) ∧ n ≤ 1000000 ∧ -1000000 ≤ n
    · rw [if_pos c] at k
      exact ⟨lo, n, rfl, by omega, k _ A B (Grow.refl er'.sub) yl_range⟩
    · rw [if_neg c] at k
      exact k.elim
end
/-! ## list comprehensions -/
def bYes : Env → Res Bool := fun _ => .ok true
def compS (bt : Bt) (ft : Env → Res Bool) (fe : Env → Res D) (env : Env) : List D → Res (List D)
  | [] => .ok []
  | d :: ds => (bt d env).bind fun env1 => (ft env1).bind fun b => if b = true then (fe env1).bind fun y => (compS bt ft fe env ds).bind fun r => .ok (y :: r) else compS bt ft fe env ds
def eLC (vs : List Nat) (bt : Bt) (ft : Env → Res Bool) (fe : Env → Res D) (fi : Env → Res (List D)) : Env → Res D := fun env => (fi env).bind fun ds => if ds.length ≤ 1000000 then (match compS bt ft fe (wipeE env vs) ds with
  | .ok r => .ok (.lst r)
  | _ => .no) else .no
abbrev W0 : WX := fun _ _ _ _ => False
theorem Grow.put {H0 H A B : Hp} {p : Addr} {o : HO} (g : Grow H0 H A B) (hp : H p = none) (ha : A p = none) : Grow H0 H A (upd B p o) where
  s0 := g.s0
  s := fun b x e => by
    rw [upd_ne (ne_of_none e hp)]
    exact g.s b x e
  sub := fun b x e => by
    rw [upd_ne (ne_of_none e ha)]
    exact g.sub b x e
  fr := g.fr
theorem Grow.know {H0 H A B : Hp} {p : Addr} {o : HO} (g : Grow H0 H A B) (hp : H p = none) (ha : A p = none) (hb : B p = some o) : Grow H0 H (upd A p o) B where
  s0 := g.s0.trans (Same.new ha)
  s := g.s
  sub := fun b x e => by
    by_cases hq : b = p
    · subst hq
      rw [upd_same] at e
      cases e
      exact hb
    · rw [upd_ne hq] at e
      exact g.sub b x e
  fr := fun q hq e => by
    have ne : q ≠ p := fun z => hq (by rw [z]; exact hp)
    rw [upd_ne ne]
    exact g.fr q hq e
theorem t_lc {K : PySem.W.Frag} {W : WX} {σ : L2.St} {H : Hp} {Q : VK} {vs ts : List Nat} {bt : Bt} {ft : Env → Res Bool} {fe : Env → Res D} {fi : Env → Res (List D)} (hts : ∀ i ∈ ts, i ∈ vs) (h : tD K W (eLC vs bt ft fe fi) σ H Q) :
    tLc (tI K W fi) (tG K ts bt) (tDB K W0 ft) (tD K W0 fe) vs σ H Q := by
  obtain ⟨H0, env, er, k⟩ := h
  refine ⟨H0, env, er, Kt.seq er k fun J ds A B gr er' yl k' => ?_⟩
  intro P hP
  by_cases hlen : ds.length ≤ 1000000
  · rw [if_pos hlen] at k'
    cases e : compS bt ft fe (wipeE env vs) ds with
    | no => rw [e] at k'; exact k'.elim
    | ex C => rw [e] at k'; exact k'.elim
    | ok tot =>
      rw [e] at k'
      have hA : A P = none := Same.free er'.sub hP
      refine ⟨fun i m H' => m = ds.length - i ∧ i ≤ ds.length ∧ ∃ A' acc ys rest, Grow A B A' H' ∧ H' P = some (.lst acc) ∧ A' P = none ∧ Reps K A' acc ys ∧ compS bt ft fe (wipeE env vs) (ds.drop i) = .ok rest ∧ ys ++ rest = tot ∧ ys.length ≤ i,
        ⟨ds.length, rfl, Nat.zero_le _, A, [], [], tot, (Grow.refl er'.sub).put hP hA, upd_same, hA, .nil, e, rfl, Nat.le_refl _⟩, ?_⟩
      rintro i m H' ⟨rfl, hi, A', acc, ys, rest, g, hp, ha, ra, hc, ht, hy⟩
      by_cases hlt : i < ds.length
      · refine .inr ⟨yl.go i A' H' g.s0 g.sub hlt, _, fun H'' p => ⟨ds.length - (i + 1), by omega, rfl, hlt, p⟩, fun x H'' yd => ?_⟩
        obtain ⟨d, A2, hd, g2, rx⟩ := yl.yld i A' H' x H'' g.s0 g.sub hlt yd
        have ed : ds.drop i = d :: ds.drop (i + 1) := by
          rw [List.drop_eq_getElem_cons hlt]
          rw [List.getElem?_eq_getElem hlt] at hd
          cases hd
          rfl
        rw [ed] at hc
        have hc : (bt d (wipeE env vs)).bind (fun env1 => (ft env1).bind fun b => if b = true then (fe env1).bind fun y => (compS bt ft fe (wipeE env vs) (ds.drop (i + 1))).bind fun r => .ok (y :: r) else compS bt ft fe (wipeE env vs) (ds.drop (i + 1))) = .ok rest := hc
        cases e1 : bt d (wipeE env vs) with
        | no => rw [e1] at hc; cases hc
        | ex C => rw [e1] at hc; cases hc
        | ok env1 =>
          rw [e1] at hc
          have hc : (ft env1).bind (fun b => if b = true then (fe env1).bind fun y => (compS bt ft fe (wipeE env vs) (ds.drop (i + 1))).bind fun r => .ok (y :: r) else compS bt ft fe (wipeE env vs) (ds.drop (i + 1))) = .ok rest := hc
          have hp2 : H'' P = some (.lst acc) := g2.s _ _ hp
          have ha2 : A2 P = none := g2.fr P (by rw [hp]; exact fun z => nomatch z) ha
          refine ⟨A2, wipeE env vs, d, ER.wipe (er'.grow (g.trans g2)) vs, rx, env1, e1, fun σ2 er2 tg => ⟨?_, ?_⟩⟩
          · rw [tg.wp vs hts, wipe_wipe]
          · refine ⟨A2, env1, er2, ?_⟩
            cases e2 : ft env1 with
            | no => rw [e2] at hc; cases hc
            | ex C => rw [e2] at hc; cases hc
            | ok b =>
              rw [e2] at hc
              intro b' A3 H3 g3 eb
              cases (show b' = b from eb)
              have hp3 : H3 P = some (.lst acc) := g3.s _ _ hp2
              have ha3 : A3 P = none := g3.fr P (by rw [hp2]; exact fun z => nomatch z) ha2
              have g13 : Grow A B A3 H3 := (g.trans g2).trans g3
              cases b with
              | false =>
                refine iteF ⟨A3, acc, ys, rest, g13, hp3, ha3, (ra.mono g2.s0).mono g3.s0, hc, ht, Nat.le_succ_of_le hy⟩
              | true =>
                refine iteT ⟨A3, env1, er2.grow g3, ?_⟩
                have hc : (fe env1).bind (fun y => (compS bt ft fe (wipeE env vs) (ds.drop (i + 1))).bind fun r => .ok (y :: r)) = .ok rest := hc
                cases e3 : fe env1 with
                | no => rw [e3] at hc; cases hc
                | ex C => rw [e3] at hc; cases hc
                | ok y =>
                  rw [e3] at hc
                  intro v A4 H4 g4 rv
                  have hp4 : H4 P = some (.lst acc) := g4.s _ _ hp3
                  have ha4 : A4 P = none := g4.fr P (by rw [hp3]; exact fun z => nomatch z) ha3
                  cases e4 : compS bt ft fe (wipeE env vs) (ds.drop (i + 1)) with
                  | no => simp only [e4, Res.bind_ok, Res.bind_no] at hc; cases hc
                  | ex C => simp only [e4, Res.bind_ok, Res.bind_ex] at hc; cases hc
                  | ok rest' =>
                    simp only [e4, Res.bind_ok] at hc
                    cases hc
                    have r4 := ((ra.mono g2.s0).mono g3.s0).mono g4.s0
                    refine ⟨acc, hp4, ?_, A4, acc ++ [v], ys ++ [y], rest', ((g13.trans g4).put hP ha4), upd_same, ha4, r4.append (.cons rv .nil), rfl, ?_, ?_⟩
                    · rw [ra.length]
                      exact sz_lt (by omega)
                    · rw [List.append_assoc]
                      exact ht
                    · rw [List.length_append]
                      exact Nat.succ_le_succ hy
      · have ei : i = ds.length := by omega
        subst ei
        refine .inl ⟨yl.stop A' H' g.s0 g.sub, ?_⟩
        rw [List.drop_length] at hc
        cases hc
        rw [List.append_nil] at ht
        subst ht
        exact k' _ (upd A' P (.lst acc)) H' (g.know hP ha hp) (.lst (SqL.of upd_same) (ra.mono (Same.new ha)))
  · rw [if_neg hlen] at k'
    exact k'.elim
section
variable {X : Cx} {W : WX} {elt tg iter : Expr} {ifs : List Expr} {scope : Scope} {own : List (Str × Nat)} {pos : Pos} {bt : Bt} {ft : Env → Res Bool} {fe : Env → Res D} {fi : Env → Res (List D)} {ts : List Nat}
theorem ptsd_nil {X : Cx} {W : WX} : PTs X [] (tDB X.K W bYes) := ⟨fun pins s σ H Q I h => pts_nil.run pins s σ H Q I (by
  obtain ⟨H0, env, er, k⟩ := h
  exact k true H0 H (Grow.refl er.sub) rfl)⟩
theorem ptsd_one {X : Cx} {W : WX} {c : Expr} {fc : Env → Res Bool} (h : PT X c (tDB X.K W fc)) : PTs X [c] (tDB X.K W fc) := pts_one h
theorem pd_lc (hc : X.calm = true) (hN : X.N.Nodup) (hi : PI X tg iter (tI X.K W fi)) (ok : BlkOk X.N X.env.scope scope own) (hts : ∀ i ∈ ts, i ∈ own.map (·.2))
    (hg : ∀ (s : Shared) (H : Hp) (C : Addr) (cl : List (Str × Addr)) (fp : List Addr), PG (X.blk s H scope (compEnvC scope cl C X.env) fp) tg (tG X.K ts bt)) (ht : ∀ (s : Shared) (H : Hp) (C : Addr) (cl : List (Str × Addr)) (fp : List Addr), PTs (X.blk s H scope (compEnvC scope cl C X.env) fp) ifs (tDB X.K W0 ft))
    (he : ∀ (s : Shared) (H : Hp) (C : Addr) (cl : List (Str × Addr)) (fp : List Addr), PE (X.blk s H scope (compEnvC scope cl C X.env) fp) elt (tD X.K W0 fe)) (hs : ∀ x, foldedSetIterable iter X.env x = pure x := by intro _; rfl) :
    PE X (.ListComp elt [⟨tg, iter, ifs, 0⟩] scope pos) (tD X.K W (eLC (own.map (·.2)) bt ft fe fi)) := PE.imp (pe_lc hc hN hi ok hg ht he hs) fun _ _ _ h => t_lc hts h
end
/-! ## calls of defs -/
def spD (K : PySem.W.Frag) (n : Nat) (φ : List D → Res D) : Sp := fun vs H Q E => ∃ H0 ds, Same H0 H ∧ Reps K H0 vs ds ∧ ds.length = n ∧ Kt (rD K) (fun c d _ H => E c d H) [] H0 H (φ ds) Q
theorem spD_len {K : PySem.W.Frag} {n : Nat} {φ : List D → Res D} {ps : List Str} (h : ps.length = n) : ∀ vs H Q E, spD K n φ vs H Q E → vs.length = ps.length := fun vs H Q E ⟨H0, ds, _, r, l, _⟩ => by
  rw [r.length, l, h]
/-- a promise told by another function of the data -/
theorem spD_imp {K : PySem.W.Frag} {n : Nat} {φ ψ : List D → Res D} (h : ∀ ds, ψ ds = φ ds ∨ ψ ds = .no) : ∀ vs H Q E, spD K n ψ vs H Q E → spD K n φ vs H Q E := fun vs H Q E ⟨H0, ds, s, r, l, k⟩ => ⟨H0, ds, s, r, l, by
  rcases h ds with e | e
  · rw [← e]; exact k
  · rw [e] at k; exact k.elim⟩
theorem t_call {K : PySem.W.Frag} {W : WX} {σ : L2.St} {H : Hp} {Q : VK} {n : Nat} {φ : List D → Res D} {fl : Env → Res (List D)} (hn : ∀ env ds, fl env = .ok ds → ds.length = n) (h : tD K W (eCall φ fl) σ H Q) : tCallS (spD K n φ) (WE W) (tDs K W fl) σ H Q := by
  obtain ⟨H0, env, er, k⟩ := h
  refine ⟨H0, env, er, ?_⟩
  have hl := hn env
  unfold eCall at k
  cases e : fl env with
  | no => rw [e] at k; exact k
  | ex C => rw [e] at k; exact k
  | ok ds =>
    rw [e] at k
    intro xs A B g r
    refine ⟨A, ds, g.sub, r, hl ds e, ?_⟩
    have k2 := Kt.shift g k
    cases e2 : φ ds with
    | no => rw [Res.bind_ok, e2] at k2; exact k2
    | ex C => rw [Res.bind_ok, e2] at k2; exact k2
    | ok d => rw [Res.bind_ok, e2] at k2; exact k2
def ArgE (n : Nat) (f : Env → Res (List D)) : Prop := ∀ env ds, f env = .ok ds → ds.length = n
theorem arge_nil : ArgE 0 aNil := fun env ds h => by
  cases h
  rfl
theorem arge_cons {n : Nat} {fa : Env → Res D} {fl : Env → Res (List D)} (h : ArgE n fl) : ArgE (n + 1) (aCons fa fl) := fun env ds e => by
  unfold aCons at e
  cases e1 : fa env with
  | no => rw [e1] at e; cases e
  | ex C => rw [e1] at e; cases e
  | ok a =>
    rw [e1] at e
    cases e2 : fl env with
    | no => rw [e2] at e; cases e
    | ex C => rw [e2] at e; cases e
    | ok r =>
      rw [e2] at e
      cases e
      rw [List.length_cons, h env r e2]
theorem ArgE.le {n : Nat} {f : Env → Res (List D)} (h : ArgE n f) : ArgN n f := fun env ds e => Nat.le_of_eq (h env ds e)
section
variable {X : Cx} {W : WX} {k n : Nat} {f : Addr} {fd : FuncData} {ps : List Str} {φ : List D → Res D} {x : Str} {p pos : Pos} {e : Expr} {es : List Expr} {fl : Env → Res (List D)}
theorem pd_call (F : FnOk X.prog X.w X.K X.mg X.base (L2.CX X.prog X.w) k f fd ps (spD X.K n φ)) (hr : Room k X.A) (tk : Takes X W) (hg : Gl X x) (hm : X.mg x = some (.ref f)) (hk : PySem.W.keepIn X.K (.ref f) = true) (hb : Binds X.K fd ps [])
    (ha : PA X (e :: es) (tDs X.K W fl)) (hn : ArgE n fl) (hdb : (x == ("__debug__" : Str)) = false := by decide) (he : starEach (e :: es) X.env = (false, eval e X.env) :: starEach es X.env := by rfl) (hpl : (backTo pos (starEach es X.env)).any (·.1) = false := by rfl) :
    PE X (.Call (.Name x p) (e :: es) [] pos) (tD X.K W (eCall φ fl)) := PE.imp (pe_callS F hr hg hm hk hb (fun σ => passAt tk σ) ha hdb he hpl) fun _ _ _ h => t_call hn h
end
end Dt
namespace Dt
open PySem PySem.Spec PyProof.Rows L2
/-! ## statements -/
inductive Fl where
  | nx (e : Env) | rt (d : D) | bk (e : Env) | ct (e : Env)
/-- what holds of the known part and the heap all along; P: of one's own addresses -/
structure Gd (G : Hp → Hp → Prop) (P : Addr → Prop) : Prop where
  grow : ∀ {A H A' H'}, G A H → Grow A H A' H' → G A' H'
  put : ∀ {A H p o}, G A H → A p = none → P p → G A (upd H p o)
  know : ∀ {A H p o}, G A H → A p = none → H p = some o → P p → G (upd A p o) H
  fresh : ∀ {A H p}, G A H → H p = none → P p
structure Stt (K : PySem.W.Frag) (G : Hp → Hp → Prop) (P : Addr → Prop) (σ : L2.St) (A H : Hp) (env : Env) : Prop where
  er : ER K σ A H env
  ow : OwnB P σ env
  g : G A H
def KS (K : PySem.W.Frag) (W : WX) (G : Hp → Hp → Prop) (P : Addr → Prop) (Dd : Ends) : Res Fl → Prop
  | .no => False
  | .ex C => ∀ σ A H, G A H → W (.ref C) none σ H
  | .ok (.nx env) => ∀ σ A H, Stt K G P σ A H env → Dd.nx σ H
  | .ok (.bk env) => ∀ σ A H, Stt K G P σ A H env → Dd.bk σ H
  | .ok (.ct env) => ∀ σ A H, Stt K G P σ A H env → Dd.ct σ H
  | .ok (.rt d) => ∀ v A H, G A H → Rep K A v d → Dd.rt v H
def tS (K : PySem.W.Frag) (W : WX) (G : Hp → Hp → Prop) (P : Addr → Prop) (g : Env → Res Fl) : TS := fun Dd σ H => ∃ A env, Stt K G P σ A H env ∧ KS K W G P Dd (g env)
def sNil : Env → Res Fl := fun env => .ok (.nx env)
def sSeq (g1 g2 : Env → Res Fl) : Env → Res Fl := fun env => match g1 env with
  | .ok (.nx e) => g2 e
  | r => r
def bOk {α : Type} (r : Res Env) (k : Env → Res α) : Res α := match r with
  | .ok e => k e
  | _ => .no
@[simp] theorem bOk_ok {α : Type} (e : Env) (k : Env → Res α) : bOk (.ok e) k = k e := rfl
def sAsg (fa : Env → Res D) (bt : Bt) : Env → Res Fl := fun env => (fa env).bind fun d => bOk (bt d env) fun e => .ok (.nx e)
def sPar (i j : Nat) (fl : Env → Res (List D)) : Env → Res Fl := fun env => (fl env).bind fun ds => match ds with
  | [a, b] => .ok (.nx ((env.set i (.sh a)).set j (.sh b)))
  | _ => .no
def sRet (fa : Env → Res D) : Env → Res Fl := fun env => (fa env).bind fun d => .ok (.rt d)
def sRetN : Env → Res Fl := fun _ => .ok (.rt .non)
def sDrop (fa : Env → Res D) : Env → Res Fl := fun env => (fa env).bind fun _ => .ok (.nx env)
def sIf (fc : Env → Res Bool) (g1 g2 : Env → Res Fl) : Env → Res Fl := fun env => (fc env).bind fun c => if c = true then g1 env else g2 env
def sNever : Env → Res Fl := fun _ => .no
def sRaise (C : Addr) : Env → Res Fl := fun _ => .ex C
def forS (bt : Bt) (gb : Env → Res Fl) : List D → Env → Res Fl
  | [], env => .ok (.nx env)
  | d :: ds, env => bOk (bt d env) fun e => match gb e with
    | .ok (.nx e2) => forS bt gb ds e2
    | .ok (.ct e2) => forS bt gb ds e2
    | .ok (.bk e2) => .ok (.nx e2)
    | r => r
def sFor (fi : Env → Res (List D)) (bt : Bt) (gb : Env → Res Fl) : Env → Res Fl := fun env => (fi env).bind fun ds => forS bt gb ds env
def whileS (ft : Env → Res Bool) (gb : Env → Res Fl) : Nat → Env → Res Fl
  | 0, _ => .no
  | n + 1, env => (ft env).bind fun b => if b = true then (match gb env with
    | .ok (.nx e2) => whileS ft gb n e2
    | .ok (.ct e2) => whileS ft gb n e2
    | .ok (.bk e2) => .ok (.nx e2)
    | r => r) else .ok (.nx env)
def sWhile (nf : Env → Nat) (ft : Env → Res Bool) (gb : Env → Res Fl) : Env → Res Fl := fun env => whileS ft gb (nf env) env
section
variable {K : PySem.W.Frag} {W : WX} {G : Hp → Hp → Prop} {P : Addr → Prop} {σ : L2.St} {A H A' H' : Hp} {env : Env} {fa : Env → Res D} {Dd : Ends}
theorem Stt.grow (gd : Gd G P) (s : Stt K G P σ A H env) (g : Grow A H A' H') : Stt K G P σ A' H' env := ⟨s.er.grow g, s.ow, gd.grow s.g g⟩
/-- an expression within a statement -/
theorem ks_seq {α β : Type} {R : Hp → β → α → Prop} {f : Env → Res α} {r : α → Res Fl} {Q : β → Hp → Prop} (gd : Gd G P) (s : Stt K G P σ A H env) (k : KS K W G P Dd ((f env).bind r))
    (h : ∀ x a A' H', Stt K G P σ A' H' env → R A' x a → KS K W G P Dd (r a) → Q x H') : tR K R W f σ H Q := by
  refine ⟨A, env, s.er, ?_⟩
  cases e : f env with
  | no => rw [e] at k; exact k
  | ex C =>
    rw [e] at k
    exact fun A' H' g => k σ A' H' (gd.grow s.g g)
  | ok a =>
    rw [e] at k
    exact fun x A' H' g q => h x a A' H' (s.grow gd g) q k
end
section
variable {X : Cx} {W : WX} {G : Hp → Hp → Prop} {P : Addr → Prop} {st : Stmt} {rest body : List Stmt} {g1 g2 gb : Env → Res Fl} {e a b c tg iter : Expr} {pos pos' px py pt : Pos} {fa : Env → Res D} {fc : Env → Res Bool} {fl fi : Env → Res (List D)} {bt : Bt} {ts : List Nat}
theorem sd_nil : PSs X [] (tS X.K W G P sNil) := PSs.imp pss_nil fun Dd σ H h => by
  obtain ⟨A, env, s, k⟩ := h
  exact k σ A H s
theorem sd_one (h : PS X st (tS X.K W G P g1)) : PSs X [st] (tS X.K W G P g1) := pss_one h
theorem sd_cons (h1 : PS X st (tS X.K W G P g1)) (h2 : PSs X rest (tS X.K W G P g2)) : PSs X (st :: rest) (tS X.K W G P (sSeq g1 g2)) := PSs.imp (pss_cons h1 h2) fun Dd σ H h => by
  obtain ⟨A, env, s, k⟩ := h
  refine ⟨A, env, s, ?_⟩
  unfold sSeq at k
  cases e : g1 env with
  | no => rw [e] at k; exact k
  | ex C => rw [e] at k; exact k
  | ok f =>
    rw [e] at k
    cases f with
    | nx e2 => exact fun σ' A' H' s' => ⟨A', e2, s', k⟩
    | rt d => exact k
    | bk e2 => exact k
    | ct e2 => exact k
theorem sd_asg (gd : Gd G P) (he : PE X e (tD X.K W fa)) (hg : PG X tg (tG X.K ts bt)) (hs : swapsWithSole [tg] e pos.line X.env = pure false := by rfl) (hw : swappedStores [tg] e X.env = pure none := by rfl)
    (h1 : (assignEach [tg] X.env).map (·.2) = [assign tg X.env] := by rfl) : PS X (.Assign [tg] e pos) (tS X.K W G P (sAsg fa bt)) := PS.imp (ps_asg he hg hs hw h1) fun Dd σ H h => by
  obtain ⟨A, env, s, k⟩ := h
  refine ks_seq gd s k fun x d A' H' s' rx k' => ⟨A', env, d, s'.er, rx, ?_⟩
  cases e1 : bt d env with
  | no => rw [e1] at k'; exact k'.elim
  | ex C => rw [e1] at k'; exact k'.elim
  | ok env' =>
    rw [e1] at k'
    exact ⟨env', rfl, fun σ' er tgt => k' σ' A' H' ⟨er, tgt.ow P s'.ow, s'.g⟩⟩
theorem gn_imp {K : PySem.W.Frag} {i : Nat} {te : TE} {Dd : Ends} {σ : L2.St} {H : Hp} (gd : Gd G P) (ht : ∀ σ H Q, tD K W fa σ H Q → te σ H Q) (h : tS K W G P (sAsg fa (bNm i)) Dd σ H) : tAsg te (gName i) Dd σ H := by
  obtain ⟨A, env, s, k⟩ := h
  exact ht _ _ _ (ks_seq gd s k fun x d A' H' s' rx k' => k' (σ.set i (some x)) A' H' ⟨s'.er.set rx, s'.ow.set, s'.g⟩)
/-- name = e -/
theorem sd_set (gd : Gd G P) {i : Nat} {x : Str} {pos' : Pos} (hN : X.N.Nodup) (he : PE X e (tD X.K W fa)) (hi : X.N[i]? = some x := by rfl) (hx : Loc X.env.scope x := by first | exact Or.inl rfl | exact Or.inr rfl) (hs : swapsWith e (some (.Name x pos')) pos.line X.env = pure false := by rfl) (hf : X.fn x = true ∨ X.env.scope.names.lookup x = some .local := by first | exact .inl rfl | exact .inr rfl | assumption) :
    PS X (.Assign [.Name x pos'] e pos) (tS X.K W G P (sAsg fa (bNm i))) := PS.imp (ps_set hN hi hx he hs hf) fun Dd σ H h => gn_imp gd (fun _ _ _ h => h) h
/-- name = [..] on one line -/
theorem sd_setLc (gd : Gd G P) {i : Nat} {y : Str} {py : Pos} {elt tg iter : Expr} {ifs : List Expr} {scope : Scope} {own : List (Str × Nat)} {pos spos : Pos} {ft : Env → Res Bool} {fe : Env → Res D} (hc : X.calm = true) (hN : X.N.Nodup) (hi : PI X tg iter (tI X.K W fi)) (ok : BlkOk X.N X.env.scope scope own) (hts : ∀ i ∈ ts, i ∈ own.map (·.2))
    (hg : ∀ (s : Shared) (H : Hp) (C : Addr) (cl : List (Str × Addr)) (fp : List Addr), PG (X.blk s H scope (compEnvC scope cl C X.env) fp) tg (tG X.K ts bt)) (ht : ∀ (s : Shared) (H : Hp) (C : Addr) (cl : List (Str × Addr)) (fp : List Addr), PTs (X.blk s H scope (compEnvC scope cl C X.env) fp) ifs (tDB X.K W0 ft))
    (he : ∀ (s : Shared) (H : Hp) (C : Addr) (cl : List (Str × Addr)) (fp : List Addr), PE (X.blk s H scope (compEnvC scope cl C X.env) fp) elt (tD X.K W0 fe))
    (hy : X.N[i]? = some y := by rfl) (hyl : X.env.scope.names.lookup y = some .local := by rfl)
    (hsw : swapsWith (.ListComp elt [⟨tg, iter, ifs, 0⟩] scope pos) (some (.Name y py)) spos.line X.env = pure true := by exact sw_true rfl rfl rfl (by decide +kernel)) (hs : ∀ x, foldedSetIterable iter X.env x = pure x := by intro _; rfl) :
    PS X (.Assign [.Name y py] (.ListComp elt [⟨tg, iter, ifs, 0⟩] scope pos) spos) (tS X.K W G P (sAsg (eLC (own.map (·.2)) bt ft fe fi) (bNm i))) := PS.imp (ps_setLc hc hN hy hyl hsw hi ok hg ht he hs) fun Dd σ H h => gn_imp gd (fun _ _ _ h => t_lc hts h) h
/-- a, b = e1, e2 -/
theorem sd_par (gd : Gd G P) {i j : Nat} {x y : Str} {kt k2 pt2} (hc : X.calm = true) (hN : X.N.Nodup) (ha : PA X [a, b] (tDs X.K W fl)) (hi : X.N[i]? = some x := by rfl) (hj : X.N[j]? = some y := by rfl) (hij : i ≠ j := by decide)
    (hx : X.env.scope.names.lookup x = some .local := by rfl) (hy : X.env.scope.names.lookup y = some .local := by rfl)
    (hw : swappedStores [.Tuple [.Name x px, .Name y py] kt pt] (.Tuple [a, b] k2 pt2) X.env = pure (some [x, y]) := by rfl)
    (hs : swapsWithSole [.Tuple [.Name x px, .Name y py] kt pt] (.Tuple [a, b] k2 pt2) pos.line X.env = pure false := by rfl) :
    PS X (.Assign [.Tuple [.Name x px, .Name y py] kt pt] (.Tuple [a, b] k2 pt2) pos) (tS X.K W G P (sPar i j fl)) := PS.imp (ps_par hc hN hi hj hij hx hy ha hw hs) fun Dd σ H h => by
  obtain ⟨A, env, s, k⟩ := h
  refine ks_seq gd s k fun vs ds A' H' s' r k' => ?_
  match ds, k', r with
  | [d1, d2], k', r =>
    obtain ⟨v, w, rfl, rv, rw'⟩ := reps2 r
    exact ⟨v, w, rfl, k' _ A' H' ⟨(s'.er.set rv).set rw', s'.ow.set.set, s'.g⟩⟩
theorem sd_ret (gd : Gd G P) (he : PE X e (tD X.K W fa)) : PS X (.Return (some e) pos) (tS X.K W G P (sRet fa)) := PS.imp (ps_ret he) fun Dd σ H h => by
  obtain ⟨A, env, s, k⟩ := h
  exact ks_seq gd s k fun x d A' H' s' r k' => k' x A' H' s'.g r
theorem sd_retN (gd : Gd G P) : PS X (.Return none pos) (tS X.K W G P sRetN) := PS.imp ps_retN fun Dd σ H h => by
  obtain ⟨A, env, s, k⟩ := h
  exact k .non A H s.g .non
theorem sd_drop (gd : Gd G P) (he : PE X e (tD X.K W fa)) (hs : swapsWith e none pos.line X.env = pure false := by rfl) : PS X (.Expr e pos) (tS X.K W G P (sDrop fa)) := PS.imp (ps_expr he hs) fun Dd σ H h => by
  obtain ⟨A, env, s, k⟩ := h
  exact ks_seq gd s k fun x d A' H' s' r k' => k' σ A' H' s'
theorem sd_doc {x : Str} {j : Nat} : PS X (.Expr (.Constant (.str x) j pos) pos') (tS X.K W G P sNil) := PS.imp ps_doc fun Dd σ H h => by
  obtain ⟨A, env, s, k⟩ := h
  exact k σ A H s
theorem sd_pass : PS X (.Pass pos) (tS X.K W G P sNil) := PS.imp ps_pass fun Dd σ H h => by
  obtain ⟨A, env, s, k⟩ := h
  exact k σ A H s
theorem sd_if (gd : Gd G P) {c : Expr} {p q : List Stmt} (hc : PT X c (tDB X.K W fc)) (ha : PSs X p (tS X.K W G P g1)) (hb : PSs X q (tS X.K W G P g2)) : PS X (.If c p q pos) (tS X.K W G P (sIf fc g1 g2)) := PS.imp (ps_if hc ha hb) fun Dd σ H h => by
  obtain ⟨A, env, s, k⟩ := h
  refine ks_seq gd s k fun x d A' H' s' r k' => ?_
  cases (show x = d from r)
  cases x with
  | true => exact iteT ⟨A', env, s', k'⟩
  | false => exact iteF ⟨A', env, s', k'⟩
theorem sd_never : PS X st (tS X.K W G P sNever) := PS.imp ps_never fun Dd σ H h => by
  obtain ⟨A, env, s, k⟩ := h
  exact k
theorem sd_raise (hc : X.calm = true) (tk : Takes X W) {C : Addr} {e : Expr} (hm : PMk X e (fun _ H Q => Q (.ref C) none H)) : PS X (.Raise (some e) none pos) (tS X.K W G P (sRaise C)) := PS.imp (ps_raise hc tk hm) fun Dd σ H h => by
  obtain ⟨A, env, s, k⟩ := h
  exact k σ A H s.g
/-- the same with one thing more said of the known part -/
theorem Gd.since (gd : Gd G P) (A0 : Hp) : Gd (fun A H => G A H ∧ Same A0 A) P where
  grow := fun h g => ⟨gd.grow h.1 g, h.2.trans g.s0⟩
  put := fun h ha hp => ⟨gd.put h.1 ha hp, h.2⟩
  know := fun h ha hb hp => ⟨gd.know h.1 ha hb hp, h.2.trans (Same.new ha)⟩
  fresh := fun h hp => gd.fresh h.1 hp
theorem sd_for (gd : Gd G P) (hp : PassesOwn (model X.prog X.w) X.A X.env X.xe) (hc : X.calm = true) (hi : PI X tg iter (tI X.K W fi)) (hg : PG X tg (tG X.K ts bt)) (hb : ∀ G', Gd G' P → PSs X body (tS X.K W G' P gb))
    (hs : ∀ x, foldedSetIterable iter X.env x = pure x := by intro _; rfl) : PS X (.For tg iter body [] pos) (tS X.K W G P (sFor fi bt gb)) := by
  refine ⟨fun pins s σ H Dd I h => ?_⟩
  obtain ⟨A, env, s0, k⟩ := h
  -- the known part at the walk's begin is not told yet: the body's reading says ∃ A0
  have body' : PSs X body (fun Dd σ H => ∃ A0, tS X.K W (fun A H => G A H ∧ Same A0 A) P gb Dd σ H) := ⟨fun pins s σ H Dd I h => by
    obtain ⟨A0, h⟩ := h
    exact (hb _ (gd.since A0)).run pins s σ H Dd I h⟩
  refine (ps_for hp hc hi hg body' hs).run pins s σ H Dd I ?_
  refine ks_seq gd s0 k fun J ds A1 H1 s1 yl k' => ?_
  refine ⟨fun i m σ H => m = ds.length - i ∧ i ≤ ds.length ∧ ∃ A env, Stt X.K (fun A H => G A H ∧ Same A1 A) P σ A H env ∧ KS X.K W G P Dd (forS bt gb (ds.drop i) env), ⟨ds.length, rfl, Nat.zero_le _, A1, env, ⟨s1.er, s1.ow, s1.g, Same.refl _⟩, k'⟩, ?_⟩
  rintro i m σ2 H2 ⟨rfl, hle, A2, env2, s2, k2⟩
  by_cases hlt : i < ds.length
  · refine .inr ⟨yl.go i A2 H2 s2.g.2 s2.er.sub hlt, fun σ' H' => ∃ A env, Stt X.K (fun A H => G A H ∧ Same A1 A) P σ' A H' env ∧ KS X.K W G P Dd (forS bt gb (ds.drop (i + 1)) env), fun σ' H' n => ⟨ds.length - (i + 1), by omega, rfl, hlt, n⟩, fun x H3 yd => ?_⟩
    obtain ⟨d, A3, hd, g3, rx⟩ := yl.yld i A2 H2 x H3 s2.g.2 s2.er.sub hlt yd
    have s3 := s2.grow (gd.since A1) g3
    have ed : ds.drop i = d :: ds.drop (i + 1) := by
      rw [List.drop_eq_getElem_cons hlt]
      rw [List.getElem?_eq_getElem hlt] at hd
      cases hd
      rfl
    rw [ed] at k2
    refine ⟨A3, env2, d, s3.er, rx, ?_⟩
    unfold forS at k2
    cases e1 : bt d env2 with
    | no => rw [e1] at k2; exact k2.elim
    | ex C => rw [e1] at k2; exact k2.elim
    | ok env3 =>
      rw [e1, bOk_ok] at k2
      refine ⟨env3, rfl, fun σ3 er3 tgt => ⟨A1, A3, env3, ⟨er3, tgt.ow P s3.ow, s3.g⟩, ?_⟩⟩
      cases e2 : gb env3 with
      | no => rw [e2] at k2; exact k2
      | ex C => rw [e2] at k2; exact fun σ A H g => k2 σ A H g.1
      | ok f =>
        rw [e2] at k2
        cases f with
        | nx e4 => exact fun σ A H s => ⟨A, e4, s, k2⟩
        | ct e4 => exact fun σ A H s => ⟨A, e4, s, k2⟩
        | bk e4 => exact fun σ A H s => k2 σ A H ⟨s.er, s.ow, s.g.1⟩
        | rt d => exact fun v A H g r => k2 v A H g.1 r
  · have ei : i = ds.length := by omega
    subst ei
    rw [List.drop_length] at k2
    exact .inl ⟨yl.stop A2 H2 s2.g.2 s2.er.sub, k2 σ2 A2 H2 ⟨s2.er, s2.ow, s2.g.1⟩⟩
theorem sd_while (gd : Gd G P) {c : Expr} (nf : Env → Nat) (hp : PassesOwn (model X.prog X.w) X.A X.env X.xe) (hc : PT X c (tDB X.K W fc)) (hb : PSs X body (tS X.K W G P gb)) : PS X (.While c body [] pos) (tS X.K W G P (sWhile nf fc gb)) := PS.imp (ps_while hp hc hb) fun Dd σ H h => by
  obtain ⟨A, env, s, k⟩ := h
  refine ⟨fun m σ H => ∃ A env, Stt X.K G P σ A H env ∧ KS X.K W G P Dd (whileS fc gb m env), ⟨nf env, A, env, s, k⟩, ?_⟩
  rintro m σ1 H1 ⟨A1, env1, s1, k1⟩
  cases m with
  | zero => exact k1.elim
  | succ m =>
    refine ks_seq gd s1 k1 fun x d A' H' s' r k' => ?_
    cases (show x = d from r)
    cases x with
    | false => exact iteF (k' σ1 A' H' s')
    | true =>
      have k' : KS X.K W G P Dd (match gb env1 with
        | .ok (.nx e2) => whileS fc gb m e2
        | .ok (.ct e2) => whileS fc gb m e2
        | .ok (.bk e2) => .ok (.nx e2)
        | r => r) := k'
      refine iteT ⟨fun σ H => ∃ A env, Stt X.K G P σ A H env ∧ KS X.K W G P Dd (whileS fc gb m env), fun σ' H' h => ⟨m, Nat.lt_succ_self m, h⟩, A', env1, s', ?_⟩
      cases e2 : gb env1 with
      | no => rw [e2] at k'; exact k'
      | ex C => rw [e2] at k'; exact k'
      | ok f =>
        rw [e2] at k'
        cases f with
        | nx e4 => exact fun σ A H s => ⟨A, e4, s, k'⟩
        | ct e4 => exact fun σ A H s => ⟨A, e4, s, k'⟩
        | bk e4 => exact k'
        | rt d => exact k'
/-! ### lists of one's own -/
def frz (i : Nat) (env : Env) : Env := match env[i]? with
  | some (.ow ds) => env.set i (.sh (.lst ds))
  | _ => env
theorem stt_frz {K : PySem.W.Frag} {σ : L2.St} {A H : Hp} {env : Env} (gd : Gd G P) (i : Nat) (s : Stt K G P σ A H env) : ∃ A', Stt K G P σ A' H (frz i env) := by
  unfold frz
  cases e : env[i]? with
  | none => exact ⟨A, s⟩
  | some sl =>
    cases sl with
    | no => exact ⟨A, s⟩
    | sh d => exact ⟨A, s⟩
    | ow ds =>
      obtain ⟨p, vs, h1, h2, h3, h4, h5⟩ := s.er.freeze e
      refine ⟨_, h5, fun j es q e1 e2 => ?_, gd.know s.g h2 h1 (s.ow i ds p e h3)⟩
      rcases set_some e1 with ⟨rfl, z⟩ | ⟨hj, z⟩
      · cases z
      · exact s.ow j es q z e2
theorem sd_frz (gd : Gd G P) (i : Nat) (h : PSs X rest (tS X.K W G P g1)) : PSs X rest (tS X.K W G P fun env => g1 (frz i env)) := PSs.imp h fun Dd σ H h => by
  obtain ⟨A, env, s, k⟩ := h
  obtain ⟨A', s'⟩ := stt_frz gd i s
  exact ⟨A', _, s', k⟩
theorem sd_frz1 (gd : Gd G P) (i : Nat) (h : PS X st (tS X.K W G P g1)) : PS X st (tS X.K W G P fun env => g1 (frz i env)) := PS.imp h fun Dd σ H h => by
  obtain ⟨A, env, s, k⟩ := h
  obtain ⟨A', s'⟩ := stt_frz gd i s
  exact ⟨A', _, s', k⟩
/-- name = a written list: one's own -/
def sAsgO (i : Nat) (fl : Env → Res (List D)) : Env → Res Fl := fun env => (fl env).bind fun ds => .ok (.nx (env.set i (.ow ds)))
theorem stt_new {K : PySem.W.Frag} {σ : L2.St} {A H : Hp} {env : Env} {i : Nat} {p : Addr} {vs : List V} {ds : List D} (gd : Gd G P) (s : Stt K G P σ A H env) (hp : H p = none) (r : Reps K A vs ds) : Stt K G P (σ.set i (some (.ref p))) A (upd H p (.lst vs)) (env.set i (.ow ds)) := by
  have hA : A p = none := Same.free s.er.sub hp
  have g : Grow A H A (upd H p (.lst vs)) := (Grow.refl s.er.sub).put hp hA
  refine ⟨(s.er.grow g).setO upd_same hA r fun j es e z => ?_, fun j es q e1 e2 => ?_, gd.grow s.g g⟩
  · obtain ⟨q, ws, h1, h2, _⟩ := s.er.ow j es e
    rw [z] at h1
    cases h1
    rw [hp] at h2
    cases h2
  · rcases set_some e1 with ⟨rfl, z⟩ | ⟨hj, z⟩
    · rcases set_some e2 with ⟨_, w⟩ | ⟨hi, _⟩
      · cases w
        exact gd.fresh s.g hp
      · exact absurd rfl hi
    · rw [List.getElem?_set_ne hj] at e2
      exact s.ow j es q z e2
theorem sd_setO (gd : Gd G P) {i n : Nat} {x : Str} {es : List Expr} {pos' lpos : Pos} (hN : X.N.Nodup) (ha : PA X es (tDs X.K W fl)) (hn : ArgN n fl) (hz : n ≤ sizeLine := by decide) (hi : X.N[i]? = some x := by rfl) (hx : Loc X.env.scope x := by first | exact Or.inl rfl | exact Or.inr rfl) (hs : swapsWith (.List es lpos) (some (.Name x pos')) pos.line X.env = pure false := by rfl) (hf : X.fn x = true ∨ X.env.scope.names.lookup x = some .local := by first | exact .inl rfl | exact .inr rfl | assumption) :
    PS X (.Assign [.Name x pos'] (.List es lpos) pos) (tS X.K W G P (sAsgO i fl)) := PS.imp (ps_set hN hi hx (pe_lst ha) hs hf) fun Dd σ H h => by
  obtain ⟨A, env, s, k⟩ := h
  have hl := hn env
  refine ⟨A, env, s.er, ?_⟩
  unfold sAsgO at k
  cases e : fl env with
  | no => rw [e] at k; exact k
  | ex C => rw [e] at k; exact fun A' H' g => k σ A' H' (gd.grow s.g g)
  | ok ds =>
    rw [e] at k
    intro xs A' H' g r
    refine ⟨by rw [r.length]; exact Nat.le_trans (hl ds e) hz, fun p hp => ?_⟩
    exact k _ A' _ (stt_new gd (s.grow gd g) hp r)
/-- a, b = [..], [..]: two of one's own -/
def sParO (i j : Nat) (f1 f2 : Env → Res (List D)) : Env → Res Fl := fun env => (f1 env).bind fun a => (f2 env).bind fun b => .ok (.nx ((env.set i (.ow a)).set j (.ow b)))
theorem sd_parO (gd : Gd G P) {i j n m : Nat} {x y : Str} {es fs : List Expr} {p1 p2 : Pos} {f1 f2 : Env → Res (List D)} {kt k2 pt2} (hc : X.calm = true) (hN : X.N.Nodup) (ha : PA X es (tDs X.K W f1)) (hb : PA X fs (tDs X.K W f2)) (hn : ArgN n f1) (hm : ArgN m f2) (hz : n ≤ sizeLine := by decide) (hz2 : m ≤ sizeLine := by decide)
    (hi : X.N[i]? = some x := by rfl) (hj : X.N[j]? = some y := by rfl) (hij : i ≠ j := by decide)
    (hx : X.env.scope.names.lookup x = some .local := by rfl) (hy : X.env.scope.names.lookup y = some .local := by rfl)
    (he : starEach [.List es p1, .List fs p2] X.env = (false, eval (.List es p1) X.env) :: starEach [.List fs p2] X.env := by rfl) (he2 : starEach [.List fs p2] X.env = (false, eval (.List fs p2) X.env) :: starEach [] X.env := by rfl)
    (hw : swappedStores [.Tuple [.Name x px, .Name y py] kt pt] (.Tuple [.List es p1, .List fs p2] k2 pt2) X.env = pure (some [x, y]) := by rfl)
    (hs : swapsWithSole [.Tuple [.Name x px, .Name y py] kt pt] (.Tuple [.List es p1, .List fs p2] k2 pt2) pos.line X.env = pure false := by rfl) :
    PS X (.Assign [.Tuple [.Name x px, .Name y py] kt pt] (.Tuple [.List es p1, .List fs p2] k2 pt2) pos) (tS X.K W G P (sParO i j f1 f2)) :=
  PS.imp (ps_par hc hN hi hj hij hx hy (pa_cons (pe_lst ha) (pa_cons (pe_lst hb) pa_nil he2) he) hw hs) fun Dd σ H h => by
  obtain ⟨A, env, s, k⟩ := h
  have hl1 := hn env
  have hl2 := hm env
  refine ⟨A, env, s.er, ?_⟩
  unfold sParO at k
  cases e1 : f1 env with
  | no => rw [e1] at k; exact k
  | ex C => rw [e1] at k; exact fun A' H' g => k σ A' H' (gd.grow s.g g)
  | ok a =>
    rw [e1, Res.bind_ok] at k
    intro xs A' H' g r
    refine ⟨by rw [r.length]; exact Nat.le_trans (hl1 a e1) hz, fun p hp => ?_⟩
    have s1 := s.grow gd g
    have hA : A' p = none := Same.free s1.er.sub hp
    have gp : Grow A' H' A' (upd H' p (.lst xs)) := (Grow.refl s1.er.sub).put hp hA
    have s2 := s1.grow gd gp
    refine ⟨A', env, s2.er, ?_⟩
    cases e2 : f2 env with
    | no => rw [e2] at k; exact k
    | ex C => rw [e2] at k; exact fun A' H' g => k σ A' H' (gd.grow s2.g g)
    | ok b =>
      rw [e2, Res.bind_ok] at k
      intro ys A3 H3 g3 r3
      refine ⟨by rw [r3.length]; exact Nat.le_trans (hl2 b e2) hz2, fun q hq => ⟨_, _, rfl, ?_⟩⟩
      have s3 := s2.grow gd g3
      have hp3 : H3 p = some (.lst xs) := g3.s _ _ upd_same
      have ha3 : A3 p = none := g3.fr p (by rw [upd_same]; exact fun z => nomatch z) hA
      have pne : p ≠ q := ne_of_none hp3 hq
      have st4 : Stt X.K G P (σ.set i (some (.ref p))) A3 H3 (env.set i (.ow a)) := by
        refine ⟨s3.er.setO hp3 ha3 (r.mono (gp.trans g3).s0) fun j es e z => ?_, fun j es q' e1 e2 => ?_, s3.g⟩
        · obtain ⟨q', ws, h1, h2, h3, _⟩ := s1.er.ow j es e
          rw [z] at h1
          cases h1
          rw [hp] at h2
          cases h2
        · rcases set_some e1 with ⟨rfl, z⟩ | ⟨hj, z⟩
          · rcases set_some e2 with ⟨_, w⟩ | ⟨hi, _⟩
            · cases w
              exact gd.fresh s1.g hp
            · exact absurd rfl hi
          · rw [List.getElem?_set_ne hj] at e2
            exact s.ow j es q' z e2
      exact k _ A3 _ (stt_new gd st4 hq r3)
/-- xs.append(e), xs one's own -/
def sApp (i : Nat) (fa : Env → Res D) : Env → Res Fl := fun env => match env[i]? with
  | some (.ow ds) => if ds.length < 1000000 then (fa env).bind fun d => .ok (.nx (env.set i (.ow (ds ++ [d])))) else .no
  | _ => .no
theorem sd_app (gd : Gd G P) (i : Nat) {x : Str} {xp apos cpos : Pos} (he : PE X e (tD X.K W fa)) (hi : X.N[i]? = some x := by rfl) (hv : Vis X.env.scope x := by first | exact Or.inl rfl | exact Or.inr (Or.inl rfl) | exact Or.inr (Or.inr rfl))
    (hse : starEach [e] X.env = (false, eval e X.env) :: starEach [] X.env := by rfl)
    (hbase : attributeBase (.Name x xp) "append" X.env (eval (.Name x xp) X.env) = eval (.Name x xp) X.env := by rfl)
    (hfew : ((backTo cpos (starEach [e] X.env)).all (fun x => !x.1) && (backToKw cpos (keywordEach [] X.env)).all (fun x => x.1.isSome)
      && decide (([e] : List Expr).length + ([] : List Keyword).length + (if ([] : List Keyword).isEmpty then 0 else 1) < 30)) = true := by rfl)
    (hline : (apos.endLine == cpos.line) = true := by rfl) (hplain : (backTo cpos (starEach ([] : List Expr) X.env)).any (·.1) = false := by rfl)
    (hsw : swapsWith (.Call (.Attribute (.Name x xp) "append" apos) [e] [] cpos) none pos.line X.env = pure false := by rfl)
    (hd : (x == ("__debug__" : Str)) = false := by decide) (hcd : (x == ("__classdict__" : Str)) = false := by decide) :
    PS X (.Expr (.Call (.Attribute (.Name x xp) "append" apos) [e] [] cpos) pos) (tS X.K W G P (sApp i fa)) :=
  PS.imp (ps_expr (pe_bm PySem.F.plainAttrs_list PySem.F.slot_list_append PySem.F.type_list_append mt_append (pe_var hi hv hd hcd) (pa_cons he pa_nil hse) hbase hfew hline hse hplain) hsw) fun Dd σ H h => by
  obtain ⟨A, env, s, k⟩ := h
  unfold sApp at k
  cases e1 : env[i]? with
  | none => rw [e1] at k; exact k.elim
  | some sl =>
    cases sl with
    | no => rw [e1] at k; exact k.elim
    | sh d => rw [e1] at k; exact k.elim
    | ow ds =>
      rw [e1] at k
      have k : KS X.K W G P Dd (if ds.length < 1000000 then (fa env).bind fun d => .ok (.nx (env.set i (.ow (ds ++ [d])))) else .no) := k
      by_cases hl : ds.length < 1000000
      · rw [if_pos hl] at k
        obtain ⟨p, vs, h1, h2, h3, h4⟩ := s.er.ow i ds e1
        refine ⟨.ref p, h1, .inl ⟨rfl, vs, SqL.of h2⟩, ?_⟩
        refine ks_seq (Q := fun x H' => ∃ l xs y, V.ref p = .ref l ∧ [x] = [y] ∧ H' l = some (.lst xs) ∧ xs.length < sizeLine ∧ Dd.nx σ (upd H' l (.lst (xs ++ [y])))) gd s k fun x d A' H' s' r k' => ?_
        obtain ⟨q, ws, g1, g2, g3, g4⟩ := s'.er.ow i ds e1
        rw [h1] at g1
        cases g1
        refine ⟨p, ws, x, rfl, rfl, g2, by rw [g4.length]; exact sz_lt hl, k' σ A' _ ⟨s'.er.put e1 h1 (g4.append (.cons r .nil)), fun j es q e2 e3 => ?_, gd.put s'.g g3 (s'.ow i ds p e1 h1)⟩⟩
        rcases set_some e2 with ⟨rfl, z⟩ | ⟨hj, z⟩
        · rw [h1] at e3
          cases e3
          exact s'.ow i ds p e1 h1
        · exact s'.ow j es q z e3
      · rw [if_neg hl] at k
        exact k.elim
/-! ### one's own list as a value that is only looked at -/
def viewS : Sl → Sl
  | .ow ds => .sh (.lst ds)
  | s => s
def view (env : Env) : Env := env.map viewS
def isSc : D → Bool
  | .non => true | .bl _ => true | .int _ => true | .str _ => true
  | _ => false
def eView (fa : Env → Res D) : Env → Res D := fun env => match fa (view env) with
  | .ok d => if isSc d = true then .ok d else .no
  | _ => .no
theorem view_er {K : PySem.W.Frag} {σ : L2.St} {A H : Hp} {env : Env} (r : ER K σ A H env) : ∃ A', Same A A' ∧ ER K σ A' H (view env) := by
  classical
  refine ⟨fun a => if (∃ (i : Nat) (ds : List D), env[i]? = some (Sl.ow ds) ∧ σ[i]? = some (some (V.ref a))) then H a else A a, fun a o e => ?_, ?_⟩
  · by_cases c : ∃ (i : Nat) (ds : List D), env[i]? = some (Sl.ow ds) ∧ σ[i]? = some (some (V.ref a))
    · obtain ⟨i, ds, h1, h2⟩ := c
      obtain ⟨p, vs, g1, g2, g3, g4⟩ := r.ow i ds h1
      rw [h2] at g1
      cases g1
      rw [g3] at e
      cases e
    · show (if _ then _ else _) = _
      rw [if_neg c]
      exact e
  · have sm : Same A (fun a => if (∃ (i : Nat) (ds : List D), env[i]? = some (Sl.ow ds) ∧ σ[i]? = some (some (V.ref a))) then H a else A a) := fun a o e => by
      by_cases c : ∃ (i : Nat) (ds : List D), env[i]? = some (Sl.ow ds) ∧ σ[i]? = some (some (V.ref a))
      · obtain ⟨i, ds, h1, h2⟩ := c
        obtain ⟨p, vs, g1, g2, g3, g4⟩ := r.ow i ds h1
        rw [h2] at g1
        cases g1
        rw [g3] at e
        cases e
      · show (if _ then _ else _) = _
        rw [if_neg c]
        exact e
    have old : ∀ (i : Nat) (s : Sl), (view env)[i]? = some s → ∃ t, env[i]? = some t ∧ s = viewS t := fun i s e => by
      unfold view at e
      rw [List.getElem?_map] at e
      cases h : env[i]? with
      | none => rw [h] at e; cases e
      | some t =>
        rw [h] at e
        cases e
        exact ⟨t, rfl, rfl⟩
    refine ⟨fun a o e => ?_, by unfold view; rw [List.length_map, r.len], fun i d e => ?_, fun i ds e => ?_, fun i j ds es p e1 e2 => ?_⟩
    · by_cases c : ∃ (i : Nat) (ds : List D), env[i]? = some (Sl.ow ds) ∧ σ[i]? = some (some (V.ref a))
      · simp only [if_pos c] at e
        exact e
      · simp only [if_neg c] at e
        exact r.sub a o e
    · obtain ⟨t, h1, h2⟩ := old i _ e
      cases t with
      | no => cases h2
      | sh d' =>
        cases h2
        obtain ⟨v, g1, g2⟩ := r.sh i _ h1
        exact ⟨v, g1, g2.mono sm⟩
      | ow ds =>
        cases h2
        obtain ⟨p, vs, g1, g2, g3, g4⟩ := r.ow i ds h1
        refine ⟨_, g1, .lst (SqL.of ?_) (g4.mono sm)⟩
        show (if _ then _ else _) = _
        rw [if_pos ⟨i, ds, h1, g1⟩]
        exact g2
    · obtain ⟨t, h1, h2⟩ := old i _ e
      cases t <;> cases h2
    · obtain ⟨t, h1, h2⟩ := old i _ e1
      cases t <;> cases h2
theorem pd_view {fa : Env → Res D} (h : PE X e (tD X.K W fa)) : PE X e (tD X.K W (eView fa)) := PE.imp h fun σ H Q h => by
  obtain ⟨A, env, er, k⟩ := h
  obtain ⟨A', sm, er'⟩ := view_er er
  refine ⟨A', view env, er', ?_⟩
  unfold eView at k
  cases e : fa (view env) with
  | no => rw [e] at k; exact k.elim
  | ex C => rw [e] at k; exact k.elim
  | ok d =>
    rw [e] at k
    have k : Kt (rD X.K) W σ A H (if isSc d = true then .ok d else .no) Q := k
    by_cases c : isSc d = true
    · rw [if_pos c] at k
      intro v B H' g r
      refine k v A H' (Grow.keep er.sub g.s) ?_
      cases d with
      | non => cases r; exact .non
      | bl b => cases r; exact .bl b
      | int b => cases r; exact .int b
      | str b => cases r; exact .str b
      | _ => exact absurd (show false = true from c) Bool.false_ne_true
    · rw [if_neg c] at k
      exact k.elim
end
/-! ## a def by its body -/
def envOf (n : Nat) (ds : List D) : Env := ds.map Sl.sh ++ List.replicate (n - ds.length) .no
def fin : Res Fl → Res D
  | .ok (.nx _) => .ok .non
  | .ok (.rt d) => .ok d
  | .ex C => .ex C
  | _ => .no
def run (n : Nat) (g : Env → Res Fl) (ds : List D) : Res D := fin (g (envOf n ds))
theorem er_start {K : PySem.W.Frag} {N : List Str} {vs : List V} {ds : List D} {A H : Hp} (s : Same A H) (r : Reps K A vs ds) : ER K (L2.start N vs) A H (envOf N.length ds) := by
  have hl := r.length
  have key : ∀ (i : Nat) (sl : Sl), (envOf N.length ds)[i]? = some sl → sl = .no ∨ ∃ d, ds[i]? = some d ∧ sl = .sh d := fun i sl e => by
    unfold envOf at e
    by_cases hi : i < ds.length
    · rw [List.getElem?_append_left (by simpa using hi), List.getElem?_map, List.getElem?_eq_getElem hi] at e
      cases e
      exact .inr ⟨_, List.getElem?_eq_getElem hi, rfl⟩
    · rw [List.getElem?_append_right (by simpa using hi), List.getElem?_replicate] at e
      split at e
      · cases e
        exact .inl rfl
      · cases e
  refine ⟨s, ?_, fun i d e => ?_, fun i es e => ?_, fun i j es fs p e => ?_⟩
  · unfold envOf L2.start
    rw [List.length_append, List.length_append, List.length_map, List.length_map, List.length_replicate, List.length_replicate, hl]
  · rcases key i _ e with z | ⟨d', h1, h2⟩
    · cases z
    · cases h2
      obtain ⟨v, g1, g2⟩ := r.get h1
      refine ⟨v, ?_, g2⟩
      unfold L2.start
      have hi : i < vs.length := by
        rw [hl]
        exact (List.getElem?_eq_some_iff.mp h1).1
      rw [List.getElem?_append_left (by simpa using hi), List.getElem?_map, g1]
      rfl
  · rcases key i _ e with z | ⟨d', h1, h2⟩
    · cases z
    · cases h2
  · rcases key i _ e with z | ⟨d', h1, h2⟩
    · cases z
    · cases h2
theorem gd_entry (A0 H0 : Hp) : Gd (fun A H => Grow A0 H0 A H) (fun p => H0 p = none) where
  grow := fun h g => h.trans g
  put := fun h ha hp => h.put hp ha
  know := fun h ha hb hp => h.know hp ha hb
  fresh := fun h hp => Same.free h.s hp
section
variable {P : Program} {w : World} {K : PySem.W.Frag} {mg : Str → Option Value} {base : Heap} {x qual : Str} {params : Arguments} {body : List Stmt} {scope : Scope} {f : Addr} {fd : FuncData} {dvs : List V} {kws : List (Str × V)}
/-- THE RULE: the def's promise is its body's function -/
theorem fn_dt {N ps : List Str} {k : Nat} {g : Env → Res Fl} (F : L2.FunD K x qual params body scope dvs kws f fd) (S : FnScope N ps scope)
    (hb : ∀ (cdv : Value) (A : Around) (outer : List PySem.Env) (s : Shared) (H : Hp) (E : XK) (G : Hp → Hp → Prop) (P' : Addr → Prop), Room k (A.deeper (envOfC qual scope s.heap.objs.size f cdv)) → Gd G P' →
      PSs (cxOf (L2.CX P w) P w K mg base N qual scope f cdv A outer s H E) body (tS K (fun c d _ H => E c d H) G P' g)) : FnOk P w K mg base (L2.CX P w) (k + 1) f fd ps (spD K ps.length (run N.length g)) := by
  refine F.ok S (spD_len rfl) fun cdv A outer s H vs Q E hr h => ?_
  obtain ⟨H0, ds, sm, r, hl, kk⟩ := h
  refine ⟨_, hb cdv A outer s H E _ _ hr (gd_entry H0 H), H0, envOf N.length ds, ⟨er_start sm r, fun i es p e => ?_, Grow.refl sm⟩, ?_⟩
  · exfalso
    have er := er_start (N := N) sm r
    obtain ⟨q, ws, h1, h2, h3, h4⟩ := er.ow i es e
    unfold envOf at e
    by_cases hi : i < ds.length
    · rw [List.getElem?_append_left (by simpa using hi), List.getElem?_map, List.getElem?_eq_getElem hi] at e
      cases e
    · rw [List.getElem?_append_right (by simpa using hi), List.getElem?_replicate] at e
      split at e <;> cases e
  · unfold run at kk
    cases e : g (envOf N.length ds) with
    | no => rw [e] at kk; exact kk
    | ex C =>
      rw [e] at kk
      exact fun σ A B g => kk A B g
    | ok fl =>
      rw [e] at kk
      cases fl with
      | nx env => exact fun σ A B s => kk .non A B s.g .non
      | rt d => exact fun v A B g r => kk v A B g r
      | bk env => exact kk.elim
      | ct env => exact kk.elim
end
/-! ## the law's own def: nothing leaves it -/
def fin0 : Res Fl → Res D
  | .ok (.nx _) => .ok .non
  | .ok (.rt d) => .ok d
  | _ => .no
def run0 (n : Nat) (g : Env → Res Fl) (ds : List D) : Res D := fin0 (g (envOf n ds))
section
variable {P : Program} {w : World} {K : PySem.W.Frag} {mg : Str → Option Value} {base : Heap} {x qual : Str} {params : Arguments} {body : List Stmt} {scope : Scope} {f : Addr} {fd : FuncData} {dvs : List V} {kws : List (Str × V)}
theorem fn_dt0 {N ps : List Str} {k : Nat} {g : Env → Res Fl} (F : L2.FunD K x qual params body scope dvs kws f fd) (S : FnScope N ps scope)
    (hb : ∀ (cdv : Value) (A : Around) (outer : List PySem.Env) (s : Shared) (H : Hp) (E : XK) (G : Hp → Hp → Prop) (P' : Addr → Prop), Room k (A.deeper (envOfC qual scope s.heap.objs.size f cdv)) → Gd G P' →
      PSs (cxOf CX0 P w K mg base N qual scope f cdv A outer s H E).nox body (tS K W0 G P' g)) : FnOk P w K mg base CX0 (k + 1) f fd ps (spD K ps.length (run0 N.length g)) := by
  refine F.ok S (spD_len rfl) fun cdv A outer s H vs Q E hr h => ?_
  obtain ⟨H0, ds, sm, r, hl, kk⟩ := h
  refine ⟨_, (hb cdv A outer s H E _ _ hr (gd_entry H0 H)).nox, H0, envOf N.length ds, ⟨er_start sm r, fun i es p e => ?_, Grow.refl sm⟩, ?_⟩
  · exfalso
    unfold envOf at e
    by_cases hi : i < ds.length
    · rw [List.getElem?_append_left (by simpa using hi), List.getElem?_map, List.getElem?_eq_getElem hi] at e
      cases e
    · rw [List.getElem?_append_right (by simpa using hi), List.getElem?_replicate] at e
      split at e <;> cases e
  · unfold run0 at kk
    cases e : g (envOf N.length ds) with
    | no => rw [e] at kk; exact kk
    | ex C => rw [e] at kk; exact kk.elim
    | ok fl =>
      rw [e] at kk
      cases fl with
      | nx env => exact fun σ A B s => kk .non A B s.g .non
      | rt d => exact fun v A B g r => kk v A B g r
      | bk env => exact kk.elim
      | ct env => exact kk.elim
end
end Dt
namespace Dt
open PySem PySem.Spec PyProof.Rows L2
/-- a measure: the int that stands in a slot -/
def fuel (i : Nat) (env : Env) : Nat := match env[i]? with
  | some (.sh (.int n)) => n.toNat + 1
  | _ => 0
/-! ## a def as it is held, called by name -/
def Held (P : Program) (w : World) (K : PySem.W.Frag) (mg : Str → Option Value) (base : Heap) (k : Nat) (f : Addr) (ps : List Str) (φ : List D → Res D) : Prop :=
  ∃ fd, FnOk P w K mg base (L2.CX P w) k f fd ps (spD K ps.length φ) ∧ Binds K fd ps [] ∧ PySem.W.keepIn K (.ref f) = true
section
variable {X : Cx} {W : WX} {k j : Nat} {f : Addr} {ps : List Str} {φ : List D → Res D} {x : Str} {p pos : Pos} {e : Expr} {es : List Expr} {fl : Env → Res (List D)}
theorem pd_callH (F : Held X.prog X.w X.K X.mg X.base k f ps φ) (hr : Room k X.A) (tk : Takes X W) (hg : Gl X x) (hm : X.mg x = some (.ref f))
    (ha : PA X (e :: es) (tDs X.K W fl)) (hn : ArgE ps.length fl) (hdb : (x == ("__debug__" : Str)) = false := by decide) (he : starEach (e :: es) X.env = (false, eval e X.env) :: starEach es X.env := by rfl) (hpl : (backTo pos (starEach es X.env)).any (·.1) = false := by rfl) :
    PE X (.Call (.Name x p) (e :: es) [] pos) (tD X.K W (eCall φ fl)) := by
  obtain ⟨fd, F, b, kp⟩ := F
  exact pd_call F hr tk hg hm kp b ha hn hdb he hpl
end
/-! ## the module's constants -/
theorem pd_globI {X : Cx} {W : WX} {x : Str} {i : Int} {pos : Pos} (hg : Gl X x) (h : ∃ t, X.mg x = some (.int i t)) (hd : (x == ("__debug__" : Str)) = false := by decide) : PE X (.Name x pos) (tD X.K W (eC (.int i))) := by
  obtain ⟨t, h⟩ := h
  exact pd_glob hg h (v := .int i) ⟨t, rfl⟩ (fun _ => .int i) hd
theorem pd_globS {X : Cx} {W : WX} {x z : Str} {pos : Pos} (hg : Gl X x) (h : ∃ t, X.mg x = some (.str z t)) (hd : (x == ("__debug__" : Str)) = false := by decide) : PE X (.Name x pos) (tD X.K W (eC (.str z))) := by
  obtain ⟨t, h⟩ := h
  exact pd_glob hg h (v := .str z) ⟨t, rfl⟩ (fun _ => .str z) hd
/-! ## the head: facts of one's own -/
open He
def obsX (fs : List (PySem.W.Frag → Bool)) (fn : List DefD) (K : PySem.W.Frag) : AlD := ((fs.all fun f => f K) && fn.all fun d => d.ok K, fn.map fun d => fnW K d.at_)
def SaysX (fs : List (PySem.W.Frag → Bool)) (fn : List DefD) (K : PySem.W.Frag) : Prop := obsX fs fn K = valD fn
def obsXG (n : Nat) (fs : List (PySem.W.Frag → Bool)) (fn : List DefD) (g : Addr → Option Obj) : AlD := obsX fs fn (frG g (asD g n))
def hookX (n : Nat) (fs : List (PySem.W.Frag → Bool)) (fn : List DefD) : PySem.W.Hook where
  α := AlD
  obs := fun s => obsXG n fs fn s.heap.get?
  val := fun _ => valD fn
  says := fun _ h => ∃ K : PySem.W.Frag, K.In h ∧ SaysX fs fn K
  of := fun _ _ e => ⟨_, frG_in, e⟩
  keeps := fun _ _ _ ⟨K, hK, c⟩ k => ⟨K, PySem.W.Frag.In.keeps hK k, c⟩
theorem obsXG_eq {n : Nat} {fs : List (PySem.W.Frag → Bool)} {fn : List DefD} {g : Addr → Option Obj} {s : Shared} (h : ∀ a, g a = s.heap.get? a) : obsXG n fs fn g = (hookX n fs fn).obs s := by
  have e : g = s.heap.get? := funext h
  rw [e] <;> rfl
section
variable {fs : List (PySem.W.Frag → Bool)} {fn : List DefD} {K : PySem.W.Frag}
theorem SaysX.fact (c : SaysX fs fn K) (i : Nat) {f : PySem.W.Frag → Bool} (h : fs[i]? = some f := by rfl) : f K = true := by
  have c1 := (ba (show ((fs.all fun f => f K) && fn.all fun d => d.ok K) = true from congrArg (fun z : AlD => z.1) c)).1
  exact List.all_eq_true.mp c1 f (List.mem_of_getElem? h)
theorem SaysX.def_ (c : SaysX fs fn K) (i : Nat) {d : DefD} (h : fn[i]? = some d := by rfl) : ∃ fd, FunD K d.name d.qual d.params d.body d.scope (d.dvs K) (d.kws K) (fAd K d.at_) fd := by
  have c2 := (ba (show ((fs.all fun f => f K) && fn.all fun d => d.ok K) = true from congrArg (fun z : AlD => z.1) c)).2
  have e : fn.map (fun d => fnW K d.at_) = fn.map DefD.val := congrArg (fun z : AlD => z.2) c
  have e2 : (fn.map fun d => fnW K d.at_)[i]? = (fn.map DefD.val)[i]? := by rw [e]
  rw [List.getElem?_map, List.getElem?_map, h] at e2
  exact DefD.funD (Option.some.inj e2) (List.all_eq_true.mp c2 d (List.mem_of_getElem? h))
end
/-! ## the law's end -/
/-- the law's promise: what it gives is true -/
theorem law_sp {K : PySem.W.Frag} {φ : List D → Res D} {H : Hp} {a : Addr} {ns : List Int} (h : φ [.lst (ns.map D.int)] = .ok (.bl true)) (hS : SqL K H a (ns.map V.int)) :
    spD K 1 φ [.ref a] H (fun v _ => v = .bl true) fun _ _ _ => False := by
  refine ⟨H, [.lst (ns.map D.int)], Same.refl H, .cons (.lst hS Reps.of_ints) .nil, rfl, ?_⟩
  rw [h]
  intro v A B g r
  cases r
  rfl
theorem law_cx {P : Program} {w : World} (H : Hp) (s : Shared) (e : Value) (s' : Shared) (h : L2.CX P w [] H s (fun _ _ _ => False) e s') : False := by
  obtain ⟨_, _, _, _, _, _, _, _, _, _, _, _, z⟩ := h
  exact z.elim
end Dt
namespace Dt
open PySem PySem.Spec PyProof.Rows L2
/-! ## plain lemmas -/
section
variable {K : PySem.W.Frag}
theorem kit_int_int : PySem.W.kitOne K (.type "int") (.type "int") = some true := kit_ty (by decide +kernel)
theorem kit_int_bool : PySem.W.kitOne K (.type "int") (.type "bool") = some false := kit_ty (by decide +kernel)
theorem kit_int_tuple : PySem.W.kitOne K (.type "int") (.type "tuple") = some false := kit_ty (by decide +kernel)
theorem kit_int_list : PySem.W.kitOne K (.type "int") (.type "list") = some false := kit_ty (by decide +kernel)
theorem kit_int_str : PySem.W.kitOne K (.type "int") (.type "str") = some false := kit_ty (by decide +kernel)
theorem kit_bool_int : PySem.W.kitOne K (.type "bool") (.type "int") = some true := kit_ty (by decide +kernel)
theorem kit_bool_bool : PySem.W.kitOne K (.type "bool") (.type "bool") = some true := kit_ty (by decide +kernel)
theorem kit_bool_tuple : PySem.W.kitOne K (.type "bool") (.type "tuple") = some false := kit_ty (by decide +kernel)
theorem kit_bool_list : PySem.W.kitOne K (.type "bool") (.type "list") = some false := kit_ty (by decide +kernel)
theorem kit_bool_str : PySem.W.kitOne K (.type "bool") (.type "str") = some false := kit_ty (by decide +kernel)
theorem kit_non_int : PySem.W.kitOne K (.type "NoneType") (.type "int") = some false := kit_ty (by decide +kernel)
theorem kit_non_bool : PySem.W.kitOne K (.type "NoneType") (.type "bool") = some false := kit_ty (by decide +kernel)
theorem kit_non_tuple : PySem.W.kitOne K (.type "NoneType") (.type "tuple") = some false := kit_ty (by decide +kernel)
theorem kit_non_list : PySem.W.kitOne K (.type "NoneType") (.type "list") = some false := kit_ty (by decide +kernel)
theorem kit_non_str : PySem.W.kitOne K (.type "NoneType") (.type "str") = some false := kit_ty (by decide +kernel)
theorem kit_tuple_int : PySem.W.kitOne K (.type "tuple") (.type "int") = some false := kit_ty (by decide +kernel)
theorem kit_tuple_bool : PySem.W.kitOne K (.type "tuple") (.type "bool") = some false := kit_ty (by decide +kernel)
theorem kit_tuple_tuple : PySem.W.kitOne K (.type "tuple") (.type "tuple") = some true := kit_ty (by decide +kernel)
theorem kit_tuple_list : PySem.W.kitOne K (.type "tuple") (.type "list") = some false := kit_ty (by decide +kernel)
theorem kit_tuple_str : PySem.W.kitOne K (.type "tuple") (.type "str") = some false := kit_ty (by decide +kernel)
theorem kit_list_int : PySem.W.kitOne K (.type "list") (.type "int") = some false := kit_ty (by decide +kernel)
theorem kit_list_bool : PySem.W.kitOne K (.type "list") (.type "bool") = some false := kit_ty (by decide +kernel)
theorem kit_list_tuple : PySem.W.kitOne K (.type "list") (.type "tuple") = some false := kit_ty (by decide +kernel)
theorem kit_list_list : PySem.W.kitOne K (.type "list") (.type "list") = some true := kit_ty (by decide +kernel)
theorem kit_list_str : PySem.W.kitOne K (.type "list") (.type "str") = some false := kit_ty (by decide +kernel)
theorem kit_str_int : PySem.W.kitOne K (.type "str") (.type "int") = some false := kit_ty (by decide +kernel)
theorem kit_str_bool : PySem.W.kitOne K (.type "str") (.type "bool") = some false := kit_ty (by decide +kernel)
theorem kit_str_tuple : PySem.W.kitOne K (.type "str") (.type "tuple") = some false := kit_ty (by decide +kernel)
theorem kit_str_list : PySem.W.kitOne K (.type "str") (.type "list") = some false := kit_ty (by decide +kernel)
theorem kit_str_str : PySem.W.kitOne K (.type "str") (.type "str") = some true := kit_ty (by decide +kernel)
theorem kit_dict_int : PySem.W.kitOne K (.type "dict") (.type "int") = some false := kit_ty (by decide +kernel)
theorem kit_dict_bool : PySem.W.kitOne K (.type "dict") (.type "bool") = some false := kit_ty (by decide +kernel)
theorem kit_dict_tuple : PySem.W.kitOne K (.type "dict") (.type "tuple") = some false := kit_ty (by decide +kernel)
theorem kit_dict_list : PySem.W.kitOne K (.type "dict") (.type "list") = some false := kit_ty (by decide +kernel)
theorem kit_dict_str : PySem.W.kitOne K (.type "dict") (.type "str") = some false := kit_ty (by decide +kernel)
end
/-- small numbers -/
def Sm (i : Int) : Prop := i.natAbs < 2 ^ 250
theorem lim_of {i : Int} {n : Nat} (h : i.natAbs < 2 ^ n) (hn : n ≤ 9000) : i.natAbs < lim := by
  unfold lim
  exact Nat.lt_of_lt_of_le h (Nat.pow_le_pow_right (by decide) hn)
theorem mulOk_sm {i j : Int} (h : Sm i) (h' : Sm j) : mulOk i j = true := by
  unfold mulOk
  rw [decide_eq_true (lim_of h (by decide)), decide_eq_true (lim_of h' (by decide))]
  simp
theorem sm_lim {i : Int} (h : Sm i) : i.natAbs < lim := lim_of h (by decide)
theorem sm_small {i : Int} (h : i.natAbs < 2 ^ 60) : Sm i := Nat.lt_of_lt_of_le h (Nat.pow_le_pow_right (by decide) (by decide))
theorem sm_of_le {i j : Int} (h : i.natAbs ≤ j.natAbs) (hj : Sm j) : Sm i := Nat.lt_of_le_of_lt h hj
theorem Sm.div {i j : Int} (h : Sm i) (h0 : 0 ≤ i) (hj : 0 ≤ j) : Sm (i / j) := sm_of_le (by
  have h1 := Int.ediv_nonneg h0 hj
  have h2 : i / j ≤ i := Int.ediv_le_self j h0
  omega) h
/-! ### comprehensions -/
section
variable {bt : Bt} {ft : Env → Res Bool} {fe : Env → Res D} {env : Env}
theorem compS_of {α : Type} (xs : List α) (enc out : α → D) (H : ∀ x ∈ xs, ∃ e1, bt (enc x) env = .ok e1 ∧ fe e1 = .ok (out x)) : compS bt bYes fe env (xs.map enc) = .ok (xs.map out) := by
  induction xs with
  | nil => rfl
  | cons x xs ih =>
    obtain ⟨e1, h1, h2⟩ := H x List.mem_cons_self
    have ih := ih fun y hy => H y (List.mem_cons_of_mem _ hy)
    show (bt (enc x) env).bind _ = _
    rw [h1]
    show (fe e1).bind (fun y => (compS bt bYes fe env (xs.map enc)).bind fun r => .ok (y :: r)) = _
    rw [h2, ih]
    rfl
theorem compS_filter {α : Type} (xs : List α) (enc out : α → D) (p : α → Bool) (H : ∀ x ∈ xs, ∃ e1, bt (enc x) env = .ok e1 ∧ ft e1 = .ok (p x) ∧ (p x = true → fe e1 = .ok (out x))) : compS bt ft fe env (xs.map enc) = .ok ((xs.filter p).map out) := by
  induction xs with
  | nil => rfl
  | cons x xs ih =>
    obtain ⟨e1, h1, h2, h3⟩ := H x List.mem_cons_self
    have ih := ih fun y hy => H y (List.mem_cons_of_mem _ hy)
    show (bt (enc x) env).bind _ = _
    rw [h1]
    show (ft e1).bind _ = _
    rw [h2]
    cases e : p x with
    | false =>
      show compS bt ft fe env (xs.map enc) = _
      rw [ih, List.filter_cons, e]
      rfl
    | true =>
      show (fe e1).bind (fun y => (compS bt ft fe env (xs.map enc)).bind fun r => .ok (y :: r)) = _
      rw [h3 e, ih, List.filter_cons, e]
      rfl
end
theorem toBls_map' {α : Type} (p : α → Bool) : ∀ xs : List α, toBls (xs.map fun x => D.bl (p x)) = some (xs.map p)
  | [] => rfl
  | x :: xs => by
    show (toBls (xs.map fun x => D.bl (p x))).map (p x :: ·) = _
    rw [toBls_map' p xs]
    rfl
theorem toInts_map' {α : Type} (p : α → Int) : ∀ xs : List α, toInts (xs.map fun x => D.int (p x)) = some (xs.map p)
  | [] => rfl
  | x :: xs => by
    show (toInts (xs.map fun x => D.int (p x))).map (p x :: ·) = _
    rw [toInts_map' p xs]
    rfl
/-! ### a for over a list: an invariant of the slots -/
theorem forS_inv {α : Type} {bt : Bt} {gb : Env → Res Fl} (enc : α → D) (I : Nat → Env → Prop) : ∀ (xs : List α) (n : Nat) (env : Env), I n env →
    (∀ (i : Nat) (x : α) (env : Env), xs[i]? = some x → I (n + i) env → ∃ e1, bt (enc x) env = .ok e1 ∧ ∃ e2, gb e1 = .ok (.nx e2) ∧ I (n + i + 1) e2) → ∃ e, forS bt gb (xs.map enc) env = .ok (.nx e) ∧ I (n + xs.length) e
  | [], n, env, h, _ => ⟨env, rfl, h⟩
  | x :: xs, n, env, h, H => by
    obtain ⟨e1, h1, e2, h2, h3⟩ := H 0 x env rfl h
    obtain ⟨e, h4, h5⟩ := forS_inv enc I xs (n + 1) e2 h3 (fun i y env hy hi => by
      have := H (i + 1) y env hy (by rw [show n + (i + 1) = n + 1 + i by omega]; exact hi)
      rw [show n + (i + 1) + 1 = n + 1 + i + 1 by omega] at this
      exact this)
    refine ⟨e, ?_, by rw [List.length_cons, show n + (xs.length + 1) = n + 1 + xs.length by omega]; exact h5⟩
    show bOk (bt (enc x) env) _ = _
    rw [h1, bOk_ok, h2]
    exact h4
/-! ### tariffs, books -/
abbrev Tr := Int × Int
def tr (t : Tr) : D := .tup [.int t.1, .int t.2]
def bk (l : List Tr) : D := .lst (l.map tr)
def trP (t : Tr) : PyData := .tuple [.int t.1, .int t.2]
theorem toPy_tr (t : Tr) : toPy (tr t) = some (trP t) := rfl
theorem toPys_tr : ∀ l : List Tr, toPys (l.map tr) = some (l.map trP)
  | [] => rfl
  | t :: l => by
    show (match toPy (tr t), toPys (l.map tr) with | some a, some b => some (a :: b) | _, _ => none) = _
    rw [toPy_tr, toPys_tr l]
    rfl
theorem toPy_bk (l : List Tr) : toPy (bk l) = some (.list (l.map trP)) := by
  show (toPys (l.map tr)).map PyData.list = _
  rw [toPys_tr]
  rfl
theorem canLay_trs : ∀ l : List Tr, PyData.canLayAll0 (l.map trP) = true
  | [] => rfl
  | t :: l => by
    show ((trP t).canLay0 && PyData.canLayAll0 (l.map trP)) = true
    rw [canLay_trs l]
    rfl
theorem eqv_tr (t u : Tr) : PyData.eqv (trP t) (trP u) = decide (t = u) := by
  show (t.1 == u.1 && (t.2 == u.2 && true)) = _
  obtain ⟨a, b⟩ := t
  obtain ⟨c, d⟩ := u
  rw [Bool.eq_iff_iff]
  simp
theorem eqvAll_trs : ∀ l m : List Tr, PyData.eqvAll (l.map trP) (m.map trP) = decide (l = m)
  | [], [] => rfl
  | [], _ :: _ => rfl
  | _ :: _, [] => rfl
  | t :: l, u :: m => by
    show (PyData.eqv (trP t) (trP u) && PyData.eqvAll (l.map trP) (m.map trP)) = _
    rw [eqv_tr, eqvAll_trs l m, Bool.eq_iff_iff]
    simp
theorem depth_trs : ∀ l : List Tr, PyData.depthAll (l.map trP) ≤ 1
  | [] => Nat.zero_le _
  | t :: l => by
    show max (PyData.depth (trP t)) (PyData.depthAll (l.map trP)) ≤ 1
    have := depth_trs l
    have h : PyData.depth (trP t) = 1 := rfl
    omega
theorem shaped_bk (l : List Tr) : SeqAt.shaped (.list (l.map trP)) = true := by
  show (PyData.canLayAll0 (l.map trP) && decide (PyData.depthAll (l.map trP) + 1 ≤ 64)) = true
  rw [canLay_trs, decide_eq_true (by have := depth_trs l; omega)]
  rfl
theorem shaped_tr (t : Tr) : SeqAt.shaped (trP t) = true := rfl
theorem eqB_bk (l m : List Tr) : eqB (bk l) (bk m) = some (decide (l = m)) := by
  unfold eqB
  show (match scV (bk l), scV (bk m) with
  | some x, some y => if scal x y = true then some (decide (x = y)) else none
  | _, _ => match toPy (bk l), toPy (bk m) with
    | some x, some y => if (SeqAt.shaped x && SeqAt.shaped y) = true then some (PyData.eqv x y) else none
    | _, _ => none) = _
  rw [toPy_bk, toPy_bk]
  show (if (SeqAt.shaped (.list (l.map trP)) && SeqAt.shaped (.list (m.map trP))) = true then some (PyData.eqvAll (l.map trP) (m.map trP)) else none) = _
  rw [shaped_bk, shaped_bk, eqvAll_trs]
  rfl
theorem eqB_tr (t u : Tr) : eqB (tr t) (tr u) = some (decide (t = u)) := by
  show (if (SeqAt.shaped (trP t) && SeqAt.shaped (trP u)) = true then some (PyData.eqv (trP t) (trP u)) else none) = _
  rw [eqv_tr]
  rfl
theorem eqB_int (i j : Int) : eqB (.int i) (.int j) = some (decide (i = j)) := by
  show some (decide (V.int i = V.int j)) = _
  congr 1
  rw [Bool.eq_iff_iff]
  simp
theorem eqB_bl (i j : Bool) : eqB (.bl i) (.bl j) = some (decide (i = j)) := by
  show some (decide (V.bl i = V.bl j)) = _
  congr 1
  rw [Bool.eq_iff_iff]
  simp
/-! ### operations at ints -/
section
variable {i j : Int} {a b : D}
theorem ix0 : ixD (.tup [a, b]) (.int 0) = some a := rfl
theorem ix1 : ixD (.tup [a, b]) (.int 1) = some b := rfl
theorem len_tup2 : lenD [.tup [a, b]] = some (.int 2) := rfl
theorem eqD_int : eqD (.int i) (.int j) = some (.bl (decide (i = j))) := by unfold eqD; rw [eqB_int]; rfl
theorem neD_int : neD (.int i) (.int j) = some (.bl (!decide (i = j))) := by unfold neD; rw [eqB_int]; rfl
theorem addD_int : addD (.int i) (.int j) = some (.int (i + j)) := rfl
theorem subD_int : subD (.int i) (.int j) = some (.int (i - j)) := rfl
theorem ltD_int : ltD (.int i) (.int j) = some (.bl (decide (i < j))) := rfl
theorem leD_int : leD (.int i) (.int j) = some (.bl (decide (i ≤ j))) := rfl
theorem gtD_int : gtD (.int i) (.int j) = some (.bl (decide (j < i))) := rfl
theorem geD_int : geD (.int i) (.int j) = some (.bl (decide (j ≤ i))) := rfl
theorem negD_int : negD (.int i) = some (.int (-i)) := rfl
theorem divD_int (h : 0 < j) (h2 : j.natAbs < lim) : divD (.int i) (.int j) = some (.int (i / j)) := by
  show (if (decide (0 < j) && decide (j.natAbs < lim)) = true then some (D.int (i / j)) else none) = _
  rw [decide_eq_true h, decide_eq_true h2]
  rfl
theorem modD_int (h : 0 < j) : modD (.int i) (.int j) = some (.int (i % j)) := by
  show (if decide (0 < j) = true then some (D.int (i % j)) else none) = _
  rw [decide_eq_true h]
  rfl
theorem mulD_int (h : mulOk i j = true) : mulD (.int i) (.int j) = some (.int (i * j)) := by
  show (if mulOk i j = true then some (D.int (i * j)) else none) = _
  rw [h]
  rfl
theorem lenD_lst {xs : List D} : lenD [.lst xs] = some (.int xs.length) := rfl
theorem lenD_tup {xs : List D} : lenD [.tup xs] = some (.int xs.length) := rfl
theorem allD_map {α : Type} {xs : List α} {p : α → Bool} : allD [.lst (xs.map fun x => .bl (p x))] = some (.bl (xs.all p)) := by
  show (toBls _).map _ = _
  rw [toBls_map']
  show some (D.bl ((xs.map p).all id)) = _
  rw [List.all_map]
  rfl
theorem anyD_map {α : Type} {xs : List α} {p : α → Bool} : anyD [.lst (xs.map fun x => .bl (p x))] = some (.bl (xs.any p)) := by
  show (toBls _).map _ = _
  rw [toBls_map']
  show some (D.bl ((xs.map p).any id)) = _
  rw [List.any_map]
  rfl
end
/-! ### the greatest common divisor -/
def gcdI (a b : Int) : Int := (Nat.gcd a.toNat b.toNat : Nat)
theorem gcdI_step {a b : Int} (ha : 0 ≤ a) (hb : 0 < b) : gcdI b (a % b) = gcdI a b := by
  unfold gcdI
  have e : (a % b).toNat = a.toNat % b.toNat := by
    have h1 : (a % b).toNat = ((a.toNat : Int) % (b.toNat : Int)).toNat := by
      rw [Int.toNat_of_nonneg ha, Int.toNat_of_nonneg (Int.le_of_lt hb)]
    rw [h1, ← Int.natCast_emod, Int.toNat_natCast]
  rw [e, Nat.gcd_comm b.toNat, ← Nat.gcd_rec, Nat.gcd_comm]
theorem gcdI_zero {a : Int} (ha : 0 ≤ a) : gcdI a 0 = a := by
  unfold gcdI
  rw [show (0 : Int).toNat = 0 from rfl, Nat.gcd_zero_right, Int.toNat_of_nonneg ha]
theorem gcdI_pos {a b : Int} (hb : 0 < b) : 0 < gcdI a b := by
  unfold gcdI
  have : 0 < Nat.gcd a.toNat b.toNat := Nat.gcd_pos_of_pos_right _ (by omega)
  omega
theorem gcdI_le {a b : Int} (hb : 0 < b) : gcdI a b ≤ b := by
  unfold gcdI
  have : Nat.gcd a.toNat b.toNat ≤ b.toNat := Nat.gcd_le_right _ (by omega)
  omega
theorem common_loop : ∀ (n : Nat) (a b : Int) (r : Env), 0 ≤ a → 0 ≤ b → b.toNat < n →
    whileS (bV (eOp gtD (eVar 1) (eC (.int 0)))) (sPar 0 1 (aCons (eVar 1) (aCons (eOp modD (eVar 0) (eVar 1)) aNil))) n (.sh (.int a) :: .sh (.int b) :: r) = .ok (.nx (.sh (.int (gcdI a b)) :: .sh (.int 0) :: r))
  | 0, a, b, r, _, _, h => absurd h (Nat.not_lt_zero _)
  | n + 1, a, b, r, ha, hb, h => by
    unfold whileS
    simp only [bV, eOp, eVar, eC, List.getElem?_cons_succ, List.getElem?_cons_zero, Res.bind_ok, gtD_int, ofO_some, toB, sPar, aCons, aNil]
    by_cases c : 0 < b
    · have h0 : 0 ≤ a % b := Int.emod_nonneg a (by omega)
      have h1 : a % b < b := Int.emod_lt_of_pos a c
      simp only [decide_eq_true c, if_true, modD_int c, ofO_some, Res.bind_ok, List.set_cons_zero, List.set_cons_succ]
      rw [common_loop n b (a % b) r hb h0 (by omega), gcdI_step ha c]
    · have e : b = 0 := by omega
      subst e
      simp only [gcdI_zero ha]
      rfl
/-- the same loop in the slots 2 and 3 -/
theorem common_loop2 : ∀ (n : Nat) (a b : Int) (x y : Sl) (r : Env), 0 ≤ a → 0 ≤ b → b.toNat < n →
    whileS (bV (eOp gtD (eVar 3) (eC (.int 0)))) (sPar 2 3 (aCons (eVar 3) (aCons (eOp modD (eVar 2) (eVar 3)) aNil))) n (x :: y :: .sh (.int a) :: .sh (.int b) :: r) = .ok (.nx (x :: y :: .sh (.int (gcdI a b)) :: .sh (.int 0) :: r))
  | 0, a, b, x, y, r, _, _, h => absurd h (Nat.not_lt_zero _)
  | n + 1, a, b, x, y, r, ha, hb, h => by
    unfold whileS
    simp only [bV, eOp, eVar, eC, List.getElem?_cons_succ, List.getElem?_cons_zero, Res.bind_ok, gtD_int, ofO_some, toB, sPar, aCons, aNil]
    by_cases c : 0 < b
    · have h0 : 0 ≤ a % b := Int.emod_nonneg a (by omega)
      have h1 : a % b < b := Int.emod_lt_of_pos a c
      simp only [decide_eq_true c, if_true, modD_int c, ofO_some, Res.bind_ok, List.set_cons_zero, List.set_cons_succ]
      rw [common_loop2 n b (a % b) x y r hb h0 (by omega), gcdI_step ha c]
    · have e : b = 0 := by omega
      subst e
      simp only [gcdI_zero ha]
      rfl
/-- lowest terms -/
def low (a b : Int) : Tr := (a / gcdI a b, b / gcdI a b)
/-- what a tariff costs, so often as the amount's second number is -/
def cst (t p : Tr) : Int := t.1 * p.2 + t.2 * p.1
/-- an amount -/
structure Am (p : Tr) : Prop where
  n0 : 0 ≤ p.1
  d0 : 0 < p.2
  gc : gcdI p.1 p.2 = 1
theorem gcdI_dvd {a b : Int} (ha : 0 ≤ a) (hb : 0 ≤ b) : gcdI a b ∣ a ∧ gcdI a b ∣ b := by
  unfold gcdI
  constructor
  · have := Nat.gcd_dvd_left a.toNat b.toNat
    have h := Int.natCast_dvd_natCast.mpr this
    rwa [Int.toNat_of_nonneg ha] at h
  · have := Nat.gcd_dvd_right a.toNat b.toNat
    have h := Int.natCast_dvd_natCast.mpr this
    rwa [Int.toNat_of_nonneg hb] at h
theorem toNat_ediv {a b : Int} (ha : 0 ≤ a) (hb : 0 ≤ b) : (a / b).toNat = a.toNat / b.toNat := by
  have h1 : (a / b).toNat = ((a.toNat : Int) / (b.toNat : Int)).toNat := by
    rw [Int.toNat_of_nonneg ha, Int.toNat_of_nonneg hb]
  rw [h1, ← Int.natCast_ediv, Int.toNat_natCast]
theorem low_am {a b : Int} (ha : 0 ≤ a) (hb : 0 < b) : Am (low a b) := by
  have g := gcdI_pos (a := a) hb
  obtain ⟨d1, d2⟩ := gcdI_dvd ha (Int.le_of_lt hb)
  refine ⟨Int.ediv_nonneg ha (Int.le_of_lt g), Int.ediv_pos_of_pos_of_dvd hb (Int.le_of_lt g) d2, ?_⟩
  show gcdI (a / gcdI a b) (b / gcdI a b) = 1
  have hg : (gcdI a b).toNat = Nat.gcd a.toNat b.toNat := by
    unfold gcdI
    rw [Int.toNat_natCast]
  have e : gcdI (a / gcdI a b) (b / gcdI a b) = ((Nat.gcd (a.toNat / Nat.gcd a.toNat b.toNat) (b.toNat / Nat.gcd a.toNat b.toNat) : Nat) : Int) := by
    show ((Nat.gcd (a / gcdI a b).toNat (b / gcdI a b).toNat : Nat) : Int) = _
    rw [toNat_ediv ha (Int.le_of_lt g), toNat_ediv (Int.le_of_lt hb) (Int.le_of_lt g), hg]
  have gp : 0 < Nat.gcd a.toNat b.toNat := Nat.gcd_pos_of_pos_right _ (by omega)
  rw [e, Nat.gcd_div (Nat.gcd_dvd_left _ _) (Nat.gcd_dvd_right _ _), Nat.div_self gp]
  rfl
theorem low_eq {a b : Int} (ha : 0 ≤ a) (hb : 0 < b) : (low a b).1 * b = a * (low a b).2 := by
  obtain ⟨⟨x, hx⟩, ⟨y, hy⟩⟩ := gcdI_dvd ha (Int.le_of_lt hb)
  have g := gcdI_pos (a := a) hb
  have e1 : a / gcdI a b = x := Int.ediv_eq_of_eq_mul_right (by omega) hx
  have e2 : b / gcdI a b = y := Int.ediv_eq_of_eq_mul_right (by omega) hy
  show a / gcdI a b * b = a * (b / gcdI a b)
  rw [e1, e2]
  conv => lhs; rw [hy]
  conv => rhs; rw [hx]
  rw [Int.mul_left_comm, Int.mul_assoc, Int.mul_comm x y]
theorem low_of_am {p : Tr} (h : Am p) : low p.1 p.2 = p := by
  unfold low
  rw [h.gc, Int.ediv_one, Int.ediv_one]
theorem cst_nonneg {t p : Tr} (h1 : 0 ≤ t.1) (h2 : 0 ≤ t.2) (h : Am p) : 0 ≤ cst t p := Int.add_nonneg (Int.mul_nonneg h1 (Int.le_of_lt h.d0)) (Int.mul_nonneg h2 h.n0)
/-! ### tariffs and books under the operations -/
section
variable {t u : Tr} {l m : List Tr} {K : PySem.W.Frag} {Cs : List Addr}
theorem ix0_tr : ixD (tr t) (.int 0) = some (.int t.1) := rfl
theorem ix1_tr : ixD (tr t) (.int 1) = some (.int t.2) := rfl
theorem len_tr : lenD [tr t] = some (.int 2) := rfl
theorem ty_tr : tyD Cs (tr t) = some (.type "tuple") := rfl
theorem ty_bk : tyD Cs (bk l) = some (.type "list") := rfl
theorem len_bk : lenD [bk l] = some (.int l.length) := by
  show some (D.int ((l.map tr).length : Int)) = _
  rw [List.length_map]
theorem toL_bk : toL (bk l) = .ok (l.map tr) := rfl
theorem toL_lst {xs : List D} : toL (.lst xs) = .ok xs := rfl
theorem toT_tup {xs : List D} : toT (.tup xs) = .ok xs := rfl
theorem toT_tr : toT (tr t) = .ok [.int t.1, .int t.2] := rfl
theorem list_bk : listD [bk l] = some (bk l) := rfl
theorem eqD_bk : eqD (bk l) (bk m) = some (.bl (decide (l = m))) := by
  unfold eqD
  rw [eqB_bk]
  rfl
theorem neD_bk : neD (bk l) (bk m) = some (.bl (!decide (l = m))) := by
  unfold neD
  rw [eqB_bk]
  rfl
theorem eqD_tr : eqD (tr t) (tr u) = some (.bl (decide (t = u))) := by
  unfold eqD
  rw [eqB_tr]
  rfl
theorem neD_tr : neD (tr t) (tr u) = some (.bl (!decide (t = u))) := by
  unfold neD
  rw [eqB_tr]
  rfl
theorem eqD_bk0 : eqD (bk l) (.lst []) = some (.bl (decide (l = []))) := eqD_bk (m := [])
theorem neD_bk0 : neD (bk l) (.lst []) = some (.bl (!decide (l = []))) := neD_bk (m := [])
theorem atI_map {α β : Type} (f : α → β) {xs : List α} {j : Nat} {x : α} (h : xs[j]? = some x) : atI (xs.map f) (j : Int) = some (f x) := atI_nat (by rw [List.getElem?_map, h]; rfl)
theorem ix_bk {j : Nat} (h : l[j]? = some t) : ixD (bk l) (.int (j : Int)) = some (tr t) := atI_map tr h
theorem pair_eq (a b : Int) : D.tup [.int a, .int b] = tr (a, b) := rfl
end
/-- a comprehension over a book, a list: the whole expression -/
theorem eLC_of {α : Type} {vs : List Nat} {bt : Bt} {fe : Env → Res D} {fi : Env → Res (List D)} {env : Env} (xs : List α) (enc out : α → D) (hi : fi env = .ok (xs.map enc)) (hl : xs.length ≤ 1000000)
    (H : ∀ x ∈ xs, ∃ e1, bt (enc x) (wipeE env vs) = .ok e1 ∧ fe e1 = .ok (out x)) : eLC vs bt bYes fe fi env = .ok (.lst (xs.map out)) := by
  unfold eLC
  rw [hi, Res.bind_ok, if_pos (by rw [List.length_map]; exact hl), compS_of xs enc out H]
theorem eLC_filter {α : Type} {vs : List Nat} {bt : Bt} {ft : Env → Res Bool} {fe : Env → Res D} {fi : Env → Res (List D)} {env : Env} (xs : List α) (enc out : α → D) (p : α → Bool) (hi : fi env = .ok (xs.map enc)) (hl : xs.length ≤ 1000000)
    (H : ∀ x ∈ xs, ∃ e1, bt (enc x) (wipeE env vs) = .ok e1 ∧ ft e1 = .ok (p x) ∧ (p x = true → fe e1 = .ok (out x))) : eLC vs bt ft fe fi env = .ok (.lst ((xs.filter p).map out)) := by
  unfold eLC
  rw [hi, Res.bind_ok, if_pos (by rw [List.length_map]; exact hl), compS_filter xs enc out p H]
theorem indexD_ints {ns : List Int} {i : Int} (h : i ∈ ns) : indexD (.lst (ns.map D.int)) [.int i] = some (.int (ns.idxOf i)) := by
  show (match toInts (ns.map D.int) with
    | some ns => if i ∈ ns then some (D.int (ns.idxOf i)) else none
    | none => none) = _
  rw [toInts_map]
  show (if i ∈ ns then some (D.int (ns.idxOf i)) else none) = _
  rw [if_pos h]
theorem minD_ints {ns : List Int} (h : ns ≠ []) : minD [.lst (ns.map D.int)] = some (.int (minL ns)) := by
  show (match toInts (ns.map D.int) with
    | some (n :: ns) => some (D.int (minL (n :: ns)))
    | _ => none) = _
  rw [toInts_map]
  cases ns with
  | nil => exact absurd rfl h
  | cons n ns => rfl
theorem minL_mem {ns : List Int} (h : ns ≠ []) : minL ns ∈ ns := by
  cases ns with
  | nil => exact absurd rfl h
  | cons n ns => exact minL_spec.1
theorem minL_le {ns : List Int} {y : Int} (hy : y ∈ ns) : minL ns ≤ y := by
  cases ns with
  | nil => cases hy
  | cons n ns => exact minL_spec.2 y hy
section
variable {K : PySem.W.Frag} {Cs : List Addr} {i : Int} {b : Bool} {z : Str} {xs : List D} {t : Tr} {l : List Tr}
theorem isi_of {x : D} {t : Value} {c : String} {r : Bool} (h : tyD Cs x = some t) (hk : PySem.W.kitOne K t (.type c) = some r) : isiD K Cs [x, .ty c] = some (.bl r) := by
  have e : isiD K Cs [x, .ty c] = (match tyD Cs x, some (Value.type c) with
    | some t, some u => (PySem.W.kitOne K t u).map D.bl
    | _, _ => none) := rfl
  rw [e, h]
  show (PySem.W.kitOne K t (.type c)).map D.bl = _
  rw [hk]
  rfl
theorem isi_int_int : isiD K Cs [(.int i), .ty "int"] = some (.bl true) := isi_of rfl kit_int_int
theorem isi_int_bool : isiD K Cs [(.int i), .ty "bool"] = some (.bl false) := isi_of rfl kit_int_bool
theorem isi_int_tuple : isiD K Cs [(.int i), .ty "tuple"] = some (.bl false) := isi_of rfl kit_int_tuple
theorem isi_int_list : isiD K Cs [(.int i), .ty "list"] = some (.bl false) := isi_of rfl kit_int_list
theorem isi_int_str : isiD K Cs [(.int i), .ty "str"] = some (.bl false) := isi_of rfl kit_int_str
theorem isi_bl_int : isiD K Cs [(.bl b), .ty "int"] = some (.bl true) := isi_of rfl kit_bool_int
theorem isi_bl_bool : isiD K Cs [(.bl b), .ty "bool"] = some (.bl true) := isi_of rfl kit_bool_bool
theorem isi_bl_tuple : isiD K Cs [(.bl b), .ty "tuple"] = some (.bl false) := isi_of rfl kit_bool_tuple
theorem isi_bl_list : isiD K Cs [(.bl b), .ty "list"] = some (.bl false) := isi_of rfl kit_bool_list
theorem isi_bl_str : isiD K Cs [(.bl b), .ty "str"] = some (.bl false) := isi_of rfl kit_bool_str
theorem isi_non_int : isiD K Cs [.non, .ty "int"] = some (.bl false) := isi_of rfl kit_non_int
theorem isi_non_bool : isiD K Cs [.non, .ty "bool"] = some (.bl false) := isi_of rfl kit_non_bool
theorem isi_non_tuple : isiD K Cs [.non, .ty "tuple"] = some (.bl false) := isi_of rfl kit_non_tuple
theorem isi_non_list : isiD K Cs [.non, .ty "list"] = some (.bl false) := isi_of rfl kit_non_list
theorem isi_non_str : isiD K Cs [.non, .ty "str"] = some (.bl false) := isi_of rfl kit_non_str
theorem isi_str_int : isiD K Cs [(.str z), .ty "int"] = some (.bl false) := isi_of rfl kit_str_int
theorem isi_str_bool : isiD K Cs [(.str z), .ty "bool"] = some (.bl false) := isi_of rfl kit_str_bool
theorem isi_str_tuple : isiD K Cs [(.str z), .ty "tuple"] = some (.bl false) := isi_of rfl kit_str_tuple
theorem isi_str_list : isiD K Cs [(.str z), .ty "list"] = some (.bl false) := isi_of rfl kit_str_list
theorem isi_str_str : isiD K Cs [(.str z), .ty "str"] = some (.bl true) := isi_of rfl kit_str_str
theorem isi_tup_int : isiD K Cs [(.tup xs), .ty "int"] = some (.bl false) := isi_of rfl kit_tuple_int
theorem isi_tup_bool : isiD K Cs [(.tup xs), .ty "bool"] = some (.bl false) := isi_of rfl kit_tuple_bool
theorem isi_tup_tuple : isiD K Cs [(.tup xs), .ty "tuple"] = some (.bl true) := isi_of rfl kit_tuple_tuple
theorem isi_tup_list : isiD K Cs [(.tup xs), .ty "list"] = some (.bl false) := isi_of rfl kit_tuple_list
theorem isi_tup_str : isiD K Cs [(.tup xs), .ty "str"] = some (.bl false) := isi_of rfl kit_tuple_str
theorem isi_lst_int : isiD K Cs [(.lst xs), .ty "int"] = some (.bl false) := isi_of rfl kit_list_int
theorem isi_lst_bool : isiD K Cs [(.lst xs), .ty "bool"] = some (.bl false) := isi_of rfl kit_list_bool
theorem isi_lst_tuple : isiD K Cs [(.lst xs), .ty "tuple"] = some (.bl false) := isi_of rfl kit_list_tuple
theorem isi_lst_list : isiD K Cs [(.lst xs), .ty "list"] = some (.bl true) := isi_of rfl kit_list_list
theorem isi_lst_str : isiD K Cs [(.lst xs), .ty "str"] = some (.bl false) := isi_of rfl kit_list_str
theorem isi_tr_int : isiD K Cs [(tr t), .ty "int"] = some (.bl false) := isi_of rfl kit_tuple_int
theorem isi_tr_bool : isiD K Cs [(tr t), .ty "bool"] = some (.bl false) := isi_of rfl kit_tuple_bool
theorem isi_tr_tuple : isiD K Cs [(tr t), .ty "tuple"] = some (.bl true) := isi_of rfl kit_tuple_tuple
theorem isi_tr_list : isiD K Cs [(tr t), .ty "list"] = some (.bl false) := isi_of rfl kit_tuple_list
theorem isi_tr_str : isiD K Cs [(tr t), .ty "str"] = some (.bl false) := isi_of rfl kit_tuple_str
theorem isi_bk_int : isiD K Cs [(bk l), .ty "int"] = some (.bl false) := isi_of rfl kit_list_int
theorem isi_bk_bool : isiD K Cs [(bk l), .ty "bool"] = some (.bl false) := isi_of rfl kit_list_bool
theorem isi_bk_tuple : isiD K Cs [(bk l), .ty "tuple"] = some (.bl false) := isi_of rfl kit_list_tuple
theorem isi_bk_list : isiD K Cs [(bk l), .ty "list"] = some (.bl true) := isi_of rfl kit_list_list
theorem isi_bk_str : isiD K Cs [(bk l), .ty "str"] = some (.bl false) := isi_of rfl kit_list_str
theorem isi_dic_int : isiD K Cs [.dic, .ty "int"] = some (.bl false) := isi_of rfl kit_dict_int
theorem isi_dic_bool : isiD K Cs [.dic, .ty "bool"] = some (.bl false) := isi_of rfl kit_dict_bool
theorem isi_dic_tuple : isiD K Cs [.dic, .ty "tuple"] = some (.bl false) := isi_of rfl kit_dict_tuple
theorem isi_dic_list : isiD K Cs [.dic, .ty "list"] = some (.bl false) := isi_of rfl kit_dict_list
theorem isi_dic_str : isiD K Cs [.dic, .ty "str"] = some (.bl false) := isi_of rfl kit_dict_str
theorem isL_bk : isLst (bk l) = true := rfl
end
theorem smallv (i : Int) (h : i.natAbs < 10 ^ 70) : i.natAbs < lim := lim_of (n := 250) (Nat.lt_trans h (by decide)) (by decide)
theorem divD_2 {i : Int} : divD (.int i) (.int 2) = some (.int (i / 2)) := divD_int (by decide) (smallv 2 (by decide))
theorem modD_2 {i : Int} : modD (.int i) (.int 2) = some (.int (i % 2)) := modD_int (by decide)
theorem divD_3 {i : Int} : divD (.int i) (.int 3) = some (.int (i / 3)) := divD_int (by decide) (smallv 3 (by decide))
theorem modD_3 {i : Int} : modD (.int i) (.int 3) = some (.int (i % 3)) := modD_int (by decide)
theorem divD_4 {i : Int} : divD (.int i) (.int 4) = some (.int (i / 4)) := divD_int (by decide) (smallv 4 (by decide))
theorem modD_4 {i : Int} : modD (.int i) (.int 4) = some (.int (i % 4)) := modD_int (by decide)
theorem divD_5 {i : Int} : divD (.int i) (.int 5) = some (.int (i / 5)) := divD_int (by decide) (smallv 5 (by decide))
theorem modD_5 {i : Int} : modD (.int i) (.int 5) = some (.int (i % 5)) := modD_int (by decide)
theorem divD_6 {i : Int} : divD (.int i) (.int 6) = some (.int (i / 6)) := divD_int (by decide) (smallv 6 (by decide))
theorem modD_6 {i : Int} : modD (.int i) (.int 6) = some (.int (i % 6)) := modD_int (by decide)
theorem divD_7 {i : Int} : divD (.int i) (.int 7) = some (.int (i / 7)) := divD_int (by decide) (smallv 7 (by decide))
theorem modD_7 {i : Int} : modD (.int i) (.int 7) = some (.int (i % 7)) := modD_int (by decide)
theorem divD_8 {i : Int} : divD (.int i) (.int 8) = some (.int (i / 8)) := divD_int (by decide) (smallv 8 (by decide))
theorem modD_8 {i : Int} : modD (.int i) (.int 8) = some (.int (i % 8)) := modD_int (by decide)
theorem divD_9 {i : Int} : divD (.int i) (.int 9) = some (.int (i / 9)) := divD_int (by decide) (smallv 9 (by decide))
theorem modD_9 {i : Int} : modD (.int i) (.int 9) = some (.int (i % 9)) := modD_int (by decide)
theorem divD_10 {i : Int} : divD (.int i) (.int 10) = some (.int (i / 10)) := divD_int (by decide) (smallv 10 (by decide))
theorem modD_10 {i : Int} : modD (.int i) (.int 10) = some (.int (i % 10)) := modD_int (by decide)
theorem divD_11 {i : Int} : divD (.int i) (.int 11) = some (.int (i / 11)) := divD_int (by decide) (smallv 11 (by decide))
theorem modD_11 {i : Int} : modD (.int i) (.int 11) = some (.int (i % 11)) := modD_int (by decide)
theorem divD_13 {i : Int} : divD (.int i) (.int 13) = some (.int (i / 13)) := divD_int (by decide) (smallv 13 (by decide))
theorem modD_13 {i : Int} : modD (.int i) (.int 13) = some (.int (i % 13)) := modD_int (by decide)
theorem divD_15 {i : Int} : divD (.int i) (.int 15) = some (.int (i / 15)) := divD_int (by decide) (smallv 15 (by decide))
theorem modD_15 {i : Int} : modD (.int i) (.int 15) = some (.int (i % 15)) := modD_int (by decide)
theorem divD_17 {i : Int} : divD (.int i) (.int 17) = some (.int (i / 17)) := divD_int (by decide) (smallv 17 (by decide))
theorem modD_17 {i : Int} : modD (.int i) (.int 17) = some (.int (i % 17)) := modD_int (by decide)
theorem divD_24 {i : Int} : divD (.int i) (.int 24) = some (.int (i / 24)) := divD_int (by decide) (smallv 24 (by decide))
theorem modD_24 {i : Int} : modD (.int i) (.int 24) = some (.int (i % 24)) := modD_int (by decide)
theorem divD_40 {i : Int} : divD (.int i) (.int 40) = some (.int (i / 40)) := divD_int (by decide) (smallv 40 (by decide))
theorem modD_40 {i : Int} : modD (.int i) (.int 40) = some (.int (i % 40)) := modD_int (by decide)
theorem divD_41 {i : Int} : divD (.int i) (.int 41) = some (.int (i / 41)) := divD_int (by decide) (smallv 41 (by decide))
theorem modD_41 {i : Int} : modD (.int i) (.int 41) = some (.int (i % 41)) := modD_int (by decide)
theorem divD_44 {i : Int} : divD (.int i) (.int 44) = some (.int (i / 44)) := divD_int (by decide) (smallv 44 (by decide))
theorem modD_44 {i : Int} : modD (.int i) (.int 44) = some (.int (i % 44)) := modD_int (by decide)
theorem divD_60 {i : Int} : divD (.int i) (.int 60) = some (.int (i / 60)) := divD_int (by decide) (smallv 60 (by decide))
theorem modD_60 {i : Int} : modD (.int i) (.int 60) = some (.int (i % 60)) := modD_int (by decide)
theorem divD_90 {i : Int} : divD (.int i) (.int 90) = some (.int (i / 90)) := divD_int (by decide) (smallv 90 (by decide))
theorem modD_90 {i : Int} : modD (.int i) (.int 90) = some (.int (i % 90)) := modD_int (by decide)
theorem divD_100 {i : Int} : divD (.int i) (.int 100) = some (.int (i / 100)) := divD_int (by decide) (smallv 100 (by decide))
theorem modD_100 {i : Int} : modD (.int i) (.int 100) = some (.int (i % 100)) := modD_int (by decide)
theorem divD_120 {i : Int} : divD (.int i) (.int 120) = some (.int (i / 120)) := divD_int (by decide) (smallv 120 (by decide))
theorem modD_120 {i : Int} : modD (.int i) (.int 120) = some (.int (i % 120)) := modD_int (by decide)
theorem divD_T30 {i : Int} : divD (.int i) (.int 1000000000000000000000000000000) = some (.int (i / 1000000000000000000000000000000)) := divD_int (by decide) (smallv 1000000000000000000000000000000 (by decide))
theorem modD_T30 {i : Int} : modD (.int i) (.int 1000000000000000000000000000000) = some (.int (i % 1000000000000000000000000000000)) := modD_int (by decide)
theorem divD_T40 {i : Int} : divD (.int i) (.int 10000000000000000000000000000000000000000) = some (.int (i / 10000000000000000000000000000000000000000)) := divD_int (by decide) (smallv 10000000000000000000000000000000000000000 (by decide))
theorem modD_T40 {i : Int} : modD (.int i) (.int 10000000000000000000000000000000000000000) = some (.int (i % 10000000000000000000000000000000000000000)) := modD_int (by decide)
theorem divD_T60 {i : Int} : divD (.int i) (.int 1000000000000000000000000000000000000000000000000000000000000) = some (.int (i / 1000000000000000000000000000000000000000000000000000000000000)) := divD_int (by decide) (smallv 1000000000000000000000000000000000000000000000000000000000000 (by decide))
theorem modD_T60 {i : Int} : modD (.int i) (.int 1000000000000000000000000000000000000000000000000000000000000) = some (.int (i % 1000000000000000000000000000000000000000000000000000000000000)) := modD_int (by decide)
theorem powD_30 : powD (.int 10) (.int 30) = some (.int 1000000000000000000000000000000) := by
  have e : (10 : Int) ^ (30 : Int).toNat = 1000000000000000000000000000000 := by decide +kernel
  show (if (decide ((0 : Int) ≤ 30) && decide ((30 : Int) ≤ 1000) && decide ((10 : Int).natAbs < 2 ^ 60)) = true then some (D.int ((10 : Int) ^ (30 : Int).toNat)) else none) = _
  rw [e]
  rfl
theorem powD_40 : powD (.int 10) (.int 40) = some (.int 10000000000000000000000000000000000000000) := by
  have e : (10 : Int) ^ (40 : Int).toNat = 10000000000000000000000000000000000000000 := by decide +kernel
  show (if (decide ((0 : Int) ≤ 40) && decide ((40 : Int) ≤ 1000) && decide ((10 : Int).natAbs < 2 ^ 60)) = true then some (D.int ((10 : Int) ^ (40 : Int).toNat)) else none) = _
  rw [e]
  rfl
theorem powD_60 : powD (.int 10) (.int 60) = some (.int 1000000000000000000000000000000000000000000000000000000000000) := by
  have e : (10 : Int) ^ (60 : Int).toNat = 1000000000000000000000000000000000000000000000000000000000000 := by decide +kernel
  show (if (decide ((0 : Int) ≤ 60) && decide ((60 : Int) ≤ 1000) && decide ((10 : Int).natAbs < 2 ^ 60)) = true then some (D.int ((10 : Int) ^ (60 : Int).toNat)) else none) = _
  rw [e]
  rfl
theorem low_sm {a b : Int} (ha : 0 ≤ a) (hb : 0 < b) (h1 : Sm a) (h2 : Sm b) : Sm (low a b).1 ∧ Sm (low a b).2 :=
  ⟨Sm.div h1 ha (Int.le_of_lt (gcdI_pos hb)), Sm.div h2 (Int.le_of_lt hb) (Int.le_of_lt (gcdI_pos hb))⟩
theorem sm_lt {i : Int} (h0 : 0 ≤ i) (h : i < 1000000000000000000000000000000000000000000000000000000000000000000000) : Sm i := by
  unfold Sm
  have h1 : i.natAbs < 1000000000000000000000000000000000000000000000000000000000000000000000 := by omega
  exact Nat.lt_trans h1 (by decide)
theorem mulOk_r {i j : Int} (h : j.natAbs < 2 ^ 60) : mulOk i j = true := by
  unfold mulOk
  rw [decide_eq_true h]
  simp
theorem mulOk_l {i j : Int} (h : i.natAbs < 2 ^ 60) : mulOk i j = true := by
  unfold mulOk
  rw [decide_eq_true h]
  simp
theorem zip_map {α : Type} (f g : α → D) : ∀ xs : List α, zipD (xs.map f) (xs.map g) = xs.map fun x => .tup [f x, g x]
  | [] => rfl
  | x :: xs => by
    show D.tup [f x, g x] :: zipD (xs.map f) (xs.map g) = _
    rw [zip_map f g xs]
    rfl
theorem addD_lst {xs ys : List D} (h : xs.length + ys.length ≤ 1000000) : addD (.lst xs) (.lst ys) = some (.lst (xs ++ ys)) := by
  show (if xs.length + ys.length ≤ 1000000 then some (D.lst (xs ++ ys)) else none) = _
  rw [if_pos h]
theorem sumD_ints {ns : List Int} : sumD [.lst (ns.map D.int)] = some (.int ns.sum) := by
  show (toInts (ns.map D.int)).map _ = _
  rw [toInts_map]
  rfl
/-! ### statement by statement -/
section
variable {n : Nat} {g g1 g2 gb : Env → Res Fl} {ds : List D} {d : D} {env e : Env} {r : Res Fl} {fa : Env → Res D} {bt : Bt} {fi : Env → Res (List D)} {fc : Env → Res Bool}
theorem run_rt (h : g (envOf n ds) = .ok (.rt d)) : run n g ds = .ok d := by
  unfold run
  rw [h]
  rfl
theorem run0_rt (h : g (envOf n ds) = .ok (.rt d)) : run0 n g ds = .ok d := by
  unfold run0
  rw [h]
  rfl
theorem run_nx (h : g (envOf n ds) = .ok (.nx e)) : run n g ds = .ok .non := by
  unfold run
  rw [h]
  rfl
theorem seq_nx (h : g1 env = .ok (.nx e)) (hr : g2 e = r) : sSeq g1 g2 env = r := by
  unfold sSeq
  rw [h]
  exact hr
theorem seq_rt (h : g1 env = .ok (.rt d)) : sSeq g1 g2 env = .ok (.rt d) := by
  unfold sSeq
  rw [h]
theorem seq_asg {e1 : Env} (h : fa env = .ok d) (hb : bt d env = .ok e1) (hr : g2 e1 = r) : sSeq (sAsg fa bt) g2 env = r := by
  refine seq_nx ?_ hr
  unfold sAsg
  rw [h, Res.bind_ok, hb]
  rfl
theorem seq_set {i : Nat} (h : fa env = .ok d) (hr : g2 (env.set i (.sh d)) = r) : sSeq (sAsg fa (bNm i)) g2 env = r := seq_asg h rfl hr
theorem seq_ifF (h : fc env = .ok false) (hr : g2 env = r) : sSeq (sIf fc g1 sNil) g2 env = r := by
  refine seq_nx ?_ hr
  unfold sIf
  rw [h]
  rfl
theorem ifF (h : fc env = .ok false) : sIf fc g1 sNil env = .ok (.nx env) := by
  unfold sIf
  rw [h]
  rfl
theorem seq_ifT (h : fc env = .ok true) (hr : g1 env = .ok (.rt d)) : sSeq (sIf fc g1 sNil) g2 env = .ok (.rt d) := by
  refine seq_rt ?_
  unfold sIf
  rw [h]
  exact hr
theorem ret_of (h : fa env = .ok d) : sRet fa env = .ok (.rt d) := by
  unfold sRet
  rw [h]
  rfl
theorem forS_all (I : Env → Prop) : ∀ (ds : List D) (env : Env), I env → (∀ d ∈ ds, ∀ env, I env → ∃ e1, bt d env = .ok e1 ∧ ∃ e2, gb e1 = .ok (.nx e2) ∧ I e2) → ∃ e, forS bt gb ds env = .ok (.nx e) ∧ I e
  | [], env, h, _ => ⟨env, rfl, h⟩
  | d :: ds, env, h, H => by
    obtain ⟨e1, h1, e2, h2, h3⟩ := H d List.mem_cons_self env h
    obtain ⟨e, h4, h5⟩ := forS_all I ds e2 h3 fun d hd => H d (List.mem_cons_of_mem _ hd)
    refine ⟨e, ?_, h5⟩
    show bOk (bt d env) _ = _
    rw [h1, bOk_ok, h2]
    exact h4
theorem for_all (I : Env → Prop) (hi : fi env = .ok ds) (h0 : I env) (H : ∀ d ∈ ds, ∀ env, I env → ∃ e1, bt d env = .ok e1 ∧ ∃ e2, gb e1 = .ok (.nx e2) ∧ I e2) : ∃ e, sFor fi bt gb env = .ok (.nx e) ∧ I e := by
  unfold sFor
  rw [hi]
  exact forS_all I ds env h0 H
theorem seq_for (I : Env → Prop) (hi : fi env = .ok ds) (h0 : I env) (H : ∀ d ∈ ds, ∀ env, I env → ∃ e1, bt d env = .ok e1 ∧ ∃ e2, gb e1 = .ok (.nx e2) ∧ I e2) (hr : ∀ e, I e → g2 e = r) : sSeq (sFor fi bt gb) g2 env = r := by
  obtain ⟨e, h1, h2⟩ := for_all I hi h0 H
  exact seq_nx h1 (hr e h2)
end
theorem mem_enum : ∀ {n : Nat} {ds : List D} {d : D}, d ∈ enumFrom n ds → ∃ (i : Nat) (x : D), x ∈ ds ∧ d = .tup [.int (i : Int), x] ∧ ds[i - n]? = some x ∧ n ≤ i
  | n, [], d, h => by cases h
  | n, y :: ds, d, h => by
    rcases List.mem_cons.mp h with rfl | h
    · exact ⟨n, y, List.mem_cons_self, rfl, by rw [Nat.sub_self]; rfl, Nat.le_refl _⟩
    · obtain ⟨i, x, h1, h2, h3, h4⟩ := mem_enum h
      refine ⟨i, x, List.mem_cons_of_mem _ h1, h2, ?_, by omega⟩
      rw [show i - n = (i - (n + 1)) + 1 by omega]
      exact h3
theorem eqB_self {d : D} {p : PyData} (h0 : scV d = none) (h : toPy d = some p) (hs : SeqAt.shaped p = true) : eqB d d = some true := by
  unfold eqB
  rw [h0, h]
  show (if (SeqAt.shaped p && SeqAt.shaped p) = true then some (PyData.eqv p p) else none) = _
  rw [hs, SeqAt.eqv_refl p (SeqAt.canLay_of_shaped hs)]
  rfl
theorem eqD_self {d : D} {p : PyData} (h0 : scV d = none) (h : toPy d = some p) (hs : SeqAt.shaped p = true) : eqD d d = some (.bl true) := by
  unfold eqD
  rw [eqB_self h0 h hs]
  rfl
theorem neD_self {d : D} {p : PyData} (h0 : scV d = none) (h : toPy d = some p) (hs : SeqAt.shaped p = true) : neD d d = some (.bl false) := by
  unfold neD
  rw [eqB_self h0 h hs]
  rfl
/-- the items of xs[lo:hi:k] are xs's -/
theorem pickG_mem {α : Type} {xs : List α} {lo hi : Option Int} {k : Int} {x : α} (h : x ∈ pickG xs lo hi k) : x ∈ xs := by
  unfold pickG at h
  obtain ⟨i, _, e⟩ := List.mem_filterMap.mp h
  exact List.mem_of_getElem? e
theorem pickG_map {α β : Type} (f : α → β) (xs : List α) (lo hi : Option Int) (k : Int) : pickG (xs.map f) lo hi k = (pickG xs lo hi k).map f := by
  unfold pickG
  rw [List.length_map, List.map_filterMap]
  congr 1
  funext i
  rw [List.getElem?_map]
theorem slSt_map {α : Type} (f : α → D) {xs : List α} {lo hi : Option Int} {k : Int} (hk : k ≠ 0) (hl : xs.length ≤ 1000000) : slStD lo hi (some k) (.lst (xs.map f)) = some (.lst ((pickG xs lo hi k).map f)) := by
  show (if k ≠ 0 ∧ (xs.map f).length ≤ 1000000 then some (D.lst (pickG (xs.map f) lo hi k)) else none) = _
  rw [if_pos ⟨hk, by rw [List.length_map]; exact hl⟩, pickG_map]
end Dt
namespace Dt.Ws
open PySem PySem.Spec PyProof.Rows L2 Dt He
def topS (i : Nat) : Stmt := PySem.Challenge.pw_leasttariff_k01_costs.main.body.getD i (.Pass ⟨0, 0, 0, 0⟩)
def cis (K : PySem.W.Frag) : List Addr := []
theorem ci_ok {K : PySem.W.Frag} (_ : true = true) : ∀ C ∈ cis K, CI K C := fun C h => by
  have h : C ∈ ([] : List Addr) := h
  cases h
abbrev s_is_number : Stmt := topS 6
abbrev s_is_pair : Stmt := topS 7
abbrev s_common : Stmt := topS 8
abbrev s_lowest : Stmt := topS 9
abbrev s_check_book : Stmt := topS 10
abbrev s_check_place : Stmt := topS 11
abbrev s_check_amount : Stmt := topS 12
abbrev s_cost_of : Stmt := topS 13
abbrev s_cost : Stmt := topS 14
abbrev s_cheapest : Stmt := topS 15
abbrev s__law_book : Stmt := topS 17
abbrev s__law_lowest : Stmt := topS 18
abbrev s__law_amount : Stmt := topS 19
abbrev s__law_is_amount : Stmt := topS 20
abbrev s__law_cost : Stmt := topS 21
abbrev s__law_whole : Stmt := topS 22
abbrev s_law : Stmt := topS 23
/-- what the top has left -/
structure Top (K : PySem.W.Frag) (mg : Str → Option Value) : Prop where
  g_is_number : mg "is_number" = some (.ref (ga K "is_number"))
  g_is_pair : mg "is_pair" = some (.ref (ga K "is_pair"))
  g_common : mg "common" = some (.ref (ga K "common"))
  g_lowest : mg "lowest" = some (.ref (ga K "lowest"))
  g_check_book : mg "check_book" = some (.ref (ga K "check_book"))
  g_check_place : mg "check_place" = some (.ref (ga K "check_place"))
  g_check_amount : mg "check_amount" = some (.ref (ga K "check_amount"))
  g_cost_of : mg "cost_of" = some (.ref (ga K "cost_of"))
  g_cost : mg "cost" = some (.ref (ga K "cost"))
  g_cheapest : mg "cheapest" = some (.ref (ga K "cheapest"))
  g__law_book : mg "_law_book" = some (.ref (ga K "_law_book"))
  g__law_lowest : mg "_law_lowest" = some (.ref (ga K "_law_lowest"))
  g__law_amount : mg "_law_amount" = some (.ref (ga K "_law_amount"))
  g__law_is_amount : mg "_law_is_amount" = some (.ref (ga K "_law_is_amount"))
  g__law_cost : mg "_law_cost" = some (.ref (ga K "_law_cost"))
  g__law_whole : mg "_law_whole" = some (.ref (ga K "_law_whole"))
  g_law : mg "law" = some (.ref (ga K "law"))
  g_TariffError : mg "TariffError" = some (.ref (ga K "TariffError"))
  g_BadBook : mg "BadBook" = some (.ref (ga K "BadBook"))
  g_BadPlace : mg "BadPlace" = some (.ref (ga K "BadPlace"))
  g_BadAmount : mg "BadAmount" = some (.ref (ga K "BadAmount"))
  b_all : mg "all" = none
  b_bool : mg "bool" = none
  b_enumerate : mg "enumerate" = none
  b_int : mg "int" = none
  b_isinstance : mg "isinstance" = none
  b_len : mg "len" = none
  b_list : mg "list" = none
  b_min : mg "min" = none
  b_range : mg "range" = none
  b_sum : mg "sum" = none
  b_tuple : mg "tuple" = none
  b_zip : mg "zip" = none
  ci : ∀ C ∈ cis K, CI K C
  d_is_number : ∃ fd, L2.FunD K "is_number" "is_number" (defArgs s_is_number) (defBody s_is_number) (defScope s_is_number) [] [] (ga K "is_number") fd
  d_is_pair : ∃ fd, L2.FunD K "is_pair" "is_pair" (defArgs s_is_pair) (defBody s_is_pair) (defScope s_is_pair) [] [] (ga K "is_pair") fd
  d_common : ∃ fd, L2.FunD K "common" "common" (defArgs s_common) (defBody s_common) (defScope s_common) [] [] (ga K "common") fd
  d_lowest : ∃ fd, L2.FunD K "lowest" "lowest" (defArgs s_lowest) (defBody s_lowest) (defScope s_lowest) [] [] (ga K "lowest") fd
  d_check_book : ∃ fd, L2.FunD K "check_book" "check_book" (defArgs s_check_book) (defBody s_check_book) (defScope s_check_book) [] [] (ga K "check_book") fd
  d_check_place : ∃ fd, L2.FunD K "check_place" "check_place" (defArgs s_check_place) (defBody s_check_place) (defScope s_check_place) [] [] (ga K "check_place") fd
  d_check_amount : ∃ fd, L2.FunD K "check_amount" "check_amount" (defArgs s_check_amount) (defBody s_check_amount) (defScope s_check_amount) [] [] (ga K "check_amount") fd
  d_cost_of : ∃ fd, L2.FunD K "cost_of" "cost_of" (defArgs s_cost_of) (defBody s_cost_of) (defScope s_cost_of) [] [] (ga K "cost_of") fd
  d_cost : ∃ fd, L2.FunD K "cost" "cost" (defArgs s_cost) (defBody s_cost) (defScope s_cost) [] [] (ga K "cost") fd
  d_cheapest : ∃ fd, L2.FunD K "cheapest" "cheapest" (defArgs s_cheapest) (defBody s_cheapest) (defScope s_cheapest) [] [] (ga K "cheapest") fd
  d__law_book : ∃ fd, L2.FunD K "_law_book" "_law_book" (defArgs s__law_book) (defBody s__law_book) (defScope s__law_book) [] [] (ga K "_law_book") fd
  d__law_lowest : ∃ fd, L2.FunD K "_law_lowest" "_law_lowest" (defArgs s__law_lowest) (defBody s__law_lowest) (defScope s__law_lowest) [] [] (ga K "_law_lowest") fd
  d__law_amount : ∃ fd, L2.FunD K "_law_amount" "_law_amount" (defArgs s__law_amount) (defBody s__law_amount) (defScope s__law_amount) [] [] (ga K "_law_amount") fd
  d__law_is_amount : ∃ fd, L2.FunD K "_law_is_amount" "_law_is_amount" (defArgs s__law_is_amount) (defBody s__law_is_amount) (defScope s__law_is_amount) [] [] (ga K "_law_is_amount") fd
  d__law_cost : ∃ fd, L2.FunD K "_law_cost" "_law_cost" (defArgs s__law_cost) (defBody s__law_cost) (defScope s__law_cost) [] [] (ga K "_law_cost") fd
  d__law_whole : ∃ fd, L2.FunD K "_law_whole" "_law_whole" (defArgs s__law_whole) (defBody s__law_whole) (defScope s__law_whole) [] [] (ga K "_law_whole") fd
  d_law : ∃ fd, L2.FunD K "law" "law" (defArgs s_law) (defBody s_law) (defScope s_law) [] [] (ga K "law") fd
/-! is_number -/
abbrev N_is_number : List Str := ["thing", "least"]
theorem sc_is_number : FnScope N_is_number ["thing", "least"] (defScope s_is_number) := ⟨rfl, rfl, rfl, by decide +kernel, rfl, by decide +kernel, by decide +kernel⟩
def g_is_number (K : PySem.W.Frag) : Env → Res Fl :=
    (sRet (eB (bAnd (bV (eFn (isiD K (cis K)) (aCons (eVar 0) (aCons (eC (.ty "int")) aNil)))) (bAnd (bNot (bV (eFn (isiD K (cis K)) (aCons (eVar 0) (aCons (eC (.ty "bool")) aNil))))) (bV (eOp geD (eVar 0) (eVar 1)))))))
def f_is_number (K : PySem.W.Frag) : List D → Res D := run 2 (g_is_number K)
theorem okF_is_number {P : Program} {w : World} {K : PySem.W.Frag} {mg : Str → Option Value} {base : Heap} (T : Top K mg) {fd : FuncData} (F : L2.FunD K "is_number" "is_number" (defArgs s_is_number) (defBody s_is_number) (defScope s_is_number) [] [] (ga K "is_number") fd) : FnOk P w K mg base (L2.CX P w) 1 (ga K "is_number") fd ["thing", "least"] (spD K 2 (f_is_number K)) := by
  refine fn_dt (N := N_is_number) F sc_is_number (fun cdv A outer s H E G P' hr gd => ?_)
  have nd := sc_is_number.nd
  have tk := takes_of (X := cxOf (L2.CX P w) P w K mg base N_is_number "is_number" (defScope s_is_number) (ga K "is_number") cdv A outer s H E) rfl rfl rfl rfl
  have pow := passes_of (X := cxOf (L2.CX P w) P w K mg base N_is_number "is_number" (defScope s_is_number) (ga K "is_number") cdv A outer s H E) rfl
  exact (sd_one (sd_ret gd (pd_and (pd_eB (pd_isi T.ci (by rfl) T.b_isinstance (pad_cons (pd_var 0) (pad_cons (pd_bty (by rfl) T.b_int (by decide +kernel)) pad_nil)))) (pd_and (pd_not (pd_eB (pd_isi T.ci (by rfl) T.b_isinstance (pad_cons (pd_var 0) (pad_cons (pd_bty (by rfl) T.b_bool (by decide +kernel)) pad_nil))))) (pd_one (pd_eB (pd_ge (pd_var 0) (pd_var 1))))))))
theorem ok_is_number {P : Program} {w : World} {K : PySem.W.Frag} {mg : Str → Option Value} {base : Heap} (T : Top K mg) : Held P w K mg base 1 (ga K "is_number") ["thing", "least"] (f_is_number K) := by
  obtain ⟨fd, F⟩ := T.d_is_number
  exact ⟨fd, okF_is_number T F, F.bindsN fun _ _ _ _ _ _ us hl => match us, hl with | [_, _], _ => rfl, F.kp⟩
/-! is_pair -/
abbrev N_is_pair : List Str := ["thing", "least"]
theorem sc_is_pair : FnScope N_is_pair ["thing", "least"] (defScope s_is_pair) := ⟨rfl, rfl, rfl, by decide +kernel, rfl, by decide +kernel, by decide +kernel⟩
def g_is_pair (K : PySem.W.Frag) : Env → Res Fl :=
    (sRet (eB (bAnd (bV (eFn (isiD K (cis K)) (aCons (eVar 0) (aCons (eC (.ty "tuple")) aNil)))) (bAnd (bV (eOp eqD (eFn lenD (aCons (eVar 0) aNil)) (eC (.int 2)))) (bAnd (bV (eCall (f_is_number K) (aCons (eOp ixD (eVar 0) (eC (.int 0))) (aCons (eC (.int 0)) aNil)))) (bV (eCall (f_is_number K) (aCons (eOp ixD (eVar 0) (eC (.int 1))) (aCons (eVar 1) aNil)))))))))
def f_is_pair (K : PySem.W.Frag) : List D → Res D := run 2 (g_is_pair K)
theorem okF_is_pair {P : Program} {w : World} {K : PySem.W.Frag} {mg : Str → Option Value} {base : Heap} (T : Top K mg) {fd : FuncData} (F : L2.FunD K "is_pair" "is_pair" (defArgs s_is_pair) (defBody s_is_pair) (defScope s_is_pair) [] [] (ga K "is_pair") fd) : FnOk P w K mg base (L2.CX P w) 2 (ga K "is_pair") fd ["thing", "least"] (spD K 2 (f_is_pair K)) := by
  refine fn_dt (N := N_is_pair) F sc_is_pair (fun cdv A outer s H E G P' hr gd => ?_)
  have nd := sc_is_pair.nd
  have tk := takes_of (X := cxOf (L2.CX P w) P w K mg base N_is_pair "is_pair" (defScope s_is_pair) (ga K "is_pair") cdv A outer s H E) rfl rfl rfl rfl
  have pow := passes_of (X := cxOf (L2.CX P w) P w K mg base N_is_pair "is_pair" (defScope s_is_pair) (ga K "is_pair") cdv A outer s H E) rfl
  exact (sd_one (sd_ret gd (pd_and (pd_eB (pd_isi T.ci (by rfl) T.b_isinstance (pad_cons (pd_var 0) (pad_cons (pd_bty (by rfl) T.b_tuple (by decide +kernel)) pad_nil)))) (pd_and (pd_eB (pd_eq hr.units (pd_len (by rfl) T.b_len (pad_cons (pd_var 0) pad_nil)) pd_int)) (pd_and (pd_eB (pd_callH (ok_is_number T) (hr.mono (by decide)) tk (by rfl) T.g_is_number (pad_cons (pd_sub' (pd_var 0) pd_int) (pad_cons pd_int pad_nil)) (arge_cons (arge_cons arge_nil)))) (pd_one (pd_eB (pd_callH (ok_is_number T) (hr.mono (by decide)) tk (by rfl) T.g_is_number (pad_cons (pd_sub' (pd_var 0) pd_int) (pad_cons (pd_var 1) pad_nil)) (arge_cons (arge_cons arge_nil))))))))))
theorem ok_is_pair {P : Program} {w : World} {K : PySem.W.Frag} {mg : Str → Option Value} {base : Heap} (T : Top K mg) : Held P w K mg base 2 (ga K "is_pair") ["thing", "least"] (f_is_pair K) := by
  obtain ⟨fd, F⟩ := T.d_is_pair
  exact ⟨fd, okF_is_pair T F, F.bindsN fun _ _ _ _ _ _ us hl => match us, hl with | [_, _], _ => rfl, F.kp⟩
/-! common -/
abbrev N_common : List Str := ["one", "other"]
theorem sc_common : FnScope N_common ["one", "other"] (defScope s_common) := ⟨rfl, rfl, rfl, by decide +kernel, rfl, by decide +kernel, by decide +kernel⟩
def g_common (K : PySem.W.Frag) : Env → Res Fl :=
    (sSeq (sWhile (fun env => Dt.fuel 1 env) (bV (eOp gtD (eVar 1) (eC (.int 0)))) (sPar 0 1 (aCons (eVar 1) (aCons (eOp modD (eVar 0) (eVar 1)) aNil))))
    (sRet (eVar 0)))
def f_common (K : PySem.W.Frag) : List D → Res D := run 2 (g_common K)
theorem okF_common {P : Program} {w : World} {K : PySem.W.Frag} {mg : Str → Option Value} {base : Heap} (T : Top K mg) {fd : FuncData} (F : L2.FunD K "common" "common" (defArgs s_common) (defBody s_common) (defScope s_common) [] [] (ga K "common") fd) : FnOk P w K mg base (L2.CX P w) 1 (ga K "common") fd ["one", "other"] (spD K 2 (f_common K)) := by
  refine fn_dt (N := N_common) F sc_common (fun cdv A outer s H E G P' hr gd => ?_)
  have nd := sc_common.nd
  have tk := takes_of (X := cxOf (L2.CX P w) P w K mg base N_common "common" (defScope s_common) (ga K "common") cdv A outer s H E) rfl rfl rfl rfl
  have pow := passes_of (X := cxOf (L2.CX P w) P w K mg base N_common "common" (defScope s_common) (ga K "common") cdv A outer s H E) rfl
  exact (sd_cons (sd_while gd (fun env => Dt.fuel 1 env) pow (pt_gt (pd_var 1) pd_int) (sd_one (sd_par gd (i := 0) (j := 1) rfl nd (pad_cons (pd_var 1) (pad_cons (pd_mod (pd_var 0) (pd_var 1)) pad_nil)))))
      (sd_one (sd_ret gd (pd_var 0))))
theorem ok_common {P : Program} {w : World} {K : PySem.W.Frag} {mg : Str → Option Value} {base : Heap} (T : Top K mg) : Held P w K mg base 1 (ga K "common") ["one", "other"] (f_common K) := by
  obtain ⟨fd, F⟩ := T.d_common
  exact ⟨fd, okF_common T F, F.bindsN fun _ _ _ _ _ _ us hl => match us, hl with | [_, _], _ => rfl, F.kp⟩
/-! lowest -/
abbrev N_lowest : List Str := ["above", "below", "by"]
theorem sc_lowest : FnScope N_lowest ["above", "below"] (defScope s_lowest) := ⟨rfl, rfl, rfl, by decide +kernel, rfl, by decide +kernel, by decide +kernel⟩
def g_lowest (K : PySem.W.Frag) : Env → Res Fl :=
    (sSeq (sAsg (eCall (f_common K) (aCons (eVar 0) (aCons (eVar 1) aNil))) (bNm 2))
    (sRet (eTup (aCons (eOp divD (eVar 0) (eVar 2)) (aCons (eOp divD (eVar 1) (eVar 2)) aNil)))))
def f_lowest (K : PySem.W.Frag) : List D → Res D := run 3 (g_lowest K)
theorem okF_lowest {P : Program} {w : World} {K : PySem.W.Frag} {mg : Str → Option Value} {base : Heap} (T : Top K mg) {fd : FuncData} (F : L2.FunD K "lowest" "lowest" (defArgs s_lowest) (defBody s_lowest) (defScope s_lowest) [] [] (ga K "lowest") fd) : FnOk P w K mg base (L2.CX P w) 2 (ga K "lowest") fd ["above", "below"] (spD K 2 (f_lowest K)) := by
  refine fn_dt (N := N_lowest) F sc_lowest (fun cdv A outer s H E G P' hr gd => ?_)
  have nd := sc_lowest.nd
  have tk := takes_of (X := cxOf (L2.CX P w) P w K mg base N_lowest "lowest" (defScope s_lowest) (ga K "lowest") cdv A outer s H E) rfl rfl rfl rfl
  have pow := passes_of (X := cxOf (L2.CX P w) P w K mg base N_lowest "lowest" (defScope s_lowest) (ga K "lowest") cdv A outer s H E) rfl
  exact (sd_cons (sd_set gd (i := 2) nd (pd_callH (ok_common T) (hr.mono (by decide)) tk (by rfl) T.g_common (pad_cons (pd_var 0) (pad_cons (pd_var 1) pad_nil)) (arge_cons (arge_cons arge_nil))))
      (sd_one (sd_ret gd (pd_tup (pad_cons (pd_div (pd_var 0) (pd_var 2)) (pad_cons (pd_div (pd_var 1) (pd_var 2)) pad_nil)) (arge_cons (arge_cons arge_nil)).le))))
theorem ok_lowest {P : Program} {w : World} {K : PySem.W.Frag} {mg : Str → Option Value} {base : Heap} (T : Top K mg) : Held P w K mg base 2 (ga K "lowest") ["above", "below"] (f_lowest K) := by
  obtain ⟨fd, F⟩ := T.d_lowest
  exact ⟨fd, okF_lowest T F, F.bindsN fun _ _ _ _ _ _ us hl => match us, hl with | [_, _], _ => rfl, F.kp⟩
/-! check_book -/
abbrev N_check_book : List Str := ["book", "tariff"]
theorem sc_check_book : FnScope N_check_book ["book"] (defScope s_check_book) := ⟨rfl, rfl, rfl, by decide +kernel, rfl, by decide +kernel, by decide +kernel⟩
def g_check_book (K : PySem.W.Frag) : Env → Res Fl :=
    (sIf (bOr (bNot (bV (eFn (isiD K (cis K)) (aCons (eVar 0) (aCons (eC (.ty "list")) aNil))))) (bOr (bV (eOp eqD (eVar 0) (eLst aNil))) (bNot (bV (eFn allD (aCons (eLC [1] (bNm 1) bYes (eCall (f_is_pair K) (aCons (eVar 1) (aCons (eC (.int 0)) aNil))) (iL (eVar 0))) aNil)))))) sNever sNil)
def f_check_book (K : PySem.W.Frag) : List D → Res D := run 2 (g_check_book K)
theorem okF_check_book {P : Program} {w : World} {K : PySem.W.Frag} {mg : Str → Option Value} {base : Heap} (T : Top K mg) {fd : FuncData} (F : L2.FunD K "check_book" "check_book" (defArgs s_check_book) (defBody s_check_book) (defScope s_check_book) [] [] (ga K "check_book") fd) : FnOk P w K mg base (L2.CX P w) 3 (ga K "check_book") fd ["book"] (spD K 1 (f_check_book K)) := by
  refine fn_dt (N := N_check_book) F sc_check_book (fun cdv A outer s H E G P' hr gd => ?_)
  have nd := sc_check_book.nd
  have tk := takes_of (X := cxOf (L2.CX P w) P w K mg base N_check_book "check_book" (defScope s_check_book) (ga K "check_book") cdv A outer s H E) rfl rfl rfl rfl
  have pow := passes_of (X := cxOf (L2.CX P w) P w K mg base N_check_book "check_book" (defScope s_check_book) (ga K "check_book") cdv A outer s H E) rfl
  exact (sd_one (sd_if gd (PW.pt (pwd_or (ptd_not (pt_v (pd_isi T.ci (by rfl) T.b_isinstance (pad_cons (pd_var 0) (pad_cons (pd_bty (by rfl) T.b_list (by decide +kernel)) pad_nil))))) (pwd_or (pt_eq hr.units (pd_var 0) (pd_lst pad_nil arge_nil.le)) (pwd_or1 (ptd_not (pt_v (pd_all (by rfl) (by rfl) T.b_all (pad_cons (pd_lc (own := [("tariff", 1)]) (by rfl) nd (id_list (pd_var 0)) (blkOk_by (own := [("tariff", 1)]) (N := N_check_book) (sc := defScope s_check_book) (by decide +kernel)) (by decide) (fun _ _ _ _ _ => (gd_name (i := 1) nd)) (fun _ _ _ _ _ => ptsd_nil) (fun _ _ _ _ _ => (pd_callH (ok_is_pair T) (hr.mono (by decide)) takes0 (by rfl) T.g_is_pair (pad_cons (pd_var 1) (pad_cons pd_int pad_nil)) (arge_cons (arge_cons arge_nil))))) pad_nil)))))))) (sd_one sd_never) sd_nil))
theorem ok_check_book {P : Program} {w : World} {K : PySem.W.Frag} {mg : Str → Option Value} {base : Heap} (T : Top K mg) : Held P w K mg base 3 (ga K "check_book") ["book"] (f_check_book K) := by
  obtain ⟨fd, F⟩ := T.d_check_book
  exact ⟨fd, okF_check_book T F, F.bindsN fun _ _ _ _ _ _ us hl => match us, hl with | [_], _ => rfl, F.kp⟩
/-! check_place -/
abbrev N_check_place : List Str := ["book", "place"]
theorem sc_check_place : FnScope N_check_place ["book", "place"] (defScope s_check_place) := ⟨rfl, rfl, rfl, by decide +kernel, rfl, by decide +kernel, by decide +kernel⟩
def g_check_place (K : PySem.W.Frag) : Env → Res Fl :=
    (sIf (bOr (bNot (bV (eCall (f_is_number K) (aCons (eVar 1) (aCons (eC (.int 0)) aNil))))) (bV (eOp geD (eVar 1) (eFn lenD (aCons (eVar 0) aNil))))) sNever sNil)
def f_check_place (K : PySem.W.Frag) : List D → Res D := run 2 (g_check_place K)
theorem okF_check_place {P : Program} {w : World} {K : PySem.W.Frag} {mg : Str → Option Value} {base : Heap} (T : Top K mg) {fd : FuncData} (F : L2.FunD K "check_place" "check_place" (defArgs s_check_place) (defBody s_check_place) (defScope s_check_place) [] [] (ga K "check_place") fd) : FnOk P w K mg base (L2.CX P w) 2 (ga K "check_place") fd ["book", "place"] (spD K 2 (f_check_place K)) := by
  refine fn_dt (N := N_check_place) F sc_check_place (fun cdv A outer s H E G P' hr gd => ?_)
  have nd := sc_check_place.nd
  have tk := takes_of (X := cxOf (L2.CX P w) P w K mg base N_check_place "check_place" (defScope s_check_place) (ga K "check_place") cdv A outer s H E) rfl rfl rfl rfl
  have pow := passes_of (X := cxOf (L2.CX P w) P w K mg base N_check_place "check_place" (defScope s_check_place) (ga K "check_place") cdv A outer s H E) rfl
  exact (sd_one (sd_if gd (PW.pt (pwd_or (ptd_not (pt_v (pd_callH (ok_is_number T) (hr.mono (by decide)) tk (by rfl) T.g_is_number (pad_cons (pd_var 1) (pad_cons pd_int pad_nil)) (arge_cons (arge_cons arge_nil))))) (pwd_or1 (pt_ge (pd_var 1) (pd_len (by rfl) T.b_len (pad_cons (pd_var 0) pad_nil)))))) (sd_one sd_never) sd_nil))
theorem ok_check_place {P : Program} {w : World} {K : PySem.W.Frag} {mg : Str → Option Value} {base : Heap} (T : Top K mg) : Held P w K mg base 2 (ga K "check_place") ["book", "place"] (f_check_place K) := by
  obtain ⟨fd, F⟩ := T.d_check_place
  exact ⟨fd, okF_check_place T F, F.bindsN fun _ _ _ _ _ _ us hl => match us, hl with | [_, _], _ => rfl, F.kp⟩
/-! check_amount -/
abbrev N_check_amount : List Str := ["amount"]
theorem sc_check_amount : FnScope N_check_amount ["amount"] (defScope s_check_amount) := ⟨rfl, rfl, rfl, by decide +kernel, rfl, by decide +kernel, by decide +kernel⟩
def g_check_amount (K : PySem.W.Frag) : Env → Res Fl :=
    (sIf (bOr (bNot (bV (eCall (f_is_pair K) (aCons (eVar 0) (aCons (eC (.int 1)) aNil))))) (bV (eOp neD (eCall (f_common K) (aCons (eOp ixD (eVar 0) (eC (.int 0))) (aCons (eOp ixD (eVar 0) (eC (.int 1))) aNil))) (eC (.int 1))))) sNever sNil)
def f_check_amount (K : PySem.W.Frag) : List D → Res D := run 1 (g_check_amount K)
theorem okF_check_amount {P : Program} {w : World} {K : PySem.W.Frag} {mg : Str → Option Value} {base : Heap} (T : Top K mg) {fd : FuncData} (F : L2.FunD K "check_amount" "check_amount" (defArgs s_check_amount) (defBody s_check_amount) (defScope s_check_amount) [] [] (ga K "check_amount") fd) : FnOk P w K mg base (L2.CX P w) 3 (ga K "check_amount") fd ["amount"] (spD K 1 (f_check_amount K)) := by
  refine fn_dt (N := N_check_amount) F sc_check_amount (fun cdv A outer s H E G P' hr gd => ?_)
  have nd := sc_check_amount.nd
  have tk := takes_of (X := cxOf (L2.CX P w) P w K mg base N_check_amount "check_amount" (defScope s_check_amount) (ga K "check_amount") cdv A outer s H E) rfl rfl rfl rfl
  have pow := passes_of (X := cxOf (L2.CX P w) P w K mg base N_check_amount "check_amount" (defScope s_check_amount) (ga K "check_amount") cdv A outer s H E) rfl
  exact (sd_one (sd_if gd (PW.pt (pwd_or (ptd_not (pt_v (pd_callH (ok_is_pair T) (hr.mono (by decide)) tk (by rfl) T.g_is_pair (pad_cons (pd_var 0) (pad_cons pd_int pad_nil)) (arge_cons (arge_cons arge_nil))))) (pwd_or1 (pt_ne hr.units (pd_callH (ok_common T) (hr.mono (by decide)) tk (by rfl) T.g_common (pad_cons (pd_sub' (pd_var 0) pd_int) (pad_cons (pd_sub' (pd_var 0) pd_int) pad_nil)) (arge_cons (arge_cons arge_nil))) pd_int)))) (sd_one sd_never) sd_nil))
theorem ok_check_amount {P : Program} {w : World} {K : PySem.W.Frag} {mg : Str → Option Value} {base : Heap} (T : Top K mg) : Held P w K mg base 3 (ga K "check_amount") ["amount"] (f_check_amount K) := by
  obtain ⟨fd, F⟩ := T.d_check_amount
  exact ⟨fd, okF_check_amount T F, F.bindsN fun _ _ _ _ _ _ us hl => match us, hl with | [_], _ => rfl, F.kp⟩
/-! cost_of -/
abbrev N_cost_of : List Str := ["tariff", "amount"]
theorem sc_cost_of : FnScope N_cost_of ["tariff", "amount"] (defScope s_cost_of) := ⟨rfl, rfl, rfl, by decide +kernel, rfl, by decide +kernel, by decide +kernel⟩
def g_cost_of (K : PySem.W.Frag) : Env → Res Fl :=
    (sRet (eOp addD (eOp mulD (eOp ixD (eVar 0) (eC (.int 0))) (eOp ixD (eVar 1) (eC (.int 1)))) (eOp mulD (eOp ixD (eVar 0) (eC (.int 1))) (eOp ixD (eVar 1) (eC (.int 0))))))
def f_cost_of (K : PySem.W.Frag) : List D → Res D := run 2 (g_cost_of K)
theorem okF_cost_of {P : Program} {w : World} {K : PySem.W.Frag} {mg : Str → Option Value} {base : Heap} (T : Top K mg) {fd : FuncData} (F : L2.FunD K "cost_of" "cost_of" (defArgs s_cost_of) (defBody s_cost_of) (defScope s_cost_of) [] [] (ga K "cost_of") fd) : FnOk P w K mg base (L2.CX P w) 1 (ga K "cost_of") fd ["tariff", "amount"] (spD K 2 (f_cost_of K)) := by
  refine fn_dt (N := N_cost_of) F sc_cost_of (fun cdv A outer s H E G P' hr gd => ?_)
  have nd := sc_cost_of.nd
  have tk := takes_of (X := cxOf (L2.CX P w) P w K mg base N_cost_of "cost_of" (defScope s_cost_of) (ga K "cost_of") cdv A outer s H E) rfl rfl rfl rfl
  have pow := passes_of (X := cxOf (L2.CX P w) P w K mg base N_cost_of "cost_of" (defScope s_cost_of) (ga K "cost_of") cdv A outer s H E) rfl
  exact (sd_one (sd_ret gd (pd_add (pd_mul (pd_sub' (pd_var 0) pd_int) (pd_sub' (pd_var 1) pd_int)) (pd_mul (pd_sub' (pd_var 0) pd_int) (pd_sub' (pd_var 1) pd_int)))))
theorem ok_cost_of {P : Program} {w : World} {K : PySem.W.Frag} {mg : Str → Option Value} {base : Heap} (T : Top K mg) : Held P w K mg base 1 (ga K "cost_of") ["tariff", "amount"] (f_cost_of K) := by
  obtain ⟨fd, F⟩ := T.d_cost_of
  exact ⟨fd, okF_cost_of T F, F.bindsN fun _ _ _ _ _ _ us hl => match us, hl with | [_, _], _ => rfl, F.kp⟩
/-! cost -/
abbrev N_cost : List Str := ["book", "place", "amount"]
theorem sc_cost : FnScope N_cost ["book", "place", "amount"] (defScope s_cost) := ⟨rfl, rfl, rfl, by decide +kernel, rfl, by decide +kernel, by decide +kernel⟩
def g_cost (K : PySem.W.Frag) : Env → Res Fl :=
    (sSeq (sDrop (eCall (f_check_book K) (aCons (eVar 0) aNil)))
    (sSeq (sDrop (eCall (f_check_place K) (aCons (eVar 0) (aCons (eVar 1) aNil))))
    (sSeq (sDrop (eCall (f_check_amount K) (aCons (eVar 2) aNil)))
    (sRet (eCall (f_lowest K) (aCons (eCall (f_cost_of K) (aCons (eOp ixD (eVar 0) (eVar 1)) (aCons (eVar 2) aNil))) (aCons (eOp ixD (eVar 2) (eC (.int 1))) aNil)))))))
def f_cost (K : PySem.W.Frag) : List D → Res D := run 3 (g_cost K)
theorem okF_cost {P : Program} {w : World} {K : PySem.W.Frag} {mg : Str → Option Value} {base : Heap} (T : Top K mg) {fd : FuncData} (F : L2.FunD K "cost" "cost" (defArgs s_cost) (defBody s_cost) (defScope s_cost) [] [] (ga K "cost") fd) : FnOk P w K mg base (L2.CX P w) 4 (ga K "cost") fd ["book", "place", "amount"] (spD K 3 (f_cost K)) := by
  refine fn_dt (N := N_cost) F sc_cost (fun cdv A outer s H E G P' hr gd => ?_)
  have nd := sc_cost.nd
  have tk := takes_of (X := cxOf (L2.CX P w) P w K mg base N_cost "cost" (defScope s_cost) (ga K "cost") cdv A outer s H E) rfl rfl rfl rfl
  have pow := passes_of (X := cxOf (L2.CX P w) P w K mg base N_cost "cost" (defScope s_cost) (ga K "cost") cdv A outer s H E) rfl
  exact (sd_cons (sd_drop gd (pd_callH (ok_check_book T) (hr.mono (by decide)) tk (by rfl) T.g_check_book (pad_cons (pd_var 0) pad_nil) (arge_cons arge_nil)))
      (sd_cons (sd_drop gd (pd_callH (ok_check_place T) (hr.mono (by decide)) tk (by rfl) T.g_check_place (pad_cons (pd_var 0) (pad_cons (pd_var 1) pad_nil)) (arge_cons (arge_cons arge_nil))))
      (sd_cons (sd_drop gd (pd_callH (ok_check_amount T) (hr.mono (by decide)) tk (by rfl) T.g_check_amount (pad_cons (pd_var 2) pad_nil) (arge_cons arge_nil)))
      (sd_one (sd_ret gd (pd_callH (ok_lowest T) (hr.mono (by decide)) tk (by rfl) T.g_lowest (pad_cons (pd_callH (ok_cost_of T) (hr.mono (by decide)) tk (by rfl) T.g_cost_of (pad_cons (pd_sub' (pd_var 0) (pd_var 1)) (pad_cons (pd_var 2) pad_nil)) (arge_cons (arge_cons arge_nil))) (pad_cons (pd_sub' (pd_var 2) pd_int) pad_nil)) (arge_cons (arge_cons arge_nil))))))))
theorem ok_cost {P : Program} {w : World} {K : PySem.W.Frag} {mg : Str → Option Value} {base : Heap} (T : Top K mg) : Held P w K mg base 4 (ga K "cost") ["book", "place", "amount"] (f_cost K) := by
  obtain ⟨fd, F⟩ := T.d_cost
  exact ⟨fd, okF_cost T F, F.bindsN fun _ _ _ _ _ _ us hl => match us, hl with | [_, _, _], _ => rfl, F.kp⟩
/-! cheapest -/
abbrev N_cheapest : List Str := ["book", "amount", "costs", "tariff"]
theorem sc_cheapest : FnScope N_cheapest ["book", "amount"] (defScope s_cheapest) := ⟨rfl, rfl, rfl, by decide +kernel, rfl, by decide +kernel, by decide +kernel⟩
def g_cheapest (K : PySem.W.Frag) : Env → Res Fl :=
    (sSeq (sDrop (eCall (f_check_book K) (aCons (eVar 0) aNil)))
    (sSeq (sDrop (eCall (f_check_amount K) (aCons (eVar 1) aNil)))
    (sSeq (sAsg (eLC [3] (bNm 3) bYes (eCall (f_cost_of K) (aCons (eVar 3) (aCons (eVar 1) aNil))) (iL (eVar 0))) (bNm 2))
    (sRet (eTup (aCons (eMt isLst indexD (eVar 2) (aCons (eFn minD (aCons (eVar 2) aNil)) aNil)) (aCons (eCall (f_lowest K) (aCons (eFn minD (aCons (eVar 2) aNil)) (aCons (eOp ixD (eVar 1) (eC (.int 1))) aNil))) aNil)))))))
def f_cheapest (K : PySem.W.Frag) : List D → Res D := run 4 (g_cheapest K)
theorem okF_cheapest {P : Program} {w : World} {K : PySem.W.Frag} {mg : Str → Option Value} {base : Heap} (T : Top K mg) {fd : FuncData} (F : L2.FunD K "cheapest" "cheapest" (defArgs s_cheapest) (defBody s_cheapest) (defScope s_cheapest) [] [] (ga K "cheapest") fd) : FnOk P w K mg base (L2.CX P w) 4 (ga K "cheapest") fd ["book", "amount"] (spD K 2 (f_cheapest K)) := by
  refine fn_dt (N := N_cheapest) F sc_cheapest (fun cdv A outer s H E G P' hr gd => ?_)
  have nd := sc_cheapest.nd
  have tk := takes_of (X := cxOf (L2.CX P w) P w K mg base N_cheapest "cheapest" (defScope s_cheapest) (ga K "cheapest") cdv A outer s H E) rfl rfl rfl rfl
  have pow := passes_of (X := cxOf (L2.CX P w) P w K mg base N_cheapest "cheapest" (defScope s_cheapest) (ga K "cheapest") cdv A outer s H E) rfl
  exact (sd_cons (sd_drop gd (pd_callH (ok_check_book T) (hr.mono (by decide)) tk (by rfl) T.g_check_book (pad_cons (pd_var 0) pad_nil) (arge_cons arge_nil)))
      (sd_cons (sd_drop gd (pd_callH (ok_check_amount T) (hr.mono (by decide)) tk (by rfl) T.g_check_amount (pad_cons (pd_var 1) pad_nil) (arge_cons arge_nil)))
      (sd_cons (sd_setLc gd (i := 2) (own := [("tariff", 3)]) (by rfl) nd (id_list (pd_var 0)) (blkOk_by (own := [("tariff", 3)]) (N := N_cheapest) (sc := defScope s_cheapest) (by decide +kernel)) (by decide) (fun _ _ _ _ _ => (gd_name (i := 3) nd)) (fun _ _ _ _ _ => ptsd_nil) (fun _ _ _ _ _ => (pd_callH (ok_cost_of T) (hr.mono (by decide)) takes0 (by rfl) T.g_cost_of (pad_cons (pd_var 3) (pad_cons (pd_var 1) pad_nil)) (arge_cons (arge_cons arge_nil)))))
      (sd_one (sd_ret gd (pd_tup (pad_cons (pd_index (pd_var 2) (pad_cons (pd_min (by rfl) (by rfl) T.b_min (pad_cons (pd_var 2) pad_nil)) pad_nil)) (pad_cons (pd_callH (ok_lowest T) (hr.mono (by decide)) tk (by rfl) T.g_lowest (pad_cons (pd_min (by rfl) (by rfl) T.b_min (pad_cons (pd_var 2) pad_nil)) (pad_cons (pd_sub' (pd_var 1) pd_int) pad_nil)) (arge_cons (arge_cons arge_nil))) pad_nil)) (arge_cons (arge_cons arge_nil)).le))))))
theorem ok_cheapest {P : Program} {w : World} {K : PySem.W.Frag} {mg : Str → Option Value} {base : Heap} (T : Top K mg) : Held P w K mg base 4 (ga K "cheapest") ["book", "amount"] (f_cheapest K) := by
  obtain ⟨fd, F⟩ := T.d_cheapest
  exact ⟨fd, okF_cheapest T F, F.bindsN fun _ _ _ _ _ _ us hl => match us, hl with | [_, _], _ => rfl, F.kp⟩
/-! _law_book -/
abbrev N__law_book : List Str := ["_law_script", "_law_code", "_law_size", "_law_rests", "_law_cell", "_law_found", "_law_rest", "_law_many", "_law_k"]
theorem sc__law_book : FnScope N__law_book ["_law_script"] (defScope s__law_book) := ⟨rfl, rfl, rfl, by decide +kernel, rfl, by decide +kernel, by decide +kernel⟩
def g__law_book (K : PySem.W.Frag) : Env → Res Fl :=
    (sSeq (sAsg (eFn sumD (aCons (eVar 0) aNil)) (bNm 1))
    (sSeq (sAsg (eOp ixD (eTup (aCons (eC (.int 9)) (aCons (eC (.int 60)) (aCons (eOp powD (eC (.int 10)) (eC (.int 30))) (aCons (eC (.int 9)) aNil))))) (eOp modD (eOp divD (eVar 1) (eC (.int 7))) (eC (.int 4)))) (bNm 2))
    (sSeq (sAsg (eLC [4] (bNm 4) bYes (eOp addD (eOp divD (eVar 4) (eVar 2)) (eOp mulD (eOp divD (eVar 4) (eC (.int 7))) (eOp subD (eC (.int 1)) (eOp mulD (eOp modD (eVar 4) (eC (.int 2))) (eC (.int 2)))))) (iL (eVar 0))) (bNm 3))
    (sSeq (sAsg (eLC [4, 6] (bTup (bsCons (bNm 4) (bsCons (bNm 6) bsNil))) bYes (eTup (aCons (eOp modD (eVar 4) (eVar 2)) (aCons (eOp modD (eVar 6) (eVar 2)) aNil))) (iZ (aCons (eVar 0) (aCons (eVar 3) aNil)))) (bNm 5))
    (sSeq (sIf (bV (eOp eqD (eOp modD (eOp divD (eVar 1) (eC (.int 4))) (eC (.int 11))) (eC (.int 5)))) (sSeq (sAsg (eOp addD (eC (.int 1)) (eOp modD (eOp divD (eVar 1) (eC (.int 44))) (eC (.int 24)))) (bNm 7))
    (sAsg (eOp addD (eVar 5) (eLC [8] (bNm 8) bYes (eTup (aCons (eOp addD (eOp mulD (eOp divD (eOp mulD (eVar 8) (eOp addD (eVar 8) (eC (.int 1)))) (eC (.int 2))) (eOp addD (eC (.int 1)) (eOp modD (eVar 1) (eC (.int 5))))) (eOp modD (eOp divD (eVar 1) (eC (.int 7))) (eC (.int 9)))) (aCons (eOp subD (eVar 7) (eVar 8)) aNil))) (iR1 (aCons (eVar 7) aNil)))) (bNm 5))) sNil)
    (sRet (eIf (bV (eOp neD (eVar 5) (eLst aNil))) (eVar 5) (eLst (aCons (eTup (aCons (eOp modD (eVar 1) (eC (.int 5))) (aCons (eC (.int 3)) aNil))) aNil)))))))))
def f__law_book (K : PySem.W.Frag) : List D → Res D := run 9 (g__law_book K)
theorem okF__law_book {P : Program} {w : World} {K : PySem.W.Frag} {mg : Str → Option Value} {base : Heap} (T : Top K mg) {fd : FuncData} (F : L2.FunD K "_law_book" "_law_book" (defArgs s__law_book) (defBody s__law_book) (defScope s__law_book) [] [] (ga K "_law_book") fd) : FnOk P w K mg base (L2.CX P w) 1 (ga K "_law_book") fd ["_law_script"] (spD K 1 (f__law_book K)) := by
  refine fn_dt (N := N__law_book) F sc__law_book (fun cdv A outer s H E G P' hr gd => ?_)
  have nd := sc__law_book.nd
  have tk := takes_of (X := cxOf (L2.CX P w) P w K mg base N__law_book "_law_book" (defScope s__law_book) (ga K "_law_book") cdv A outer s H E) rfl rfl rfl rfl
  have pow := passes_of (X := cxOf (L2.CX P w) P w K mg base N__law_book "_law_book" (defScope s__law_book) (ga K "_law_book") cdv A outer s H E) rfl
  exact (sd_cons (sd_set gd (i := 1) nd (pd_sum (by rfl) (by rfl) T.b_sum (pad_cons (pd_var 0) pad_nil)))
      (sd_cons (sd_set gd (i := 2) nd (pd_sub' (pd_tup (pad_cons pd_int (pad_cons pd_int (pad_cons (pd_pow pd_int pd_int) (pad_cons pd_int pad_nil)))) (arge_cons (arge_cons (arge_cons (arge_cons arge_nil)))).le) (pd_mod (pd_div (pd_var 1) pd_int) pd_int)))
      (sd_cons (sd_setLc gd (i := 3) (own := [("_law_cell", 4)]) (by rfl) nd (id_list (pd_var 0)) (blkOk_by (own := [("_law_cell", 4)]) (N := N__law_book) (sc := defScope s__law_book) (by decide +kernel)) (by decide) (fun _ _ _ _ _ => (gd_name (i := 4) nd)) (fun _ _ _ _ _ => ptsd_nil) (fun _ _ _ _ _ => (pd_add (pd_div (pd_var 4) (pd_var 2)) (pd_mul (pd_div (pd_var 4) pd_int) (pd_sub pd_int (pd_mul (pd_mod (pd_var 4) pd_int) pd_int))))))
      (sd_cons (sd_setLc gd (i := 5) (own := [("_law_cell", 4), ("_law_rest", 6)]) (by rfl) nd (id_zip (by rfl) T.b_zip (pad_cons (pd_var 0) (pad_cons (pd_var 3) pad_nil))) (blkOk_by (own := [("_law_cell", 4), ("_law_rest", 6)]) (N := N__law_book) (sc := defScope s__law_book) (by decide +kernel)) (by decide) (fun _ _ _ _ _ => (gd_tup rfl (gds_cons (gd_name (i := 4) nd) (gds_cons (gd_name (i := 6) nd) gds_nil)) (btn_cons (btn_cons btn_nil)))) (fun _ _ _ _ _ => ptsd_nil) (fun _ _ _ _ _ => (pd_tup (pad_cons (pd_mod (pd_var 4) (pd_var 2)) (pad_cons (pd_mod (pd_var 6) (pd_var 2)) pad_nil)) (arge_cons (arge_cons arge_nil)).le)))
      (sd_cons (sd_if gd (pt_eq hr.units (pd_mod (pd_div (pd_var 1) pd_int) pd_int) pd_int) (sd_cons (sd_set gd (i := 7) nd (pd_add pd_int (pd_mod (pd_div (pd_var 1) pd_int) pd_int)))
      (sd_one (sd_set gd (i := 5) nd (pd_add (pd_var 5) (pd_lc (own := [("_law_k", 8)]) (by rfl) nd (id_range1 (by rfl) T.b_range (pad_cons (pd_var 7) pad_nil)) (blkOk_by (own := [("_law_k", 8)]) (N := N__law_book) (sc := defScope s__law_book) (by decide +kernel)) (by decide) (fun _ _ _ _ _ => (gd_name (i := 8) nd)) (fun _ _ _ _ _ => ptsd_nil) (fun _ _ _ _ _ => (pd_tup (pad_cons (pd_add (pd_mul (pd_div (pd_mul (pd_var 8) (pd_add (pd_var 8) pd_int)) pd_int) (pd_add pd_int (pd_mod (pd_var 1) pd_int))) (pd_mod (pd_div (pd_var 1) pd_int) pd_int)) (pad_cons (pd_sub (pd_var 7) (pd_var 8)) pad_nil)) (arge_cons (arge_cons arge_nil)).le))))))) sd_nil)
      (sd_one (sd_ret gd (pd_if (pt_ne hr.units (pd_var 5) (pd_lst pad_nil arge_nil.le)) (pd_var 5) (pd_lst (pad_cons (pd_tup (pad_cons (pd_mod (pd_var 1) pd_int) (pad_cons pd_int pad_nil)) (arge_cons (arge_cons arge_nil)).le) pad_nil) (arge_cons arge_nil).le)))))))))
theorem ok__law_book {P : Program} {w : World} {K : PySem.W.Frag} {mg : Str → Option Value} {base : Heap} (T : Top K mg) : Held P w K mg base 1 (ga K "_law_book") ["_law_script"] (f__law_book K) := by
  obtain ⟨fd, F⟩ := T.d__law_book
  exact ⟨fd, okF__law_book T F, F.bindsN fun _ _ _ _ _ _ us hl => match us, hl with | [_], _ => rfl, F.kp⟩
/-! _law_lowest -/
abbrev N__law_lowest : List Str := ["_law_above", "_law_below", "_law_one", "_law_other"]
theorem sc__law_lowest : FnScope N__law_lowest ["_law_above", "_law_below"] (defScope s__law_lowest) := ⟨rfl, rfl, rfl, by decide +kernel, rfl, by decide +kernel, by decide +kernel⟩
def g__law_lowest (K : PySem.W.Frag) : Env → Res Fl :=
    (sSeq (sPar 2 3 (aCons (eVar 0) (aCons (eVar 1) aNil)))
    (sSeq (sWhile (fun env => Dt.fuel 3 env) (bV (eOp gtD (eVar 3) (eC (.int 0)))) (sPar 2 3 (aCons (eVar 3) (aCons (eOp modD (eVar 2) (eVar 3)) aNil))))
    (sRet (eTup (aCons (eOp divD (eVar 0) (eVar 2)) (aCons (eOp divD (eVar 1) (eVar 2)) aNil))))))
def f__law_lowest (K : PySem.W.Frag) : List D → Res D := run 4 (g__law_lowest K)
theorem okF__law_lowest {P : Program} {w : World} {K : PySem.W.Frag} {mg : Str → Option Value} {base : Heap} (T : Top K mg) {fd : FuncData} (F : L2.FunD K "_law_lowest" "_law_lowest" (defArgs s__law_lowest) (defBody s__law_lowest) (defScope s__law_lowest) [] [] (ga K "_law_lowest") fd) : FnOk P w K mg base (L2.CX P w) 1 (ga K "_law_lowest") fd ["_law_above", "_law_below"] (spD K 2 (f__law_lowest K)) := by
  refine fn_dt (N := N__law_lowest) F sc__law_lowest (fun cdv A outer s H E G P' hr gd => ?_)
  have nd := sc__law_lowest.nd
  have tk := takes_of (X := cxOf (L2.CX P w) P w K mg base N__law_lowest "_law_lowest" (defScope s__law_lowest) (ga K "_law_lowest") cdv A outer s H E) rfl rfl rfl rfl
  have pow := passes_of (X := cxOf (L2.CX P w) P w K mg base N__law_lowest "_law_lowest" (defScope s__law_lowest) (ga K "_law_lowest") cdv A outer s H E) rfl
  exact (sd_cons (sd_par gd (i := 2) (j := 3) rfl nd (pad_cons (pd_var 0) (pad_cons (pd_var 1) pad_nil)))
      (sd_cons (sd_while gd (fun env => Dt.fuel 3 env) pow (pt_gt (pd_var 3) pd_int) (sd_one (sd_par gd (i := 2) (j := 3) rfl nd (pad_cons (pd_var 3) (pad_cons (pd_mod (pd_var 2) (pd_var 3)) pad_nil)))))
      (sd_one (sd_ret gd (pd_tup (pad_cons (pd_div (pd_var 0) (pd_var 2)) (pad_cons (pd_div (pd_var 1) (pd_var 2)) pad_nil)) (arge_cons (arge_cons arge_nil)).le)))))
theorem ok__law_lowest {P : Program} {w : World} {K : PySem.W.Frag} {mg : Str → Option Value} {base : Heap} (T : Top K mg) : Held P w K mg base 1 (ga K "_law_lowest") ["_law_above", "_law_below"] (f__law_lowest K) := by
  obtain ⟨fd, F⟩ := T.d__law_lowest
  exact ⟨fd, okF__law_lowest T F, F.bindsN fun _ _ _ _ _ _ us hl => match us, hl with | [_, _], _ => rfl, F.kp⟩
/-! _law_amount -/
abbrev N__law_amount : List Str := ["_law_cell"]
theorem sc__law_amount : FnScope N__law_amount ["_law_cell"] (defScope s__law_amount) := ⟨rfl, rfl, rfl, by decide +kernel, rfl, by decide +kernel, by decide +kernel⟩
def g__law_amount (K : PySem.W.Frag) : Env → Res Fl :=
    (sSeq (sIf (bV (eOp eqD (eOp modD (eVar 0) (eC (.int 3))) (eC (.int 0)))) (sRet (eCall (f__law_lowest K) (aCons (eOp modD (eOp divD (eVar 0) (eC (.int 3))) (eC (.int 40))) (aCons (eOp addD (eC (.int 1)) (eOp modD (eOp divD (eVar 0) (eC (.int 120))) (eC (.int 9)))) aNil)))) sNil)
    (sRet (eCall (f__law_lowest K) (aCons (eOp modD (eOp divD (eVar 0) (eC (.int 3))) (eOp powD (eC (.int 10)) (eC (.int 30)))) (aCons (eOp addD (eC (.int 1)) (eOp modD (eOp addD (eOp divD (eOp divD (eVar 0) (eC (.int 3))) (eOp powD (eC (.int 10)) (eC (.int 30)))) (eOp divD (eVar 0) (eC (.int 7)))) (eOp powD (eC (.int 10)) (eC (.int 30))))) aNil)))))
def f__law_amount (K : PySem.W.Frag) : List D → Res D := run 1 (g__law_amount K)
theorem okF__law_amount {P : Program} {w : World} {K : PySem.W.Frag} {mg : Str → Option Value} {base : Heap} (T : Top K mg) {fd : FuncData} (F : L2.FunD K "_law_amount" "_law_amount" (defArgs s__law_amount) (defBody s__law_amount) (defScope s__law_amount) [] [] (ga K "_law_amount") fd) : FnOk P w K mg base (L2.CX P w) 2 (ga K "_law_amount") fd ["_law_cell"] (spD K 1 (f__law_amount K)) := by
  refine fn_dt (N := N__law_amount) F sc__law_amount (fun cdv A outer s H E G P' hr gd => ?_)
  have nd := sc__law_amount.nd
  have tk := takes_of (X := cxOf (L2.CX P w) P w K mg base N__law_amount "_law_amount" (defScope s__law_amount) (ga K "_law_amount") cdv A outer s H E) rfl rfl rfl rfl
  have pow := passes_of (X := cxOf (L2.CX P w) P w K mg base N__law_amount "_law_amount" (defScope s__law_amount) (ga K "_law_amount") cdv A outer s H E) rfl
  exact (sd_cons (sd_if gd (pt_eq hr.units (pd_mod (pd_var 0) pd_int) pd_int) (sd_one (sd_ret gd (pd_callH (ok__law_lowest T) (hr.mono (by decide)) tk (by rfl) T.g__law_lowest (pad_cons (pd_mod (pd_div (pd_var 0) pd_int) pd_int) (pad_cons (pd_add pd_int (pd_mod (pd_div (pd_var 0) pd_int) pd_int)) pad_nil)) (arge_cons (arge_cons arge_nil))))) sd_nil)
      (sd_one (sd_ret gd (pd_callH (ok__law_lowest T) (hr.mono (by decide)) tk (by rfl) T.g__law_lowest (pad_cons (pd_mod (pd_div (pd_var 0) pd_int) (pd_pow pd_int pd_int)) (pad_cons (pd_add pd_int (pd_mod (pd_add (pd_div (pd_div (pd_var 0) pd_int) (pd_pow pd_int pd_int)) (pd_div (pd_var 0) pd_int)) (pd_pow pd_int pd_int))) pad_nil)) (arge_cons (arge_cons arge_nil))))))
theorem ok__law_amount {P : Program} {w : World} {K : PySem.W.Frag} {mg : Str → Option Value} {base : Heap} (T : Top K mg) : Held P w K mg base 2 (ga K "_law_amount") ["_law_cell"] (f__law_amount K) := by
  obtain ⟨fd, F⟩ := T.d__law_amount
  exact ⟨fd, okF__law_amount T F, F.bindsN fun _ _ _ _ _ _ us hl => match us, hl with | [_], _ => rfl, F.kp⟩
/-! _law_is_amount -/
abbrev N__law_is_amount : List Str := ["_law_found", "_law_one"]
theorem sc__law_is_amount : FnScope N__law_is_amount ["_law_found"] (defScope s__law_is_amount) := ⟨rfl, rfl, rfl, by decide +kernel, rfl, by decide +kernel, by decide +kernel⟩
def g__law_is_amount (K : PySem.W.Frag) : Env → Res Fl :=
    (sSeq (sIf (bOr (bNot (bV (eFn (isiD K (cis K)) (aCons (eVar 0) (aCons (eC (.ty "tuple")) aNil))))) (bV (eOp neD (eFn lenD (aCons (eVar 0) aNil)) (eC (.int 2))))) (sRet (eC (.bl false))) sNil)
    (sSeq (sIf (bNot (bV (eFn allD (aCons (eLC [1] (bNm 1) bYes (eB (bAnd (bV (eFn (isiD K (cis K)) (aCons (eVar 1) (aCons (eC (.ty "int")) aNil)))) (bNot (bV (eFn (isiD K (cis K)) (aCons (eVar 1) (aCons (eC (.ty "bool")) aNil))))))) (iT (eVar 0))) aNil)))) (sRet (eC (.bl false))) sNil)
    (sRet (eB (bAnd (bV (eOp geD (eOp ixD (eVar 0) (eC (.int 0))) (eC (.int 0)))) (bAnd (bV (eOp gtD (eOp ixD (eVar 0) (eC (.int 1))) (eC (.int 0)))) (bV (eOp eqD (eCall (f__law_lowest K) (aCons (eOp ixD (eVar 0) (eC (.int 0))) (aCons (eOp ixD (eVar 0) (eC (.int 1))) aNil))) (eVar 0)))))))))
def f__law_is_amount (K : PySem.W.Frag) : List D → Res D := run 2 (g__law_is_amount K)
theorem okF__law_is_amount {P : Program} {w : World} {K : PySem.W.Frag} {mg : Str → Option Value} {base : Heap} (T : Top K mg) {fd : FuncData} (F : L2.FunD K "_law_is_amount" "_law_is_amount" (defArgs s__law_is_amount) (defBody s__law_is_amount) (defScope s__law_is_amount) [] [] (ga K "_law_is_amount") fd) : FnOk P w K mg base (L2.CX P w) 2 (ga K "_law_is_amount") fd ["_law_found"] (spD K 1 (f__law_is_amount K)) := by
  refine fn_dt (N := N__law_is_amount) F sc__law_is_amount (fun cdv A outer s H E G P' hr gd => ?_)
  have nd := sc__law_is_amount.nd
  have tk := takes_of (X := cxOf (L2.CX P w) P w K mg base N__law_is_amount "_law_is_amount" (defScope s__law_is_amount) (ga K "_law_is_amount") cdv A outer s H E) rfl rfl rfl rfl
  have pow := passes_of (X := cxOf (L2.CX P w) P w K mg base N__law_is_amount "_law_is_amount" (defScope s__law_is_amount) (ga K "_law_is_amount") cdv A outer s H E) rfl
  exact (sd_cons (sd_if gd (PW.pt (pwd_or (ptd_not (pt_v (pd_isi T.ci (by rfl) T.b_isinstance (pad_cons (pd_var 0) (pad_cons (pd_bty (by rfl) T.b_tuple (by decide +kernel)) pad_nil))))) (pwd_or1 (pt_ne hr.units (pd_len (by rfl) T.b_len (pad_cons (pd_var 0) pad_nil)) pd_int)))) (sd_one (sd_ret gd pd_bl)) sd_nil)
      (sd_cons (sd_if gd (ptd_not (pt_v (pd_all (by rfl) (by rfl) T.b_all (pad_cons (pd_lc (own := [("_law_one", 1)]) (by rfl) nd (id_tup (pd_var 0)) (blkOk_by (own := [("_law_one", 1)]) (N := N__law_is_amount) (sc := defScope s__law_is_amount) (by decide +kernel)) (by decide) (fun _ _ _ _ _ => (gd_name (i := 1) nd)) (fun _ _ _ _ _ => ptsd_nil) (fun _ _ _ _ _ => (pd_and (pd_eB (pd_isi T.ci (by rfl) T.b_isinstance (pad_cons (pd_var 1) (pad_cons (pd_bty (by rfl) T.b_int (by decide +kernel)) pad_nil)))) (pd_one (pd_not (pd_eB (pd_isi T.ci (by rfl) T.b_isinstance (pad_cons (pd_var 1) (pad_cons (pd_bty (by rfl) T.b_bool (by decide +kernel)) pad_nil))))))))) pad_nil)))) (sd_one (sd_ret gd pd_bl)) sd_nil)
      (sd_one (sd_ret gd (pd_and (pd_eB (pd_ge (pd_sub' (pd_var 0) pd_int) pd_int)) (pd_and (pd_eB (pd_gt (pd_sub' (pd_var 0) pd_int) pd_int)) (pd_one (pd_eB (pd_eq hr.units (pd_callH (ok__law_lowest T) (hr.mono (by decide)) tk (by rfl) T.g__law_lowest (pad_cons (pd_sub' (pd_var 0) pd_int) (pad_cons (pd_sub' (pd_var 0) pd_int) pad_nil)) (arge_cons (arge_cons arge_nil))) (pd_var 0))))))))))
theorem ok__law_is_amount {P : Program} {w : World} {K : PySem.W.Frag} {mg : Str → Option Value} {base : Heap} (T : Top K mg) : Held P w K mg base 2 (ga K "_law_is_amount") ["_law_found"] (f__law_is_amount K) := by
  obtain ⟨fd, F⟩ := T.d__law_is_amount
  exact ⟨fd, okF__law_is_amount T F, F.bindsN fun _ _ _ _ _ _ us hl => match us, hl with | [_], _ => rfl, F.kp⟩
/-! _law_cost -/
abbrev N__law_cost : List Str := ["_law_tariff", "_law_amount_here"]
theorem sc__law_cost : FnScope N__law_cost ["_law_tariff", "_law_amount_here"] (defScope s__law_cost) := ⟨rfl, rfl, rfl, by decide +kernel, rfl, by decide +kernel, by decide +kernel⟩
def g__law_cost (K : PySem.W.Frag) : Env → Res Fl :=
    (sRet (eOp addD (eOp mulD (eOp ixD (eVar 0) (eC (.int 0))) (eOp ixD (eVar 1) (eC (.int 1)))) (eOp mulD (eOp ixD (eVar 0) (eC (.int 1))) (eOp ixD (eVar 1) (eC (.int 0))))))
def f__law_cost (K : PySem.W.Frag) : List D → Res D := run 2 (g__law_cost K)
theorem okF__law_cost {P : Program} {w : World} {K : PySem.W.Frag} {mg : Str → Option Value} {base : Heap} (T : Top K mg) {fd : FuncData} (F : L2.FunD K "_law_cost" "_law_cost" (defArgs s__law_cost) (defBody s__law_cost) (defScope s__law_cost) [] [] (ga K "_law_cost") fd) : FnOk P w K mg base (L2.CX P w) 1 (ga K "_law_cost") fd ["_law_tariff", "_law_amount_here"] (spD K 2 (f__law_cost K)) := by
  refine fn_dt (N := N__law_cost) F sc__law_cost (fun cdv A outer s H E G P' hr gd => ?_)
  have nd := sc__law_cost.nd
  have tk := takes_of (X := cxOf (L2.CX P w) P w K mg base N__law_cost "_law_cost" (defScope s__law_cost) (ga K "_law_cost") cdv A outer s H E) rfl rfl rfl rfl
  have pow := passes_of (X := cxOf (L2.CX P w) P w K mg base N__law_cost "_law_cost" (defScope s__law_cost) (ga K "_law_cost") cdv A outer s H E) rfl
  exact (sd_one (sd_ret gd (pd_add (pd_mul (pd_sub' (pd_var 0) pd_int) (pd_sub' (pd_var 1) pd_int)) (pd_mul (pd_sub' (pd_var 0) pd_int) (pd_sub' (pd_var 1) pd_int)))))
theorem ok__law_cost {P : Program} {w : World} {K : PySem.W.Frag} {mg : Str → Option Value} {base : Heap} (T : Top K mg) : Held P w K mg base 1 (ga K "_law_cost") ["_law_tariff", "_law_amount_here"] (f__law_cost K) := by
  obtain ⟨fd, F⟩ := T.d__law_cost
  exact ⟨fd, okF__law_cost T F, F.bindsN fun _ _ _ _ _ _ us hl => match us, hl with | [_, _], _ => rfl, F.kp⟩
/-! _law_whole -/
abbrev N__law_whole : List Str := ["_law_found"]
theorem sc__law_whole : FnScope N__law_whole ["_law_found"] (defScope s__law_whole) := ⟨rfl, rfl, rfl, by decide +kernel, rfl, by decide +kernel, by decide +kernel⟩
def g__law_whole (K : PySem.W.Frag) : Env → Res Fl :=
    (sRet (eB (bAnd (bV (eFn (isiD K (cis K)) (aCons (eVar 0) (aCons (eC (.ty "int")) aNil)))) (bNot (bV (eFn (isiD K (cis K)) (aCons (eVar 0) (aCons (eC (.ty "bool")) aNil))))))))
def f__law_whole (K : PySem.W.Frag) : List D → Res D := run 1 (g__law_whole K)
theorem okF__law_whole {P : Program} {w : World} {K : PySem.W.Frag} {mg : Str → Option Value} {base : Heap} (T : Top K mg) {fd : FuncData} (F : L2.FunD K "_law_whole" "_law_whole" (defArgs s__law_whole) (defBody s__law_whole) (defScope s__law_whole) [] [] (ga K "_law_whole") fd) : FnOk P w K mg base (L2.CX P w) 1 (ga K "_law_whole") fd ["_law_found"] (spD K 1 (f__law_whole K)) := by
  refine fn_dt (N := N__law_whole) F sc__law_whole (fun cdv A outer s H E G P' hr gd => ?_)
  have nd := sc__law_whole.nd
  have tk := takes_of (X := cxOf (L2.CX P w) P w K mg base N__law_whole "_law_whole" (defScope s__law_whole) (ga K "_law_whole") cdv A outer s H E) rfl rfl rfl rfl
  have pow := passes_of (X := cxOf (L2.CX P w) P w K mg base N__law_whole "_law_whole" (defScope s__law_whole) (ga K "_law_whole") cdv A outer s H E) rfl
  exact (sd_one (sd_ret gd (pd_and (pd_eB (pd_isi T.ci (by rfl) T.b_isinstance (pad_cons (pd_var 0) (pad_cons (pd_bty (by rfl) T.b_int (by decide +kernel)) pad_nil)))) (pd_one (pd_not (pd_eB (pd_isi T.ci (by rfl) T.b_isinstance (pad_cons (pd_var 0) (pad_cons (pd_bty (by rfl) T.b_bool (by decide +kernel)) pad_nil)))))))))
theorem ok__law_whole {P : Program} {w : World} {K : PySem.W.Frag} {mg : Str → Option Value} {base : Heap} (T : Top K mg) : Held P w K mg base 1 (ga K "_law_whole") ["_law_found"] (f__law_whole K) := by
  obtain ⟨fd, F⟩ := T.d__law_whole
  exact ⟨fd, okF__law_whole T F, F.bindsN fun _ _ _ _ _ _ us hl => match us, hl with | [_], _ => rfl, F.kp⟩
/-! law -/
abbrev N_law : List Str := ["_law_script", "_law_book_here", "_law_handed", "_law_at", "_law_cell", "_law_amount_here", "_law_place", "_law_found", "_law_due", "_law_costs", "_law_tariff"]
theorem sc_law : FnScope N_law ["_law_script"] (defScope s_law) := ⟨rfl, rfl, rfl, by decide +kernel, rfl, by decide +kernel, by decide +kernel⟩
def g_law (K : PySem.W.Frag) : Env → Res Fl :=
    (sSeq (sAsg (eCall (f__law_book K) (aCons (eVar 0) aNil)) (bNm 1))
    (sSeq (sAsg (eFn listD (aCons (eVar 1) aNil)) (bNm 2))
    (sSeq (sFor (iE (aCons (eOp addD (eVar 0) (eLst (aCons (eC (.int 0)) aNil))) aNil)) (bTup (bsCons (bNm 3) (bsCons (bNm 4) bsNil))) (sSeq (sAsg (eTup (aCons (eCall (f__law_amount K) (aCons (eVar 4) aNil)) (aCons (eOp modD (eVar 3) (eFn lenD (aCons (eVar 1) aNil))) aNil))) (bTup (bsCons (bNm 5) (bsCons (bNm 6) bsNil))))
    (sSeq (sAsg (eCall (f_cost K) (aCons (eVar 2) (aCons (eVar 6) (aCons (eVar 5) aNil)))) (bNm 7))
    (sSeq (sAsg (eCall (f__law_lowest K) (aCons (eCall (f__law_cost K) (aCons (eOp ixD (eVar 1) (eVar 6)) (aCons (eVar 5) aNil))) (aCons (eOp ixD (eVar 5) (eC (.int 1))) aNil))) (bNm 8))
    (sIf (bOr (bNot (bV (eCall (f__law_is_amount K) (aCons (eVar 7) aNil)))) (bV (eOp neD (eVar 7) (eVar 8)))) (sRet (eC (.bl false))) sNil)))))
    (sSeq (sFor (iL (eOp addD (eLC [4] (bNm 4) bYes (eCall (f__law_amount K) (aCons (eVar 4) aNil)) (iL (eSlSt (eVar 0) oNone oNone (oSome (eC (.int 7)))))) (eLst (aCons (eTup (aCons (eC (.int 0)) (aCons (eC (.int 1)) aNil))) (aCons (eTup (aCons (eC (.int 1)) (aCons (eC (.int 1)) aNil))) (aCons (eTup (aCons (eOp modD (eFn sumD (aCons (eVar 0) aNil)) (eOp powD (eC (.int 10)) (eC (.int 40)))) (aCons (eC (.int 1)) aNil))) aNil)))))) (bNm 5) (sSeq (sAsg (eLC [10] (bNm 10) bYes (eCall (f__law_cost K) (aCons (eVar 10) (aCons (eVar 5) aNil))) (iL (eVar 1))) (bNm 9))
    (sSeq (sAsg (eCall (f_cheapest K) (aCons (eVar 2) (aCons (eVar 5) aNil))) (bNm 7))
    (sSeq (sIf (bOr (bNot (bV (eFn (isiD K (cis K)) (aCons (eVar 7) (aCons (eC (.ty "tuple")) aNil))))) (bOr (bV (eOp neD (eFn lenD (aCons (eVar 7) aNil)) (eC (.int 2)))) (bOr (bNot (bV (eCall (f__law_whole K) (aCons (eOp ixD (eVar 7) (eC (.int 0))) aNil)))) (bNot (bV (eCall (f__law_is_amount K) (aCons (eOp ixD (eVar 7) (eC (.int 1))) aNil))))))) (sRet (eC (.bl false))) sNil)
    (sIf (bOr (bV (eOp neD (eVar 7) (eTup (aCons (eMt isLst indexD (eVar 9) (aCons (eFn minD (aCons (eVar 9) aNil)) aNil)) (aCons (eCall (f__law_lowest K) (aCons (eFn minD (aCons (eVar 9) aNil)) (aCons (eOp ixD (eVar 5) (eC (.int 1))) aNil))) aNil))))) (bV (eOp neD (eVar 2) (eVar 1)))) (sRet (eC (.bl false))) sNil)))))
    (sRet (eOp eqD (eCall (f_cheapest K) (aCons (eLst (aCons (eTup (aCons (eC (.int 3)) (aCons (eC (.int 0)) aNil))) (aCons (eTup (aCons (eC (.int 0)) (aCons (eC (.int 1)) aNil))) (aCons (eTup (aCons (eC (.int 3)) (aCons (eC (.int 0)) aNil))) aNil)))) (aCons (eTup (aCons (eC (.int 3)) (aCons (eC (.int 1)) aNil))) aNil))) (eTup (aCons (eC (.int 0)) (aCons (eTup (aCons (eC (.int 3)) (aCons (eC (.int 1)) aNil))) aNil)))))))))
def f_law (K : PySem.W.Frag) : List D → Res D := run0 11 (g_law K)
theorem okF_law {P : Program} {w : World} {K : PySem.W.Frag} {mg : Str → Option Value} {base : Heap} (T : Top K mg) {fd : FuncData} (F : L2.FunD K "law" "law" (defArgs s_law) (defBody s_law) (defScope s_law) [] [] (ga K "law") fd) : FnOk P w K mg base CX0 5 (ga K "law") fd ["_law_script"] (spD K 1 (f_law K)) := by
  refine fn_dt0 (N := N_law) F sc_law (fun cdv A outer s H E G P' hr gd => ?_)
  have nd := sc_law.nd
  have tk := takes0 (X := (cxOf CX0 P w K mg base N_law "law" (defScope s_law) (ga K "law") cdv A outer s H E).nox)
  have pow := PassesOwn.never (M := model P w) (A := (cxOf CX0 P w K mg base N_law "law" (defScope s_law) (ga K "law") cdv A outer s H E).A) (env := (cxOf CX0 P w K mg base N_law "law" (defScope s_law) (ga K "law") cdv A outer s H E).env)
  exact (sd_cons (sd_set gd (i := 1) nd (pd_callH (ok__law_book T) (hr.mono (by decide)) tk (by rfl) T.g__law_book (pad_cons (pd_var 0) pad_nil) (arge_cons arge_nil)))
      (sd_cons (sd_set gd (i := 2) nd (pd_list (by rfl) T.b_list (pad_cons (pd_var 1) pad_nil)))
      (sd_cons (sd_for gd pow rfl (id_enum (by rfl) T.b_enumerate (pad_cons (pd_add (pd_var 0) (pd_lst (pad_cons pd_int pad_nil) (arge_cons arge_nil).le)) pad_nil)) (gd_tup rfl (gds_cons (gd_name (i := 3) nd) (gds_cons (gd_name (i := 4) nd) gds_nil)) (btn_cons (btn_cons btn_nil))) (fun G gd => (sd_cons (sd_asg gd (pd_tup (pad_cons (pd_callH (ok__law_amount T) (hr.mono (by decide)) tk (by rfl) T.g__law_amount (pad_cons (pd_var 4) pad_nil) (arge_cons arge_nil)) (pad_cons (pd_mod (pd_var 3) (pd_len (by rfl) T.b_len (pad_cons (pd_var 1) pad_nil))) pad_nil)) (arge_cons (arge_cons arge_nil)).le) (gd_tup rfl (gds_cons (gd_name (i := 5) nd) (gds_cons (gd_name (i := 6) nd) gds_nil)) (btn_cons (btn_cons btn_nil))))
      (sd_cons (sd_set gd (i := 7) nd (pd_callH (ok_cost T) (hr.mono (by decide)) tk (by rfl) T.g_cost (pad_cons (pd_var 2) (pad_cons (pd_var 6) (pad_cons (pd_var 5) pad_nil))) (arge_cons (arge_cons (arge_cons arge_nil)))))
      (sd_cons (sd_set gd (i := 8) nd (pd_callH (ok__law_lowest T) (hr.mono (by decide)) tk (by rfl) T.g__law_lowest (pad_cons (pd_callH (ok__law_cost T) (hr.mono (by decide)) tk (by rfl) T.g__law_cost (pad_cons (pd_sub' (pd_var 1) (pd_var 6)) (pad_cons (pd_var 5) pad_nil)) (arge_cons (arge_cons arge_nil))) (pad_cons (pd_sub' (pd_var 5) pd_int) pad_nil)) (arge_cons (arge_cons arge_nil))))
      (sd_one (sd_if gd (PW.pt (pwd_or (ptd_not (pt_v (pd_callH (ok__law_is_amount T) (hr.mono (by decide)) tk (by rfl) T.g__law_is_amount (pad_cons (pd_var 7) pad_nil) (arge_cons arge_nil)))) (pwd_or1 (pt_ne hr.units (pd_var 7) (pd_var 8))))) (sd_one (sd_ret gd pd_bl)) sd_nil)))))))
      (sd_cons (sd_for gd pow rfl (id_list (pd_add (pd_lc (own := [("_law_cell", 4)]) (by rfl) nd (id_list (pd_slSt (pd_var 0) po_n po_n (po_s pd_int))) (blkOk_by (own := [("_law_cell", 4)]) (N := N_law) (sc := defScope s_law) (by decide +kernel)) (by decide) (fun _ _ _ _ _ => (gd_name (i := 4) nd)) (fun _ _ _ _ _ => ptsd_nil) (fun _ _ _ _ _ => (pd_callH (ok__law_amount T) (hr.mono (by decide)) takes0 (by rfl) T.g__law_amount (pad_cons (pd_var 4) pad_nil) (arge_cons arge_nil)))) (pd_lst (pad_cons (pd_tup (pad_cons pd_int (pad_cons pd_int pad_nil)) (arge_cons (arge_cons arge_nil)).le) (pad_cons (pd_tup (pad_cons pd_int (pad_cons pd_int pad_nil)) (arge_cons (arge_cons arge_nil)).le) (pad_cons (pd_tup (pad_cons (pd_mod (pd_sum (by rfl) (by rfl) T.b_sum (pad_cons (pd_var 0) pad_nil)) (pd_pow pd_int pd_int)) (pad_cons pd_int pad_nil)) (arge_cons (arge_cons arge_nil)).le) pad_nil))) (arge_cons (arge_cons (arge_cons arge_nil))).le))) (gd_name (i := 5) nd) (fun G gd => (sd_cons (sd_setLc gd (i := 9) (own := [("_law_tariff", 10)]) (by rfl) nd (id_list (pd_var 1)) (blkOk_by (own := [("_law_tariff", 10)]) (N := N_law) (sc := defScope s_law) (by decide +kernel)) (by decide) (fun _ _ _ _ _ => (gd_name (i := 10) nd)) (fun _ _ _ _ _ => ptsd_nil) (fun _ _ _ _ _ => (pd_callH (ok__law_cost T) (hr.mono (by decide)) takes0 (by rfl) T.g__law_cost (pad_cons (pd_var 10) (pad_cons (pd_var 5) pad_nil)) (arge_cons (arge_cons arge_nil)))))
      (sd_cons (sd_set gd (i := 7) nd (pd_callH (ok_cheapest T) (hr.mono (by decide)) tk (by rfl) T.g_cheapest (pad_cons (pd_var 2) (pad_cons (pd_var 5) pad_nil)) (arge_cons (arge_cons arge_nil))))
      (sd_cons (sd_if gd (PW.pt (pwd_or (ptd_not (pt_v (pd_isi T.ci (by rfl) T.b_isinstance (pad_cons (pd_var 7) (pad_cons (pd_bty (by rfl) T.b_tuple (by decide +kernel)) pad_nil))))) (pwd_or (pt_ne hr.units (pd_len (by rfl) T.b_len (pad_cons (pd_var 7) pad_nil)) pd_int) (pwd_or (ptd_not (pt_v (pd_callH (ok__law_whole T) (hr.mono (by decide)) tk (by rfl) T.g__law_whole (pad_cons (pd_sub' (pd_var 7) pd_int) pad_nil) (arge_cons arge_nil)))) (pwd_or1 (ptd_not (pt_v (pd_callH (ok__law_is_amount T) (hr.mono (by decide)) tk (by rfl) T.g__law_is_amount (pad_cons (pd_sub' (pd_var 7) pd_int) pad_nil) (arge_cons arge_nil))))))))) (sd_one (sd_ret gd pd_bl)) sd_nil)
      (sd_one (sd_if gd (PW.pt (pwd_or (pt_ne hr.units (pd_var 7) (pd_tup (pad_cons (pd_index (pd_var 9) (pad_cons (pd_min (by rfl) (by rfl) T.b_min (pad_cons (pd_var 9) pad_nil)) pad_nil)) (pad_cons (pd_callH (ok__law_lowest T) (hr.mono (by decide)) tk (by rfl) T.g__law_lowest (pad_cons (pd_min (by rfl) (by rfl) T.b_min (pad_cons (pd_var 9) pad_nil)) (pad_cons (pd_sub' (pd_var 5) pd_int) pad_nil)) (arge_cons (arge_cons arge_nil))) pad_nil)) (arge_cons (arge_cons arge_nil)).le)) (pwd_or1 (pt_ne hr.units (pd_var 2) (pd_var 1))))) (sd_one (sd_ret gd pd_bl)) sd_nil)))))))
      (sd_one (sd_ret gd (pd_eq hr.units (pd_callH (ok_cheapest T) (hr.mono (by decide)) tk (by rfl) T.g_cheapest (pad_cons (pd_lst (pad_cons (pd_tup (pad_cons pd_int (pad_cons pd_int pad_nil)) (arge_cons (arge_cons arge_nil)).le) (pad_cons (pd_tup (pad_cons pd_int (pad_cons pd_int pad_nil)) (arge_cons (arge_cons arge_nil)).le) (pad_cons (pd_tup (pad_cons pd_int (pad_cons pd_int pad_nil)) (arge_cons (arge_cons arge_nil)).le) pad_nil))) (arge_cons (arge_cons (arge_cons arge_nil))).le) (pad_cons (pd_tup (pad_cons pd_int (pad_cons pd_int pad_nil)) (arge_cons (arge_cons arge_nil)).le) pad_nil)) (arge_cons (arge_cons arge_nil))) (pd_tup (pad_cons pd_int (pad_cons (pd_tup (pad_cons pd_int (pad_cons pd_int pad_nil)) (arge_cons (arge_cons arge_nil)).le) pad_nil)) (arge_cons (arge_cons arge_nil)).le))))))))
def dd_is_number : DefD := ⟨("is_number", none), "is_number", "is_number", defArgs s_is_number, defBody s_is_number, defScope s_is_number, [], []⟩
def dd_is_pair : DefD := ⟨("is_pair", none), "is_pair", "is_pair", defArgs s_is_pair, defBody s_is_pair, defScope s_is_pair, [], []⟩
def dd_common : DefD := ⟨("common", none), "common", "common", defArgs s_common, defBody s_common, defScope s_common, [], []⟩
def dd_lowest : DefD := ⟨("lowest", none), "lowest", "lowest", defArgs s_lowest, defBody s_lowest, defScope s_lowest, [], []⟩
def dd_check_book : DefD := ⟨("check_book", none), "check_book", "check_book", defArgs s_check_book, defBody s_check_book, defScope s_check_book, [], []⟩
def dd_check_place : DefD := ⟨("check_place", none), "check_place", "check_place", defArgs s_check_place, defBody s_check_place, defScope s_check_place, [], []⟩
def dd_check_amount : DefD := ⟨("check_amount", none), "check_amount", "check_amount", defArgs s_check_amount, defBody s_check_amount, defScope s_check_amount, [], []⟩
def dd_cost_of : DefD := ⟨("cost_of", none), "cost_of", "cost_of", defArgs s_cost_of, defBody s_cost_of, defScope s_cost_of, [], []⟩
def dd_cost : DefD := ⟨("cost", none), "cost", "cost", defArgs s_cost, defBody s_cost, defScope s_cost, [], []⟩
def dd_cheapest : DefD := ⟨("cheapest", none), "cheapest", "cheapest", defArgs s_cheapest, defBody s_cheapest, defScope s_cheapest, [], []⟩
def dd__law_book : DefD := ⟨("_law_book", none), "_law_book", "_law_book", defArgs s__law_book, defBody s__law_book, defScope s__law_book, [], []⟩
def dd__law_lowest : DefD := ⟨("_law_lowest", none), "_law_lowest", "_law_lowest", defArgs s__law_lowest, defBody s__law_lowest, defScope s__law_lowest, [], []⟩
def dd__law_amount : DefD := ⟨("_law_amount", none), "_law_amount", "_law_amount", defArgs s__law_amount, defBody s__law_amount, defScope s__law_amount, [], []⟩
def dd__law_is_amount : DefD := ⟨("_law_is_amount", none), "_law_is_amount", "_law_is_amount", defArgs s__law_is_amount, defBody s__law_is_amount, defScope s__law_is_amount, [], []⟩
def dd__law_cost : DefD := ⟨("_law_cost", none), "_law_cost", "_law_cost", defArgs s__law_cost, defBody s__law_cost, defScope s__law_cost, [], []⟩
def dd__law_whole : DefD := ⟨("_law_whole", none), "_law_whole", "_law_whole", defArgs s__law_whole, defBody s__law_whole, defScope s__law_whole, [], []⟩
def dd_law : DefD := ⟨("law", none), "law", "law", defArgs s_law, defBody s_law, defScope s_law, [], []⟩
def facts : List (PySem.W.Frag → Bool) := ([fun K => (Fa.glo "is_number").ok K, fun K => (Fa.glo "is_pair").ok K, fun K => (Fa.glo "common").ok K, fun K => (Fa.glo "lowest").ok K, fun K => (Fa.glo "check_book").ok K, fun K => (Fa.glo "check_place").ok K, fun K => (Fa.glo "check_amount").ok K, fun K => (Fa.glo "cost_of").ok K, fun K => (Fa.glo "cost").ok K, fun K => (Fa.glo "cheapest").ok K, fun K => (Fa.glo "_law_book").ok K, fun K => (Fa.glo "_law_lowest").ok K, fun K => (Fa.glo "_law_amount").ok K, fun K => (Fa.glo "_law_is_amount").ok K, fun K => (Fa.glo "_law_cost").ok K, fun K => (Fa.glo "_law_whole").ok K, fun K => (Fa.glo "law").ok K, fun K => (Fa.glo "TariffError").ok K, fun K => (Fa.glo "BadBook").ok K, fun K => (Fa.glo "BadPlace").ok K, fun K => (Fa.glo "BadAmount").ok K, fun K => (Fa.free "all").ok K, fun K => (Fa.free "bool").ok K, fun K => (Fa.free "enumerate").ok K, fun K => (Fa.free "int").ok K, fun K => (Fa.free "isinstance").ok K, fun K => (Fa.free "len").ok K, fun K => (Fa.free "list").ok K, fun K => (Fa.free "min").ok K, fun K => (Fa.free "range").ok K] : List (PySem.W.Frag → Bool)) ++ ([fun K => (Fa.free "sum").ok K, fun K => (Fa.free "tuple").ok K, fun K => (Fa.free "zip").ok K, fun _ => true] : List (PySem.W.Frag → Bool))
def fnl : List (DefD) := ([dd_is_number, dd_is_pair, dd_common, dd_lowest, dd_check_book, dd_check_place, dd_check_amount, dd_cost_of, dd_cost, dd_cheapest, dd__law_book, dd__law_lowest, dd__law_amount, dd__law_is_amount, dd__law_cost, dd__law_whole, dd_law] : List (DefD))
theorem top_of {K : PySem.W.Frag} {h : Heap} {mg : Str → Option Value} (X : K.In h) (G : h.Ns mainGlobals mg) (c : SaysX facts fnl K) : Top K mg where
  g_is_number := glo_ok X G (c.fact 0)
  g_is_pair := glo_ok X G (c.fact 1)
  g_common := glo_ok X G (c.fact 2)
  g_lowest := glo_ok X G (c.fact 3)
  g_check_book := glo_ok X G (c.fact 4)
  g_check_place := glo_ok X G (c.fact 5)
  g_check_amount := glo_ok X G (c.fact 6)
  g_cost_of := glo_ok X G (c.fact 7)
  g_cost := glo_ok X G (c.fact 8)
  g_cheapest := glo_ok X G (c.fact 9)
  g__law_book := glo_ok X G (c.fact 10)
  g__law_lowest := glo_ok X G (c.fact 11)
  g__law_amount := glo_ok X G (c.fact 12)
  g__law_is_amount := glo_ok X G (c.fact 13)
  g__law_cost := glo_ok X G (c.fact 14)
  g__law_whole := glo_ok X G (c.fact 15)
  g_law := glo_ok X G (c.fact 16)
  g_TariffError := glo_ok X G (c.fact 17)
  g_BadBook := glo_ok X G (c.fact 18)
  g_BadPlace := glo_ok X G (c.fact 19)
  g_BadAmount := glo_ok X G (c.fact 20)
  b_all := free_ok X G (c.fact 21)
  b_bool := free_ok X G (c.fact 22)
  b_enumerate := free_ok X G (c.fact 23)
  b_int := free_ok X G (c.fact 24)
  b_isinstance := free_ok X G (c.fact 25)
  b_len := free_ok X G (c.fact 26)
  b_list := free_ok X G (c.fact 27)
  b_min := free_ok X G (c.fact 28)
  b_range := free_ok X G (c.fact 29)
  b_sum := free_ok X G (c.fact 30)
  b_tuple := free_ok X G (c.fact 31)
  b_zip := free_ok X G (c.fact 32)
  ci := ci_ok (c.fact 33)
  d_is_number := c.def_ 0
  d_is_pair := c.def_ 1
  d_common := c.def_ 2
  d_lowest := c.def_ 3
  d_check_book := c.def_ 4
  d_check_place := c.def_ 5
  d_check_amount := c.def_ 6
  d_cost_of := c.def_ 7
  d_cost := c.def_ 8
  d_cheapest := c.def_ 9
  d__law_book := c.def_ 10
  d__law_lowest := c.def_ 11
  d__law_amount := c.def_ 12
  d__law_is_amount := c.def_ 13
  d__law_cost := c.def_ 14
  d__law_whole := c.def_ 15
  d_law := c.def_ 16
abbrev RW : PySem.W.OpenRow := PySem.W.OpenLaw.row PySem.Challenge.rw_leasttariff_k01_costs
abbrev hk : PySem.W.Hook := hookX 6 facts fnl
def ob (s : PySem.W.SharedT) : AlD := obsXG 6 facts fnl (HandSHeadRun.getT s)
theorem ob_eq (s : PySem.W.SharedT) : ob s = hk.obs s.abs := obsXG_eq (HandSHeadRun.getT_eq s)
def names : List (Str) := (["TariffError", "BadBook", "BadPlace", "BadAmount", "is_number", "is_pair", "common", "lowest", "check_book", "check_place", "check_amount", "cost_of", "cost", "cheapest", "_law_book", "_law_lowest", "_law_amount", "_law_is_amount", "_law_cost", "_law_whole"] : List (Str))
theorem hrun (w : World) : HandSHeadRun.RunEq RW (PySem.W.view RW.prog [23]) hk ob 4000 names w := by
  intro os
  kernel_rfl
end Dt.Ws
namespace Dt.Ws
open PySem L2 Dt
variable {K : PySem.W.Frag}
local macro_rules | `(tactic| walk_at "ev") => `(tactic| simp only [run, fin, envOf, sSeq, sNil, sAsg, sPar, sRet, sRetN, sDrop, sIf, sNever, bNm, bTup, bsCons, bsNil, bOk_ok, eVar, eC, eOp, eUn, toB, bV, bAnd, bOr, bNot, eB, eIf, aNil, aCons, eFn, eCall, eTup, eLst, eMt, eChain, iL, iT, eSl, eSlSt, oNone, oSome, toI, toL_lst, toT_tup, Res.bind_ok, Res.bind_no, ofO_some, ofO_none, List.map_cons, List.map_nil, List.length_cons, List.length_nil, List.cons_append, List.nil_append, List.replicate, List.getElem?_cons_zero, List.getElem?_cons_succ, List.set_cons_zero, List.set_cons_succ, if_true, if_false, Bool.false_eq_true, Nat.sub_self, Nat.reduceSub, Nat.reduceAdd, isi_int_int, isi_int_bool, isi_int_tuple, isi_int_list, isi_int_str, isi_bl_int, isi_bl_bool, isi_bl_tuple, isi_bl_list, isi_bl_str, isi_non_int, isi_non_bool, isi_non_tuple, isi_non_list, isi_non_str, isi_str_int, isi_str_bool, isi_str_tuple, isi_str_list, isi_str_str, isi_tup_int, isi_tup_bool, isi_tup_tuple, isi_tup_list, isi_tup_str, isi_lst_int, isi_lst_bool, isi_lst_tuple, isi_lst_list, isi_lst_str, isi_tr_int, isi_tr_bool, isi_tr_tuple, isi_tr_list, isi_tr_str, isi_bk_int, isi_bk_bool, isi_bk_tuple, isi_bk_list, isi_bk_str, isi_dic_int, isi_dic_bool, isi_dic_tuple, isi_dic_list, isi_dic_str, isL_bk, divD_2, modD_2, divD_3, modD_3, divD_4, modD_4, divD_5, modD_5, divD_6, modD_6, divD_7, modD_7, divD_8, modD_8, divD_9, modD_9, divD_10, modD_10, divD_11, modD_11, divD_13, modD_13, divD_15, modD_15, divD_17, modD_17, divD_24, modD_24, divD_40, modD_40, divD_41, modD_41, divD_44, modD_44, divD_60, modD_60, divD_90, modD_90, divD_100, modD_100, divD_120, modD_120, divD_T30, modD_T30, divD_T40, modD_T40, divD_T60, modD_T60, powD_30, powD_40, powD_60, sumD_ints, Option.map_some, ↓reduceIte, reduceCtorEq, isLst, addD_int, subD_int, ltD_int, leD_int, gtD_int, geD_int, negD_int, eqD_int, neD_int, ix0_tr, ix1_tr, ix0, ix1, len_tr, len_bk, len_tup2, toL_bk, toT_tr, list_bk, eqD_bk, neD_bk, eqD_tr, neD_tr, eqD_bk0, neD_bk0, Bool.not_true, Bool.not_false, Bool.true_and, Bool.false_and, Bool.and_true, Bool.and_false, decide_true, decide_false])
theorem is_number_eq (n m : Int) : f_is_number K [.int n, .int m] = .ok (.bl (decide (m ≤ n))) := by
  unfold f_is_number g_is_number
  walk_at "ev"
theorem is_pair_eq (t : Tr) (m : Int) : f_is_pair K [tr t, .int m] = .ok (.bl (decide (0 ≤ t.1) && decide (m ≤ t.2))) := by
  unfold f_is_pair g_is_pair
  walk_at "ev"
  simp only [is_number_eq, Res.bind_ok]
  by_cases h : 0 ≤ t.1 <;> simp [h, toB]
theorem common_eq {a b : Int} (ha : 0 ≤ a) (hb : 0 ≤ b) : f_common K [.int a, .int b] = .ok (.int (gcdI a b)) := by
  unfold f_common g_common sWhile
  walk_at "ev"
  have e : fuel 1 [Sl.sh (.int a), Sl.sh (.int b)] = b.toNat + 1 := rfl
  have z := common_loop _ a b [] ha hb (Nat.lt_succ_self b.toNat)
  rw [e, z]
  rfl
theorem lowest_eq {a b : Int} (ha : 0 ≤ a) (hb : 0 < b) (hs : b.natAbs < lim) : f_lowest K [.int a, .int b] = .ok (tr (low a b)) := by
  unfold f_lowest g_lowest
  walk_at "ev"
  rw [common_eq ha (Int.le_of_lt hb)]
  have h1 := gcdI_pos (a := a) hb
  have h2 := gcdI_le (a := a) hb
  have h3 : (gcdI a b).natAbs < lim := Nat.lt_of_le_of_lt (by omega) hs
  walk_at "ev"
  simp only [divD_int h1 h3]
  rfl
/-- books -/
structure Bk (l : List Tr) : Prop where
  ne : l ≠ []
  len : l.length ≤ 1000
  nn : ∀ t ∈ l, 0 ≤ t.1 ∧ 0 ≤ t.2
  sm : ∀ t ∈ l, Sm t.1 ∧ Sm t.2
theorem check_book_eq {l : List Tr} (h : Bk l) : f_check_book K [bk l] = .ok .non := by
  unfold f_check_book g_check_book
  walk_at "ev"
  rw [eLC_of l tr (fun t => .bl (decide (0 ≤ t.1) && decide (0 ≤ t.2))) (by walk_at "ev") (Nat.le_trans h.len (by decide)) (fun t ht => ⟨_, rfl, by
    simp only [eCall, aCons, aNil, eVar, eC, wipeE, List.set_cons_succ, List.set_cons_zero, List.getElem?_cons_succ, List.getElem?_cons_zero, Res.bind_ok, is_pair_eq]⟩)]
  walk_at "ev"
  rw [allD_map]
  have e : (l.all fun t => decide (0 ≤ t.1) && decide (0 ≤ t.2)) = true := by
    rw [List.all_eq_true]
    intro t ht
    obtain ⟨h1, h2⟩ := h.nn t ht
    simp [h1, h2]
  simp [h.ne, e, toB]
theorem check_place_eq {l : List Tr} {j : Nat} (h : j < l.length) : f_check_place K [bk l, .int j] = .ok .non := by
  unfold f_check_place g_check_place
  walk_at "ev"
  simp only [is_number_eq, Res.bind_ok]
  have h1 : (0 : Int) ≤ (j : Int) := by omega
  have h2 : ¬ ((l.length : Int) ≤ (j : Int)) := by omega
  simp [h1, h2, toB]
theorem check_amount_eq {p : Tr} (h : Am p) : f_check_amount K [tr p] = .ok .non := by
  unfold f_check_amount g_check_amount
  walk_at "ev"
  have h1 : (1 : Int) ≤ p.2 := h.d0
  simp only [is_pair_eq, Res.bind_ok, common_eq h.n0 (Int.le_of_lt h.d0), h.gc, decide_eq_true h.n0, decide_eq_true h1]
  walk_at "ev"
theorem cost_of_eq {t p : Tr} (h1 : mulOk t.1 p.2 = true) (h2 : mulOk t.2 p.1 = true) : f_cost_of K [tr t, tr p] = .ok (.int (cst t p)) := by
  unfold f_cost_of g_cost_of
  walk_at "ev"
  simp only [mulD_int h1, mulD_int h2]
  rfl
structure SmT (t : Tr) : Prop where
  a : Sm t.1
  b : Sm t.2
theorem SmT.of {t : Tr} (h : Sm t.1 ∧ Sm t.2) : SmT t := ⟨h.1, h.2⟩
theorem cost_of_sm {t p : Tr} (h1 : SmT t) (h2 : SmT p) : f_cost_of K [tr t, tr p] = .ok (.int (cst t p)) := cost_of_eq (mulOk_sm h1.a h2.b) (mulOk_sm h1.b h2.a)
theorem Bk.at {l : List Tr} {t : Tr} (h : Bk l) (ht : t ∈ l) : SmT t := ⟨(h.sm t ht).1, (h.sm t ht).2⟩
theorem cost_eq {l : List Tr} {j : Nat} {t p : Tr} (h : Bk l) (hj : l[j]? = some t) (hp : Am p) (sp : SmT p) : f_cost K [bk l, .int j, tr p] = .ok (tr (low (cst t p) p.2)) := by
  have hl : j < l.length := (List.getElem?_eq_some_iff.mp hj).1
  have ht : t ∈ l := List.mem_of_getElem? hj
  unfold f_cost g_cost
  walk_at "ev"
  repeat (first | simp only [check_book_eq h, check_place_eq hl, check_amount_eq hp, ix_bk hj, cost_of_sm (h.at ht) sp, lowest_eq (cst_nonneg (h.nn t ht).1 (h.nn t ht).2 hp) hp.d0 (sm_lim sp.b)] | walk_at "ev")
/-- the costs -/
def csts (l : List Tr) (p : Tr) : List Int := l.map fun t => cst t p
theorem csts_ne {l : List Tr} {p : Tr} (h : l ≠ []) : csts l p ≠ [] := fun z => h (List.map_eq_nil_iff.mp z)
theorem min_csts_nonneg {l : List Tr} {p : Tr} (h : Bk l) (hp : Am p) : 0 ≤ minL (csts l p) := by
  obtain ⟨t, ht, e⟩ := List.mem_map.mp (minL_mem (csts_ne (p := p) h.ne))
  have e : cst t p = minL (csts l p) := e
  rw [← e]
  exact cst_nonneg (h.nn t ht).1 (h.nn t ht).2 hp
theorem cheapest_eq {l : List Tr} {p : Tr} (h : Bk l) (hp : Am p) (sp : SmT p) : f_cheapest K [bk l, tr p] = .ok (.tup [.int ((csts l p).idxOf (minL (csts l p)) : Nat), tr (low (minL (csts l p)) p.2)]) := by
  unfold f_cheapest g_cheapest
  walk_at "ev"
  repeat (first | simp only [check_book_eq h, check_amount_eq hp] | walk_at "ev")
  rw [eLC_of l tr (fun t => .int (cst t p)) (by walk_at "ev") (Nat.le_trans h.len (by decide)) (fun t ht => ⟨_, rfl, by
    simp only [eCall, aCons, aNil, eVar, eC, wipeE, List.set_cons_succ, List.set_cons_zero, List.getElem?_cons_succ, List.getElem?_cons_zero, Res.bind_ok, cost_of_sm (h.at ht) sp]⟩)]
  have em : (l.map fun t => D.int (cst t p)) = (csts l p).map D.int := by
    unfold csts
    rw [List.map_map]
    rfl
  rw [em]
  walk_at "ev"
  rw [minD_ints (csts_ne h.ne)]
  walk_at "ev"
  rw [indexD_ints (minL_mem (csts_ne h.ne))]
  walk_at "ev"
  rw [lowest_eq (min_csts_nonneg h hp) hp.d0 (sm_lim sp.b)]
  rfl
theorem law_lowest_eq {a b : Int} (ha : 0 ≤ a) (hb : 0 < b) (hs : b.natAbs < lim) : f__law_lowest K [.int a, .int b] = .ok (tr (low a b)) := by
  unfold f__law_lowest g__law_lowest sWhile
  walk_at "ev"
  have e : fuel 3 [Sl.sh (.int a), Sl.sh (.int b), Sl.sh (.int a), Sl.sh (.int b)] = b.toNat + 1 := rfl
  have h1 := gcdI_pos (a := a) hb
  have h2 := gcdI_le (a := a) hb
  have h3 : (gcdI a b).natAbs < lim := Nat.lt_of_le_of_lt (by omega) hs
  rw [e, common_loop2 _ a b (.sh (.int a)) (.sh (.int b)) [] ha (Int.le_of_lt hb) (Nat.lt_succ_self _)]
  repeat (first | simp only [divD_int h1 h3] | walk_at "ev")
  rfl
theorem law_amount_eq (c : Int) : ∃ p, Am p ∧ SmT p ∧ f__law_amount K [.int c] = .ok (tr p) := by
  by_cases h : c % 3 = 0
  · have a0 : 0 ≤ c / 3 % 40 := Int.emod_nonneg _ (by decide)
    have a1 : c / 3 % 40 < 40 := Int.emod_lt_of_pos _ (by decide)
    have b0 : 0 ≤ c / 120 % 9 := Int.emod_nonneg _ (by decide)
    have b1 : c / 120 % 9 < 9 := Int.emod_lt_of_pos _ (by decide)
    have sa : Sm (c / 3 % 40) := sm_lt a0 (by omega)
    have sb : Sm (1 + c / 120 % 9) := sm_lt (by omega) (by omega)
    refine ⟨low (c / 3 % 40) (1 + c / 120 % 9), low_am a0 (by omega), .of (low_sm a0 (by omega) sa sb), ?_⟩
    unfold f__law_amount g__law_amount
    repeat (first | simp only [h] | walk_at "ev" | rw [law_lowest_eq a0 (by omega) (sm_lim sb)])
  · have a0 : 0 ≤ c / 3 % 1000000000000000000000000000000 := Int.emod_nonneg _ (by decide)
    have a1 : c / 3 % 1000000000000000000000000000000 < 1000000000000000000000000000000 := Int.emod_lt_of_pos _ (by decide)
    have b0 : 0 ≤ (c / 3 / 1000000000000000000000000000000 + c / 7) % 1000000000000000000000000000000 := Int.emod_nonneg _ (by decide)
    have b1 : (c / 3 / 1000000000000000000000000000000 + c / 7) % 1000000000000000000000000000000 < 1000000000000000000000000000000 := Int.emod_lt_of_pos _ (by decide)
    have sa : Sm (c / 3 % 1000000000000000000000000000000) := sm_lt a0 (by omega)
    have sb : Sm (1 + (c / 3 / 1000000000000000000000000000000 + c / 7) % 1000000000000000000000000000000) := sm_lt (by omega) (by omega)
    refine ⟨low (c / 3 % 1000000000000000000000000000000) (1 + (c / 3 / 1000000000000000000000000000000 + c / 7) % 1000000000000000000000000000000), low_am a0 (by omega), .of (low_sm a0 (by omega) sa sb), ?_⟩
    unfold f__law_amount g__law_amount
    repeat (first | simp only [h] | walk_at "ev" | rw [law_lowest_eq a0 (by omega) (sm_lim sb)])
theorem law_is_amount_eq {p : Tr} (h : Am p) (hs : p.2.natAbs < lim) : f__law_is_amount K [tr p] = .ok (.bl true) := by
  unfold f__law_is_amount g__law_is_amount
  have e1 : eLC [1] (bNm 1) bYes (eB (bAnd (bV (eFn (isiD K (cis K)) (aCons (eVar 1) (aCons (eC (.ty "int")) aNil)))) (bNot (bV (eFn (isiD K (cis K)) (aCons (eVar 1) (aCons (eC (.ty "bool")) aNil))))))) (iT (eVar 0)) [Sl.sh (tr p), Sl.no] = .ok (.lst ([p.1, p.2].map fun _ => .bl true)) :=
    eLC_of [p.1, p.2] D.int (fun _ => .bl true) rfl (by show 2 ≤ _; decide) (fun x hx => ⟨_, rfl, by
      simp only [wipeE]
      walk_at "ev"⟩)
  repeat (first | rw [e1] | walk_at "ev")
  have e2 : allD [.lst [.bl true, .bl true]] = some (.bl true) := rfl
  repeat (first | simp only [e2, decide_eq_true h.n0, decide_eq_true h.d0, law_lowest_eq h.n0 h.d0 hs, low_of_am h] | walk_at "ev")
theorem law_cost_eq {t p : Tr} (h1 : SmT t) (h2 : SmT p) : f__law_cost K [tr t, tr p] = .ok (.int (cst t p)) := by
  unfold f__law_cost g__law_cost
  repeat (first | simp only [mulD_int (mulOk_sm h1.a h2.b), mulD_int (mulOk_sm h1.b h2.a)] | walk_at "ev")
  rfl
theorem law_whole_eq (i : Int) : f__law_whole K [.int i] = .ok (.bl true) := by
  unfold f__law_whole g__law_whole
  walk_at "ev"
theorem law_size (q : Int) : ∃ z : Int, 0 < z ∧ z ≤ 1000000000000000000000000000000 ∧ ixD (.tup [.int 9, .int 60, .int 1000000000000000000000000000000, .int 9]) (.int (q % 4)) = some (.int z) := by
  have h0 : 0 ≤ q % 4 := Int.emod_nonneg _ (by decide)
  have h1 : q % 4 < 4 := Int.emod_lt_of_pos _ (by decide)
  have h : q % 4 = 0 ∨ q % 4 = 1 ∨ q % 4 = 2 ∨ q % 4 = 3 := by omega
  rcases h with e | e | e | e <;> rw [e]
  · exact ⟨9, by decide, by decide, rfl⟩
  · exact ⟨60, by decide, by decide, rfl⟩
  · exact ⟨1000000000000000000000000000000, by decide, by decide, rfl⟩
  · exact ⟨9, by decide, by decide, rfl⟩
theorem law_book_eq (ns : List Int) (hl : ns.length ≤ 63) : ∃ l, Bk l ∧ l.length ≤ 100 ∧ f__law_book K [.lst (ns.map D.int)] = .ok (bk l) := by
  obtain ⟨z, z0, z1, hz⟩ := law_size (ns.sum / 7)
  have zl : z.natAbs < lim := smallv z (by omega)
  have d : ∀ i : Int, divD (.int i) (.int z) = some (.int (i / z)) := fun i => divD_int z0 zl
  have m : ∀ i : Int, modD (.int i) (.int z) = some (.int (i % z)) := fun i => modD_int z0
  have small : ∀ c : Int, (1 - c % 2 * 2).natAbs < 2 ^ 60 := fun c => by
    have h0 : 0 ≤ c % 2 := Int.emod_nonneg _ (by decide)
    have h1 : c % 2 < 2 := Int.emod_lt_of_pos _ (by decide)
    omega
  have small2 : ∀ c : Int, mulOk (c % 2) 2 = true := fun c => mulOk_r (by decide)
  have small3 : ∀ c : Int, mulOk (c / 7) (1 - c % 2 * 2) = true := fun c => mulOk_r (small c)
  let R : Int → Int := fun c => c / z + c / 7 * (1 - c % 2 * 2)
  let F : List Tr := ns.map fun c => (c % z, R c % z)
  have hF : ∀ t ∈ F, (0 ≤ t.1 ∧ 0 ≤ t.2) ∧ Sm t.1 ∧ Sm t.2 := fun t ht => by
    obtain ⟨c, _, rfl⟩ := List.mem_map.mp ht
    have a0 : 0 ≤ c % z := Int.emod_nonneg _ (by omega)
    have a1 : c % z < z := Int.emod_lt_of_pos _ z0
    have b0 : 0 ≤ R c % z := Int.emod_nonneg _ (by omega)
    have b1 : R c % z < z := Int.emod_lt_of_pos _ z0
    exact ⟨⟨a0, b0⟩, sm_lt a0 (by omega), sm_lt b0 (by omega)⟩
  have fl : F.length ≤ 63 := by
    show (ns.map _).length ≤ 63
    rw [List.length_map]
    exact hl
  have c1 : ∀ r : Env, eLC [4] (bNm 4) bYes (eOp addD (eOp divD (eVar 4) (eVar 2)) (eOp mulD (eOp divD (eVar 4) (eC (.int 7))) (eOp subD (eC (.int 1)) (eOp mulD (eOp modD (eVar 4) (eC (.int 2))) (eC (.int 2)))))) (iL (eVar 0)) [.sh (.lst (ns.map D.int)), .sh (.int ns.sum), .sh (.int z), .no, .no, .no, .no, .no, .no] = .ok (.lst (ns.map fun c => .int (R c))) := fun r =>
    eLC_of ns D.int (fun c => .int (R c)) rfl (by omega) fun c _ => ⟨_, rfl, by
      simp only [wipeE]
      repeat (first | simp only [d, m, mulD_int (small2 c), mulD_int (small3 c)] | walk_at "ev")
      rfl⟩
  have c2 : eLC [4, 6] (bTup (bsCons (bNm 4) (bsCons (bNm 6) bsNil))) bYes (eTup (aCons (eOp modD (eVar 4) (eVar 2)) (aCons (eOp modD (eVar 6) (eVar 2)) aNil))) (iZ (aCons (eVar 0) (aCons (eVar 3) aNil))) [.sh (.lst (ns.map D.int)), .sh (.int ns.sum), .sh (.int z), .sh (.lst (ns.map fun c => .int (R c))), .no, .no, .no, .no, .no] = .ok (bk F) := by
    rw [eLC_of ns (fun c => .tup [.int c, .int (R c)]) (fun c => tr (c % z, R c % z)) (by
      unfold iZ
      walk_at "ev"
      rw [zip_map]) (by omega) fun c _ => ⟨_, rfl, by
      simp only [wipeE]
      repeat (first | simp only [d, m] | walk_at "ev")
      rfl⟩]
    show Res.ok (D.lst _) = Res.ok (D.lst (F.map tr))
    show _ = Res.ok (D.lst ((ns.map _).map tr))
    rw [List.map_map]
    rfl
  -- the hill
  have hM0 : 0 ≤ ns.sum / 44 % 24 := Int.emod_nonneg _ (by decide)
  have hM1 : ns.sum / 44 % 24 < 24 := Int.emod_lt_of_pos _ (by decide)
  have hc0 : 0 ≤ ns.sum % 5 := Int.emod_nonneg _ (by decide)
  have hc1 : ns.sum % 5 < 5 := Int.emod_lt_of_pos _ (by decide)
  have hd0 : 0 ≤ ns.sum / 7 % 9 := Int.emod_nonneg _ (by decide)
  have hd1 : ns.sum / 7 % 9 < 9 := Int.emod_lt_of_pos _ (by decide)
  obtain ⟨M, eM⟩ : ∃ M : Int, M = 1 + ns.sum / 44 % 24 := ⟨_, rfl⟩
  let T : Nat → Int := fun k => ((0 + (k : Int)) * (0 + (k : Int) + 1)) / 2
  let G : List Tr := (List.range M.toNat).map fun (k : Nat) => (T k * (1 + ns.sum % 5) + ns.sum / 7 % 9, M - (0 + (k : Int)))
  have hT : ∀ k : Nat, k < 24 → 0 ≤ T k ∧ T k ≤ 300 := fun k hk => by
    have h1 : (k : Int) ≤ 23 := by omega
    have h2 : (0 + (k : Int)) * (0 + (k : Int) + 1) ≤ 23 * 24 := Int.mul_le_mul (by omega) (by omega) (by omega) (by omega)
    have h3 : 0 ≤ (0 + (k : Int)) * (0 + (k : Int) + 1) := Int.mul_nonneg (by omega) (by omega)
    show 0 ≤ (0 + (k : Int)) * (0 + (k : Int) + 1) / 2 ∧ (0 + (k : Int)) * (0 + (k : Int) + 1) / 2 ≤ 300
    omega
  have gl : G.length ≤ 24 := by
    show ((List.range M.toNat).map _).length ≤ 24
    rw [List.length_map, List.length_range]
    omega
  have hG : ∀ t ∈ G, (0 ≤ t.1 ∧ 0 ≤ t.2) ∧ Sm t.1 ∧ Sm t.2 := fun t ht => by
    obtain ⟨k, hk, rfl⟩ := List.mem_map.mp ht
    have hk : k < M.toNat := List.mem_range.mp hk
    obtain ⟨t0, t1⟩ := hT k (by omega)
    have p0 : 0 ≤ T k * (1 + ns.sum % 5) := Int.mul_nonneg t0 (by omega)
    have p1 : T k * (1 + ns.sum % 5) ≤ 300 * 5 := Int.mul_le_mul t1 (by omega) (by omega) (by omega)
    exact ⟨⟨by show 0 ≤ _ + _; omega, by show 0 ≤ M - _; omega⟩, sm_lt (by show 0 ≤ _ + _; omega) (by show _ + _ < _; omega), sm_lt (by show 0 ≤ M - _; omega) (by show M - _ < _; omega)⟩
  have c3 : ∀ b : Sl, eLC [8] (bNm 8) bYes (eTup (aCons (eOp addD (eOp mulD (eOp divD (eOp mulD (eVar 8) (eOp addD (eVar 8) (eC (.int 1)))) (eC (.int 2))) (eOp addD (eC (.int 1)) (eOp modD (eVar 1) (eC (.int 5))))) (eOp modD (eOp divD (eVar 1) (eC (.int 7))) (eC (.int 9)))) (aCons (eOp subD (eVar 7) (eVar 8)) aNil))) (iR1 (aCons (eVar 7) aNil)) [.sh (.lst (ns.map D.int)), .sh (.int ns.sum), .sh (.int z), .sh (.lst (ns.map fun c => .int (R c))), .no, .sh (bk F), .no, .sh (.int M), b] = .ok (bk G) := fun b => by
    rw [eLC_of (List.range M.toNat) (fun (k : Nat) => .int (0 + (k : Int))) (fun (k : Nat) => tr (T k * (1 + ns.sum % 5) + ns.sum / 7 % 9, M - (0 + (k : Int)))) (by
      unfold iR1
      walk_at "ev"
      rw [if_pos (by omega)]
      unfold rangeD
      rw [Int.sub_zero]) (by rw [List.length_range]; omega) fun k hk => ⟨_, rfl, by
      have hk : k < M.toNat := List.mem_range.mp hk
      obtain ⟨t0, t1⟩ := hT k (by omega)
      have m1 : mulOk (0 + (k : Int)) (0 + (k : Int) + 1) = true := mulOk_l (by omega)
      have m2 : mulOk (T k) (1 + ns.sum % 5) = true := mulOk_l (by omega)
      simp only [wipeE]
      repeat (first | simp only [mulD_int m1] | walk_at "ev" | rw [show (0 + (k : Int)) * (0 + (k : Int) + 1) / 2 = T k from rfl, mulD_int m2])
      rfl⟩]
    show Res.ok (D.lst _) = Res.ok (D.lst (((List.range M.toNat).map _).map tr))
    rw [List.map_map]
    rfl
  have app : addD (bk F) (bk G) = some (bk (F ++ G)) := by
    show addD (.lst (F.map tr)) (.lst (G.map tr)) = some (.lst ((F ++ G).map tr))
    rw [addD_lst (by simp only [List.length_map]; omega), List.map_append]
  have last : ∀ L : List Tr, L.length ≤ 100 → (∀ t ∈ L, (0 ≤ t.1 ∧ 0 ≤ t.2) ∧ Sm t.1 ∧ Sm t.2) → Bk (if L = [] then [(ns.sum % 5, 3)] else L) := fun L h1 h2 => by
    by_cases c : L = []
    · rw [if_pos c]
      refine ⟨(fun z => nomatch z), (by show 1 ≤ 1000; decide), fun t ht => ?_, fun t ht => ?_⟩
      · obtain rfl := List.mem_singleton.mp ht
        exact ⟨hc0, (by decide : (0 : Int) ≤ 3)⟩
      · obtain rfl := List.mem_singleton.mp ht
        exact ⟨sm_lt hc0 (by omega), sm_small (by decide : (3 : Int).natAbs < 2 ^ 60)⟩
    · rw [if_neg c]
      exact ⟨c, by omega, fun t ht => (h2 t ht).1, fun t ht => (h2 t ht).2⟩
  have one : D.lst [tr (ns.sum % 5, 3)] = bk [(ns.sum % 5, 3)] := rfl
  by_cases h : ns.sum / 4 % 11 = 5
  · refine ⟨if F ++ G = [] then [(ns.sum % 5, 3)] else F ++ G, last _ (by rw [List.length_append]; omega) fun t ht => ?_, ?_, ?_⟩
    · rcases List.mem_append.mp ht with ht | ht
      · exact hF t ht
      · exact hG t ht
    · split
      · show 1 ≤ 100
        decide
      · rw [List.length_append]; omega
    · unfold f__law_book g__law_book
      repeat (first | simp only [hz, h, pair_eq, one] | rw [c1 []] | rw [c2] | rw [← eM] | rw [c3] | simp only [app] | walk_at "ev")
      by_cases c : F ++ G = []
      · simp only [c]
        repeat (first | simp only [one] | walk_at "ev")
      · simp only [c]
        repeat (first | simp only [one] | walk_at "ev")
  · refine ⟨if F = [] then [(ns.sum % 5, 3)] else F, last F (by omega) hF, ?_, ?_⟩
    · split
      · show 1 ≤ 100
        decide
      · omega
    · unfold f__law_book g__law_book
      repeat (first | simp only [hz, h, pair_eq, one] | rw [c1 []] | rw [c2] | walk_at "ev")
      by_cases c : F = []
      · simp only [c]
        repeat (first | simp only [one] | walk_at "ev")
      · simp only [c]
        repeat (first | simp only [one] | walk_at "ev")
theorem law_eq (ns : List Int) (hl : ns.length ≤ 63) : f_law K [.lst (ns.map D.int)] = .ok (.bl true) := by
  obtain ⟨l, hb, hb2, hbk⟩ := law_book_eq (K := K) ns hl
  have hpos : (0 : Int) < l.length := by
    have := List.length_pos_iff.mpr hb.ne
    omega
  let I : Env → Prop := fun env => ∃ a3 a4 a5 a6 a7 a8 a9 a10, env = [.sh (.lst (ns.map D.int)), .sh (bk l), .sh (bk l), a3, a4, a5, a6, a7, a8, a9, a10]
  refine run0_rt ?_
  refine seq_set (d := bk l) (by repeat (first | simp only [hbk] | walk_at "ev")) ?_
  refine seq_set (d := bk l) (by repeat (first | simp only [hbk] | walk_at "ev")) ?_
  refine seq_for I (ds := enumFrom 0 ((ns ++ [0]).map D.int)) ?_ ⟨_, _, _, _, _, _, _, _, rfl⟩ ?_ ?_
  · unfold iE
    walk_at "ev"
    rw [addD_lst (by simp only [List.length_map, List.length_cons, List.length_nil]; omega)]
    walk_at "ev"
    rw [List.map_append]
    rfl
  · rintro d hd env ⟨a3, a4, a5, a6, a7, a8, a9, a10, rfl⟩
    obtain ⟨i, x, hx, rfl, _⟩ := mem_enum hd
    obtain ⟨c, _, rfl⟩ := List.mem_map.mp hx
    obtain ⟨p, am, sp, hp⟩ := law_amount_eq (K := K) c
    -- the place
    obtain ⟨j, hj⟩ : ∃ j : Nat, (i : Int) % l.length = j := ⟨((i : Int) % l.length).toNat, (Int.toNat_of_nonneg (Int.emod_nonneg _ (by omega))).symm⟩
    have hj2 : j < l.length := by
      have := Int.emod_lt_of_pos (i : Int) hpos
      omega
    obtain ⟨t, ht⟩ : ∃ t, l[j]? = some t := ⟨_, List.getElem?_eq_getElem hj2⟩
    have tm : t ∈ l := List.mem_of_getElem? ht
    have c0 := cst_nonneg (hb.nn t tm).1 (hb.nn t tm).2 am
    have lam := low_am c0 am.d0
    refine ⟨_, rfl, ?e2, ?A, ?B⟩
    case A =>
      refine seq_asg (d := .tup [tr p, .int j]) ?_ rfl ?_
      · repeat (first | simp only [hp, modD_int hpos, hj] | walk_at "ev")
      refine seq_set (d := tr (low (cst t p) p.2)) ?_ ?_
      · repeat (first | simp only [cost_eq hb ht am sp] | walk_at "ev")
      refine seq_set (d := tr (low (cst t p) p.2)) ?_ ?_
      · repeat (first | simp only [ix_bk ht, law_cost_eq (hb.at tm) sp, law_lowest_eq c0 am.d0 (sm_lim sp.b)] | walk_at "ev")
      refine ifF ?_
      have hz : (low (cst t p) p.2).2.natAbs < lim := by
        have g := gcdI_pos (a := cst t p) am.d0
        have h0 : 0 < (low (cst t p) p.2).2 := lam.d0
        have h1 : (low (cst t p) p.2).2 ≤ p.2 := Int.ediv_le_self _ (Int.le_of_lt am.d0)
        exact Nat.lt_of_le_of_lt (by omega) (sm_lim sp.b)
      repeat (first | simp only [law_is_amount_eq lam hz] | walk_at "ev")
    case B => exact ⟨_, _, _, _, _, _, _, _, rfl⟩
  · rintro env ⟨a3, a4, a5, a6, a7, a8, a9, a10, rfl⟩
    let A : Int → Tr := fun c => Classical.choose (law_amount_eq (K := K) c)
    have hA : ∀ c, Am (A c) ∧ SmT (A c) ∧ f__law_amount K [.int c] = .ok (tr (A c)) := fun c => Classical.choose_spec (law_amount_eq (K := K) c)
    let L : List Tr := (pickG ns none none 7).map A ++ [(0, 1), (1, 1), (ns.sum % 10000000000000000000000000000000000000000, 1)]
    have h40 : 0 ≤ ns.sum % 10000000000000000000000000000000000000000 := Int.emod_nonneg _ (by decide)
    have h41 : ns.sum % 10000000000000000000000000000000000000000 < 10000000000000000000000000000000000000000 := Int.emod_lt_of_pos _ (by decide)
    have one : ∀ n : Int, 0 ≤ n → n < 10000000000000000000000000000000000000000 → Am (n, 1) ∧ SmT (n, 1) := fun n h0 h1 => ⟨⟨h0, (by decide : (0 : Int) < 1), by
      unfold gcdI
      rw [show ((1 : Int).toNat) = 1 from rfl, Nat.gcd_one_right]
      rfl⟩, ⟨sm_lt h0 (by omega), sm_small (by decide : (1 : Int).natAbs < 2 ^ 60)⟩⟩
    have hL : ∀ p ∈ L, Am p ∧ SmT p := fun p hp => by
      rcases List.mem_append.mp hp with hp | hp
      · obtain ⟨c, _, rfl⟩ := List.mem_map.mp hp
        exact ⟨(hA c).1, (hA c).2.1⟩
      · rcases List.mem_cons.mp hp with rfl | hp
        · exact one 0 (by decide) (by decide)
        · rcases List.mem_cons.mp hp with rfl | hp
          · exact one 1 (by decide) (by decide)
          · obtain rfl := List.mem_singleton.mp hp
            exact one _ h40 h41
    refine seq_for I (ds := L.map tr) ?_ ⟨_, _, _, _, _, _, _, _, rfl⟩ ?_ ?_
    · have hk : (pickG ns none none 7).length ≤ 63 := Nat.le_trans (pickG_len ns none none 7 (by decide)) hl
      have e1 := eLC_of (vs := [4]) (bt := bNm 4) (fe := eCall (f__law_amount K) (aCons (eVar 4) aNil)) (fi := iL (eSlSt (eVar 0) oNone oNone (oSome (eC (.int 7))))) (env := [.sh (.lst (ns.map D.int)), .sh (bk l), .sh (bk l), a3, a4, a5, a6, a7, a8, a9, a10]) (pickG ns none none 7) D.int (fun c => tr (A c)) (by
        repeat (first | simp only [slSt_map D.int (show (7 : Int) ≠ 0 by decide) (show ns.length ≤ 1000000 by omega)] | walk_at "ev")) (by omega) (fun c _ => ⟨_, rfl, by
        simp only [wipeE]
        repeat (first | simp only [(hA c).2.2] | walk_at "ev")⟩)
      show Res.bind _ _ = _
      unfold eOp
      rw [e1]
      repeat (first | rw [addD_lst (by simp only [List.length_map, List.length_cons, List.length_nil]; omega)] | walk_at "ev")
      show Res.ok _ = Res.ok ((List.map _ _ ++ _).map tr)
      rw [List.map_append, List.map_map]
      rfl
    · rintro d hd env ⟨a3, a4, a5, a6, a7, a8, a9, a10, rfl⟩
      obtain ⟨p, hp, rfl⟩ := List.mem_map.mp hd
      obtain ⟨am, sp⟩ := hL p hp
      have m0 := min_csts_nonneg hb am
      have lam := low_am m0 am.d0
      have hz : (low (minL (csts l p)) p.2).2.natAbs < lim := by
        have h0 : 0 < (low (minL (csts l p)) p.2).2 := lam.d0
        have h1 : (low (minL (csts l p)) p.2).2 ≤ p.2 := Int.ediv_le_self _ (Int.le_of_lt am.d0)
        exact Nat.lt_of_le_of_lt (by omega) (sm_lim sp.b)
      have em : (l.map fun t => D.int (cst t p)) = (csts l p).map D.int := by
        unfold csts
        rw [List.map_map]
        rfl
      refine ⟨_, rfl, ?e3, ?A3, ?B3⟩
      case A3 =>
        refine seq_set (d := .lst ((csts l p).map D.int)) ?_ ?_
        · rw [eLC_of l tr (fun t => .int (cst t p)) rfl (Nat.le_trans hb.len (by decide)) (fun t ht => ⟨_, rfl, by
            simp only [wipeE]
            repeat (first | simp only [law_cost_eq (hb.at ht) sp] | walk_at "ev")⟩), em]
        refine seq_set (d := .tup [.int ((csts l p).idxOf (minL (csts l p)) : Nat), tr (low (minL (csts l p)) p.2)]) ?_ ?_
        · repeat (first | simp only [cheapest_eq hb am sp] | walk_at "ev")
        refine seq_ifF ?_ ?_
        · repeat (first | simp only [law_whole_eq, law_is_amount_eq lam hz] | walk_at "ev")
        refine ifF ?_
        have eself : neD (.tup [.int ((csts l p).idxOf (minL (csts l p)) : Nat), tr (low (minL (csts l p)) p.2)]) (.tup [.int ((csts l p).idxOf (minL (csts l p)) : Nat), tr (low (minL (csts l p)) p.2)]) = some (.bl false) := neD_self rfl rfl rfl
        repeat (first | simp only [minD_ints (csts_ne hb.ne), indexD_ints (minL_mem (csts_ne hb.ne)), law_lowest_eq m0 am.d0 (sm_lim sp.b), eself] | walk_at "ev")
      case B3 => exact ⟨_, _, _, _, _, _, _, _, rfl⟩
    · rintro env ⟨a3, a4, a5, a6, a7, a8, a9, a10, rfl⟩
      refine ret_of ?_
      have hb3 : Bk [(3, 0), (0, 1), (3, 0)] := by
        refine ⟨(fun z => nomatch z), by decide, fun t ht => ?_, fun t ht => ?_⟩
        · simp only [List.mem_cons, List.not_mem_nil, or_false] at ht
          rcases ht with rfl | rfl | rfl <;> decide
        · simp only [List.mem_cons, List.not_mem_nil, or_false] at ht
          rcases ht with rfl | rfl | rfl <;> exact ⟨sm_small (by decide), sm_small (by decide)⟩
      have e3 := cheapest_eq (K := K) hb3 (one 3 (by decide) (by decide)).1 (one 3 (by decide) (by decide)).2
      have e4 : csts [(3, 0), (0, 1), (3, 0)] (3, 1) = [3, 3, 3] := by decide
      have e5 : low 3 1 = (3, 1) := by decide
      have e6 : minL [3, 3, 3] = 3 := by decide
      have e7 : [3, 3, 3].idxOf (3 : Int) = 0 := by decide
      rw [e4, e6, e7, e5] at e3
      have e8 : D.lst [tr (3, 0), tr (0, 1), tr (3, 0)] = bk [(3, 0), (0, 1), (3, 0)] := rfl
      have eself : eqD (.tup [.int ((0 : Nat) : Int), tr (3, 1)]) (.tup [.int 0, tr (3, 1)]) = some (.bl true) := eqD_self (p := .tuple [.int 0, .tuple [.int 3, .int 1]]) rfl rfl rfl
      repeat (first | simp only [pair_eq, e8, e3, eself] | walk_at "ev")
end Dt.Ws
open PySem PySem.W PySem.Calls PyProof.Rows
theorem PySem.Challenge.cw_leasttariff_k01_costs_holds : PySem.Challenge.rw_leasttariff_k01_costs.Holds := by
  w_on; o_law
  refine HandSHeadRun.head_any (r := OpenLaw.row PySem.Challenge.rw_leasttariff_k01_costs) (q := view (OpenLaw.row PySem.Challenge.rw_leasttariff_k01_costs).prog [23]) (H := Dt.Ws.hk) (ob := Dt.Ws.ob) (M := 4000) (loose := Dt.Ws.names) (d := HandSHeadRun.topDef (OpenLaw.row PySem.Challenge.rw_leasttariff_k01_costs).prog 23) (kwd := []) Dt.Ws.ob_eq
    (by kernel_rfl) (fun s => by kernel_rfl) Dt.Ws.hrun (by kernel_rfl) (by kernel_rfl) (by kernel_rfl) (by rfl) (by first | assumption | decide +kernel) (by decide +kernel) ⟨rfl, rfl, rfl, rfl, rfl, by decide +kernel⟩ ?hw ?hc
  case hw => w_witness2
  case hc =>
    refine L2.walk_ofE (l := PySem.Challenge.rw_leasttariff_k01_costs) (n := 63) (k := 5) (x := "_law_script") (CX := L2.CX0) rfl (by decide) (by kernel_rfl) ⟨rfl, by decide, by decide⟩ ?F (fun _ _ _ _ z => z)
    intro w mg fa h Y G hmg0
    obtain ⟨K, KX, c⟩ := Y
    have hmg : mg ("law" : PySem.Str) = some (.ref fa) := by
      have e : (HandSHeadRun.topDef (OpenLaw.row PySem.Challenge.rw_leasttariff_k01_costs).prog 23).name = ("law" : PySem.Str) := by kernel_rfl
      rw [← e]
      exact hmg0
    have T := Dt.Ws.top_of KX G c
    have e := hmg.symm.trans T.g_law
    cases e
    obtain ⟨fd, F⟩ := T.d_law
    exact ⟨K, fd, Dt.spD K 1 (Dt.Ws.f_law K), KX, fun s v => F.bindsA (ps := ["_law_script"]) (fun _ _ _ _ _ _ us hl => match us, hl with | [_], _ => rfl) s [v] rfl,
      fun H a ns hl _ hS => Dt.law_sp (Dt.Ws.law_eq ns hl) hS, fun base _ _ => Dt.Ws.okF_law T F⟩
