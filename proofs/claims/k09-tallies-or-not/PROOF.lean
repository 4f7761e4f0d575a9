import PyProof.Rows.All
import Wide.All
import OpenK.AllK
import Wide.FinOn
import HandS.ForMost
import HandS.Exc
import HandS.Wide
import HandS.NoneIn
import HandS.TupAny
import HandS.Walk
import HandS.IsInst
import HandS.Flow
import HandS.Deep
import HandS.Defaults
import HandS.Star
import HandS.Style
import KE.GoesNew
import KE.DataCmp
import HandS.WordsExc
import KE.KStateDown
import HandS.Ends
import HandS.Head0
import HandS.Head1
import HandS.Head2
import HandS.HeadEnd
import HandS.HeadHook1
import HandS.HeadHook2
import PySem.Challenge.RW_lakevisits_k09_tallies_or_not
import KE.SortData
set_option Elab.async false
set_option linter.all false
set_option maxRecDepth 100000
set_option maxHeartbeats 4000000
namespace DL
open PySem PySem.Spec PyProof.Rows L2

/-! ### data -/
inductive D where
  | non | bl (b : Bool) | int (i : Int) | str (x : Str) | ty (n : String)
  | tup (l : List D) | lst (l : List D)
  | dct (ks : List (List Key)) (l : List D)
  | dck (ks : List Key) (l : List D)
  | scr (ns : List Int)
  | kt (l : List D)
  | exc (c : Str) (ns : List Str) (l : List D)
  deriving Inhabited

mutual
def Rep (K : PySem.W.Frag) (F : Hp) : D → V → Prop
  | .non, v => v = .non
  | .bl b, v => v = .bl b
  | .int i, v => v = .int i
  | .str x, v => v = .str x
  | .ty x, v => v = .ty x
  | .tup l, v => ∃ a vs, v = .ref a ∧ F a = some (.tup vs) ∧ RepL K F l vs
  | .kt l, v => ∃ a vs, v = .ref a ∧ SqT K F a vs ∧ RepL K F l vs
  | .lst l, v => ∃ a vs, v = .ref a ∧ F a = some (.lst vs) ∧ RepL K F l vs
  | .scr ns, v => ∃ a, v = .ref a ∧ SqL K F a (ns.map V.int)
  | .dct ks l, v => ∃ a kvs, v = .ref a ∧ F a = some (.dT kvs) ∧ kvs.map (·.1) = ks ∧ RepL K F l (kvs.map (·.2))
  | .dck ks l, v => ∃ a kvs, v = .ref a ∧ F a = some (.dK kvs) ∧ kvs.map (·.1) = ks ∧ RepL K F l (kvs.map (·.2))
  | .exc _ _ _, _ => False
def RepL (K : PySem.W.Frag) (F : Hp) : List D → List V → Prop
  | [], vs => vs = []
  | d :: ds, vs => ∃ v r, vs = v :: r ∧ Rep K F d v ∧ RepL K F ds r
end
theorem same_sqL {K : PySem.W.Frag} {F F' : Hp} (h : Same F F') {a : Addr} {xs : List V} (q : SqL K F a xs) : SqL K F' a xs := h.seq q
theorem same_sqT {K : PySem.W.Frag} {F F' : Hp} (e : Same F F') {a : Addr} {xs : List V} (h : SqT K F a xs) : SqT K F' a xs := by
  rcases h with (h | ⟨o, h⟩) | h
  · exact .inl (.inl (e _ _ h))
  · exact .inl (.inr ⟨o, e _ _ h⟩)
  · exact .inr h
mutual
theorem Rep.mono {K : PySem.W.Frag} {F F' : Hp} (h : Same F F') : ∀ (d : D) (v : V), Rep K F d v → Rep K F' d v
  | .non, _, r => r
  | .bl _, _, r => r
  | .int _, _, r => r
  | .str _, _, r => r
  | .ty _, _, r => r
  | .tup l, _, ⟨a, vs, e, q, r⟩ => ⟨a, vs, e, h _ _ q, RepL.mono h l _ r⟩
  | .kt l, _, ⟨a, vs, e, q, r⟩ => ⟨a, vs, e, same_sqT h q, RepL.mono h l _ r⟩
  | .lst l, _, ⟨a, vs, e, q, r⟩ => ⟨a, vs, e, h _ _ q, RepL.mono h l _ r⟩
  | .scr _, _, ⟨a, e, q⟩ => ⟨a, e, same_sqL h q⟩
  | .dct _ l, _, ⟨a, kvs, e, q, k, r⟩ => ⟨a, kvs, e, h _ _ q, k, RepL.mono h l _ r⟩
  | .dck _ l, _, ⟨a, kvs, e, q, k, r⟩ => ⟨a, kvs, e, h _ _ q, k, RepL.mono h l _ r⟩
  | .exc _ _ _, _, r => r
theorem RepL.mono {K : PySem.W.Frag} {F F' : Hp} (h : Same F F') : ∀ (l : List D) (vs : List V), RepL K F l vs → RepL K F' l vs
  | [], _, r => r
  | d :: l, _, ⟨v, r, e, q, t⟩ => ⟨v, r, e, Rep.mono h d v q, RepL.mono h l r t⟩
end
section
variable {K : PySem.W.Frag} {F : Hp}
theorem RepL.nil : RepL K F [] [] := rfl
theorem RepL.cons {d : D} {v : V} {l : List D} {vs : List V} (h : Rep K F d v) (t : RepL K F l vs) : RepL K F (d :: l) (v :: vs) := ⟨v, vs, rfl, h, t⟩
theorem RepL.length : ∀ {l : List D} {vs : List V}, RepL K F l vs → l.length = vs.length
  | [], _, rfl => rfl
  | _ :: _, _, ⟨_, _, rfl, _, t⟩ => by rw [List.length_cons, List.length_cons, t.length]
theorem RepL.get : ∀ {l : List D} {vs : List V} {i : Nat} {d : D}, RepL K F l vs → l[i]? = some d → ∃ v, vs[i]? = some v ∧ Rep K F d v
  | [], _, _, _, _, e => by simp at e
  | x :: l, _, 0, d, ⟨v, r, e1, q, t⟩, e => by
    subst e1
    have e2 : x = d := Option.some.inj e
    subst e2
    exact ⟨v, rfl, q⟩
  | x :: l, _, i + 1, d, ⟨v, r, e1, q, t⟩, e => by
    subst e1
    exact t.get (i := i) e
theorem RepL.get' : ∀ {l : List D} {vs : List V} {i : Nat} {v : V}, RepL K F l vs → vs[i]? = some v → ∃ d, l[i]? = some d ∧ Rep K F d v
  | [], _, _, _, rfl, e => by simp at e
  | x :: l, _, 0, d, ⟨v, r, e1, q, t⟩, e => by
    subst e1
    have e2 : v = d := Option.some.inj e
    subst e2
    exact ⟨x, rfl, q⟩
  | x :: l, _, i + 1, d, ⟨v, r, e1, q, t⟩, e => by
    subst e1
    exact t.get' (i := i) e
theorem RepL.append : ∀ {l m : List D} {vs ws : List V}, RepL K F l vs → RepL K F m ws → RepL K F (l ++ m) (vs ++ ws)
  | [], _, _, _, rfl, s => s
  | _ :: _, _, _, _, ⟨v, r, rfl, q, t⟩, s => ⟨v, r ++ _, rfl, q, t.append s⟩
theorem RepL.take : ∀ {l : List D} {vs : List V} (n : Nat), RepL K F l vs → RepL K F (l.take n) (vs.take n)
  | _, _, 0, _ => rfl
  | [], _, _ + 1, rfl => rfl
  | _ :: _, _, n + 1, ⟨v, r, rfl, q, t⟩ => ⟨v, r.take n, rfl, q, t.take n⟩
theorem RepL.drop : ∀ {l : List D} {vs : List V} (n : Nat), RepL K F l vs → RepL K F (l.drop n) (vs.drop n)
  | _, _, 0, r => r
  | [], _, _ + 1, rfl => rfl
  | _ :: _, _, n + 1, ⟨v, r, rfl, q, t⟩ => t.drop n
theorem RepL.set : ∀ {l : List D} {vs : List V} (n : Nat) {d : D} {v : V}, RepL K F l vs → Rep K F d v → RepL K F (l.set n d) (vs.set n v)
  | [], _, _, _, _, rfl, _ => rfl
  | _ :: _, _, 0, _, _, ⟨v, r, rfl, q, t⟩, h => ⟨_, r, rfl, h, t⟩
  | _ :: _, _, n + 1, _, _, ⟨v, r, rfl, q, t⟩, h => ⟨v, _, rfl, q, t.set n h⟩
theorem RepL.append_inv : ∀ {l m : List D} {vs : List V}, RepL K F (l ++ m) vs → ∃ vs1 vs2, vs = vs1 ++ vs2 ∧ RepL K F l vs1 ∧ RepL K F m vs2
  | [], _, vs, h => ⟨[], vs, rfl, rfl, h⟩
  | _ :: _, _, _, ⟨v, r, rfl, q, t⟩ => by
    obtain ⟨v1, v2, rfl, a, b⟩ := t.append_inv
    exact ⟨v :: v1, v2, rfl, ⟨v, v1, rfl, q, a⟩, b⟩
theorem RepL.ints : ∀ (ns : List Int), RepL K F (ns.map D.int) (ns.map V.int)
  | [] => rfl
  | n :: ns => ⟨.int n, _, rfl, rfl, RepL.ints ns⟩
end

/-! ### slots, environments -/
inductive Sl where
  | un | d (x : D) | own (l : List D) | ownT (ks : List (List Key)) (l : List D) | ownK (ks : List Key) (l : List D)
  deriving Inhabited
abbrev St := L2.St
abbrev En := List Sl
def ownS : Sl → Bool
  | .own _ => true
  | .ownT _ _ => true
  | .ownK _ _ => true
  | _ => false
def SlotOk (K : PySem.W.Frag) (F H : Hp) : Sl → Option V → Prop
  | .un, _ => True
  | .d x, o => ∃ v, o = some v ∧ Rep K F x v
  | .own l, o => ∃ a vs, o = some (.ref a) ∧ H a = some (.lst vs) ∧ F a = none ∧ RepL K F l vs
  | .ownT ks l, o => ∃ a kvs, o = some (.ref a) ∧ H a = some (.dT kvs) ∧ F a = none ∧ kvs.map (·.1) = ks ∧ RepL K F l (kvs.map (·.2))
  | .ownK ks l, o => ∃ a kvs, o = some (.ref a) ∧ H a = some (.dK kvs) ∧ F a = none ∧ kvs.map (·.1) = ks ∧ RepL K F l (kvs.map (·.2))
/-- an owned object's address -/
def OwnA (σ : St) (ρ : En) (b : Addr) : Prop := ∃ (i : Nat) (s : Sl), ρ[i]? = some s ∧ ownS s = true ∧ σ[i]? = some (some (.ref b))
structure Sat (K : PySem.W.Frag) (σ : St) (H F : Hp) (ρ : En) : Prop where
  sub : Same F H
  len : ρ.length = σ.length
  sl : ∀ (i : Nat) (s : Sl), ρ[i]? = some s → ∃ o, σ[i]? = some o ∧ SlotOk K F H s o
  dis : ∀ (i j : Nat) (a : Addr) (s t : Sl), ρ[i]? = some s → ρ[j]? = some t → ownS s = true → ownS t = true → σ[i]? = some (some (.ref a)) → σ[j]? = some (some (.ref a)) → i = j
structure Step (K : PySem.W.Frag) (σ : St) (ρ : En) (H F : Hp) (ρ' : En) (H' F' : Hp) : Prop where
  same : ∀ b o, H b = some o → ¬ OwnA σ ρ b → H' b = some o
  mono : Same F F'
  keep : ∀ b o, H b = some o → ¬ OwnA σ ρ b → F' b = F b
  ownle : ∀ (i : Nat) (s : Sl), ρ'[i]? = some s → ownS s = true → ∃ t, ρ[i]? = some t ∧ ownS t = true
  there : ∀ b o, H b = some o → ∃ o', H' b = some o'
  sat : Sat K σ H' F' ρ'
section
variable {K : PySem.W.Frag} {σ : St} {ρ ρ' ρ1 ρ2 : En} {H F H' F' H1 F1 H2 F2 : Hp}
theorem Step.ownA (S : Step K σ ρ H F ρ' H' F') {b : Addr} (h : OwnA σ ρ' b) : OwnA σ ρ b := by
  obtain ⟨i, s, e, o, q⟩ := h
  obtain ⟨t, e', o'⟩ := S.ownle i s e o
  exact ⟨i, t, e', o', q⟩
theorem Step.refl (S : Sat K σ H F ρ) : Step K σ ρ H F ρ H F := ⟨fun _ _ e _ => e, fun _ _ e => e, fun _ _ _ _ => rfl, fun _ s e o => ⟨s, e, o⟩, fun _ o e => ⟨o, e⟩, S⟩
theorem Step.trans (a : Step K σ ρ H F ρ1 H1 F1) (b : Step K σ ρ1 H1 F1 ρ2 H2 F2) : Step K σ ρ H F ρ2 H2 F2 where
  same := fun c o e n => b.same c o (a.same c o e n) fun z => n (a.ownA z)
  mono := a.mono.trans b.mono
  keep := fun c o e n => (b.keep c o (a.same c o e n) fun z => n (a.ownA z)).trans (a.keep c o e n)
  ownle := fun i s e o => by
    obtain ⟨t, e1, o1⟩ := b.ownle i s e o
    exact a.ownle i t e1 o1
  there := fun c o e => by
    obtain ⟨o', e'⟩ := a.there c o e
    exact b.there c o' e'
  sat := b.sat
theorem Sat.own_some (S : Sat K σ H F ρ) {b : Addr} (h : OwnA σ ρ b) : (∃ o, H b = some o) ∧ F b = none := by
  obtain ⟨i, s, e, o, q⟩ := h
  obtain ⟨x, e1, ok⟩ := S.sl i s e
  rw [q] at e1
  cases e1
  cases s with
  | un => cases o
  | d _ => cases o
  | own l =>
    obtain ⟨a, vs, e2, h1, h2, _⟩ := ok
    cases e2
    exact ⟨⟨_, h1⟩, h2⟩
  | ownT ks l =>
    obtain ⟨a, vs, e2, h1, h2, _⟩ := ok
    cases e2
    exact ⟨⟨_, h1⟩, h2⟩
  | ownK ks l =>
    obtain ⟨a, vs, e2, h1, h2, _⟩ := ok
    cases e2
    exact ⟨⟨_, h1⟩, h2⟩
theorem same_up {H : Hp} {p : Addr} {o : HO} (h : H p = none) : Same H (upd H p o) := fun b x e => by
  rw [upd_ne (ne_of_none e h)]
  exact e
theorem SlotOk.mono {s : Sl} {o : Option V} (hF : Same F F') (hH : ∀ b u, o = some (.ref b) → ownS s = true → H b = some u → H' b = some u) (hN : ∀ b u, o = some (.ref b) → ownS s = true → H b = some u → F b = none → F' b = none)
    (h : SlotOk K F H s o) : SlotOk K F' H' s o := by
  cases s with
  | un => exact h
  | d x =>
    obtain ⟨v, e, r⟩ := h
    exact ⟨v, e, r.mono hF⟩
  | own l =>
    obtain ⟨a, vs, e, h1, h2, r⟩ := h
    exact ⟨a, vs, e, hH _ _ e rfl h1, hN _ _ e rfl h1 h2, r.mono hF⟩
  | ownT ks l =>
    obtain ⟨a, vs, e, h1, h2, k, r⟩ := h
    exact ⟨a, vs, e, hH _ _ e rfl h1, hN _ _ e rfl h1 h2, k, r.mono hF⟩
  | ownK ks l =>
    obtain ⟨a, vs, e, h1, h2, k, r⟩ := h
    exact ⟨a, vs, e, hH _ _ e rfl h1, hN _ _ e rfl h1 h2, k, r.mono hF⟩
/-- a new object, frozen at once -/
theorem Step.alloc {p : Addr} {o : HO} (S : Sat K σ H F ρ) (hp : H p = none) : Step K σ ρ H F ρ (upd H p o) (upd F p o) := by
  have fp : F p = none := S.sub.free hp
  refine ⟨fun b u e _ => same_up hp b u e, same_up fp, fun b u e _ => upd_ne (ne_of_none e hp), fun _ s e o => ⟨s, e, o⟩, fun b u e => ⟨u, same_up hp b u e⟩, ?_, S.len, fun i s e => ?_, S.dis⟩
  · intro b u e
    by_cases hb : b = p
    · subst hb
      rw [upd_same] at e ⊢
      exact e
    · rw [upd_ne hb] at e ⊢
      exact S.sub b u e
  · obtain ⟨x, e1, ok⟩ := S.sl i s e
    exact ⟨x, e1, ok.mono (same_up fp) (fun b u _ _ q => same_up hp b u q) fun b u _ _ q n => by
      rw [upd_ne (ne_of_none q hp)]
      exact n⟩
/-- a new object, not frozen -/
theorem Step.allocOwn {p : Addr} {o : HO} (S : Sat K σ H F ρ) (hp : H p = none) : Step K σ ρ H F ρ (upd H p o) F := by
  refine ⟨fun b u e _ => same_up hp b u e, fun _ _ e => e, fun b u e _ => rfl, fun _ s e o => ⟨s, e, o⟩, fun b u e => ⟨u, same_up hp b u e⟩, ?_, S.len, fun i s e => ?_, S.dis⟩
  · exact S.sub.trans (same_up hp)
  · obtain ⟨x, e1, ok⟩ := S.sl i s e
    exact ⟨x, e1, ok.mono (fun _ _ e => e) (fun b u _ _ q => same_up hp b u q) fun b u _ _ q n => n⟩
/-- an object that stands and is nobody's is frozen -/
theorem Step.freeze {p : Addr} {o : HO} (S : Sat K σ H F ρ) (hp : H p = some o) (hn : ¬ OwnA σ ρ p) : Same F (upd F p o) ∧ Sat K σ H (upd F p o) ρ := by
  have mono : Same F (upd F p o) := fun b u e => by
    by_cases hb : b = p
    · subst hb
      rw [upd_same]
      exact (hp.symm.trans (S.sub b u e))
    · rw [upd_ne hb]
      exact e
  refine ⟨mono, ?_, S.len, fun i s e => ?_, S.dis⟩
  · intro b u e
    by_cases hb : b = p
    · subst hb
      rw [upd_same] at e
      exact hp.trans e
    · rw [upd_ne hb] at e
      exact S.sub b u e
  · obtain ⟨x, e1, ok⟩ := S.sl i s e
    refine ⟨x, e1, ok.mono mono (fun b u _ _ q => q) fun b u eo os q n => ?_⟩
    rw [upd_ne]
    · exact n
    · rintro rfl
      subst eo
      exact hn ⟨i, s, e, os, e1⟩
end

/-! ### results -/
structure Exn where
  c : Str
  ns : List Str
  l : List D
inductive Res (α : Type) where
  | ok (a : α) (ρ : En)
  | err (x : Exn) (ρ : En)
  | stuck
abbrev Den (α : Type) := En → Res α
def Res.bind {α β : Type} : Res α → (α → En → Res β) → Res β
  | .ok a ρ, g => g a ρ
  | .err x ρ, _ => .err x ρ
  | .stuck, _ => .stuck
theorem Res.ok_bind {α β : Type} (a : α) (ρ : En) (g : α → En → Res β) : (Res.ok a ρ).bind g = g a ρ := rfl
theorem Res.err_bind {α β : Type} (x : Exn) (ρ : En) (g : α → En → Res β) : (Res.err (α := α) x ρ).bind g = .err x ρ := rfl
theorem Res.stuck_bind {α β : Type} (g : α → En → Res β) : (Res.stuck (α := α)).bind g = .stuck := rfl
def Res.of {α : Type} : Option α → En → Res α
  | some a, ρ => .ok a ρ
  | none, _ => .stuck
abbrev MG := Str → Option Value
/-- an exception as it lies -/
def RepX (K : PySem.W.Frag) (mg : MG) (F H : Hp) (x : Exn) (cls : Value) (dd : Option Addr) : Prop :=
  mg x.c = some cls ∧ match x.ns with
    | [] => dd = none
    | _ => ∃ d fs, dd = some d ∧ H d = some (.xd fs) ∧ fs.map (·.1) = x.ns ∧ RepL K F x.l (fs.map (·.2))
section
variable (K : PySem.W.Frag) (mg : MG) (E : XK) (σ : St)
def good {α : Type} (ρ : En) (H F : Hp) (r : Res α) (k : α → En → Hp → Hp → Prop) : Prop :=
  match r with
  | .ok a ρ' => ∀ H' F', Step K σ ρ H F ρ' H' F' → k a ρ' H' F'
  | .err x ρ' => ∀ c dd H' F', Step K σ ρ H F ρ' H' F' → RepX K mg F' H' x c dd → E c dd H'
  | .stuck => False
end
section
variable {K : PySem.W.Frag} {mg : MG} {E : XK} {σ : St} {ρ : En} {H F : Hp}
theorem good.bind {α β : Type} {r : Res α} {g : α → En → Res β} {k : β → En → Hp → Hp → Prop} (h : good K mg E σ ρ H F (r.bind g) k) :
    good K mg E σ ρ H F r fun a ρ1 H1 F1 => good K mg E σ ρ1 H1 F1 (g a ρ1) k := by
  cases r with
  | stuck => exact h
  | err x ρ' => exact h
  | ok a ρ1 =>
    intro H1 F1 S
    show good K mg E σ ρ1 H1 F1 (g a ρ1) k
    have h : good K mg E σ ρ H F (g a ρ1) k := h
    cases e : g a ρ1 with
    | stuck => rw [e] at h; exact h
    | err x ρ' => rw [e] at h; exact fun c dd H' F' S' => h c dd H' F' (S.trans S')
    | ok b ρ' => rw [e] at h; exact fun H' F' S' => h H' F' (S.trans S')
theorem good.mono {α : Type} {r : Res α} {k k' : α → En → Hp → Hp → Prop} (h : good K mg E σ ρ H F r k) (hk : ∀ a ρ' H' F', Step K σ ρ H F ρ' H' F' → k a ρ' H' F' → k' a ρ' H' F') : good K mg E σ ρ H F r k' := by
  cases r with
  | stuck => exact h
  | err x ρ' => exact h
  | ok a ρ' => exact fun H' F' S => hk a ρ' H' F' S (h H' F' S)
theorem good.of {α : Type} {o : Option α} {k : α → En → Hp → Hp → Prop} (h : good K mg E σ ρ H F (Res.of o ρ) k) : ∃ a, o = some a ∧ ∀ H' F', Step K σ ρ H F ρ H' F' → k a ρ H' F' := by
  cases o with
  | none => exact h.elim
  | some a => exact ⟨a, rfl, h⟩
end

/-! ### readings told by data -/
def tD (K : PySem.W.Frag) (mg : MG) (E : XK) (f : Den D) : TE := fun σ H Q => ∃ F ρ, Sat K σ H F ρ ∧ good K mg E σ ρ H F (f ρ) fun d _ H' F' => ∀ v, Rep K F' d v → Q v H'
def tDB (K : PySem.W.Frag) (mg : MG) (E : XK) (f : Den Bool) : TT := fun σ H Q => ∃ F ρ, Sat K σ H F ρ ∧ good K mg E σ ρ H F (f ρ) fun b _ H' _ => Q b H'
def tDA (K : PySem.W.Frag) (mg : MG) (E : XK) (f : Den (List D)) : TA := fun σ H Q => ∃ F ρ, Sat K σ H F ρ ∧ good K mg E σ ρ H F (f ρ) fun l _ H' F' => ∀ vs, RepL K F' l vs → Q vs H'
/-- a value, or an object nobody else has -/
def FreshS (σ : St) (ρ : En) (H : Hp) (s : Sl) (v : V) : Prop := ownS s = true → ∀ a, v = .ref a → ¬ OwnA σ ρ a ∧ H a = none
def tSl (K : PySem.W.Frag) (mg : MG) (E : XK) (f : Den Sl) : TE := fun σ H Q => ∃ F ρ, Sat K σ H F ρ ∧ good K mg E σ ρ H F (f ρ) fun s ρ' H' F' => ∀ v, SlotOk K F' H' s (some v) → FreshS σ ρ' H s v → Q v H'
theorem _root_.L2.PE.imp {X : Cx} {e : Expr} {t t' : TE} (h : PE X e t) (i : ∀ σ H Q, t' σ H Q → t σ H Q) : PE X e t' := ⟨fun pins s σ H Q I hw => h.run pins s σ H Q I (i σ H Q hw)⟩
theorem _root_.L2.PT.imp {X : Cx} {e : Expr} {t t' : TT} (h : PT X e t) (i : ∀ σ H Q, t' σ H Q → t σ H Q) : PT X e t' := ⟨fun pins s σ H Q I hw => h.run pins s σ H Q I (i σ H Q hw)⟩
theorem _root_.L2.PW.imp {X : Cx} {e : Expr} {t t' : TT} (h : PW X e t) (i : ∀ σ H Q, t' σ H Q → t σ H Q) : PW X e t' := ⟨fun wh pins s σ H Q I hw => h.run wh pins s σ H Q I (i σ H Q hw)⟩
theorem _root_.L2.PA.imp {X : Cx} {es : List Expr} {t t' : TA} (h : PA X es t) (i : ∀ σ H Q, t' σ H Q → t σ H Q) : PA X es t' := ⟨fun pos pins s σ H Q I hw => h.run pos pins s σ H Q I (i σ H Q hw)⟩
theorem _root_.L2.PS.imp {X : Cx} {st : Stmt} {t t' : TS} (h : PS X st t) (i : ∀ D σ H, t' D σ H → t D σ H) : PS X st t' := ⟨fun pins s σ H D I hw => h.run pins s σ H D I (i D σ H hw)⟩
theorem _root_.L2.PSs.imp {X : Cx} {st : List Stmt} {t t' : TS} (h : PSs X st t) (i : ∀ D σ H, t' D σ H → t D σ H) : PSs X st t' := ⟨fun pins s σ H D I hw => h.run pins s σ H D I (i D σ H hw)⟩
end DL

namespace DL
open PySem PySem.Spec PyProof.Rows L2

/-! ### operators by data -/
def OpD (X : Cx) (f : Value → Value → Sem Value) (g : D → D → Option D) : Prop := ∃ r : R2, OpR X f r ∧
  ∀ (x y z : D) (vx vy : V) (σ : St) (H F : Hp) (ρ : En) (Q : VK), Sat X.K σ H F ρ → Rep X.K F x vx → Rep X.K F y vy → g x y = some z → (∀ v H' F', Step X.K σ ρ H F ρ H' F' → Rep X.K F' z v → Q v H') → r vx vy H Q
def gOr (g g' : D → D → Option D) : D → D → Option D := fun x y => match g x y with
  | some z => some z
  | none => g' x y
theorem OpD.or {X : Cx} {f : Value → Value → Sem Value} {g g' : D → D → Option D} (a : OpD X f g) (b : OpD X f g') : OpD X f (gOr g g') := by
  obtain ⟨r, h, q⟩ := a
  obtain ⟨r', h', q'⟩ := b
  refine ⟨_, h.or h', fun x y z vx vy σ H F ρ Q S rx ry e k => ?_⟩
  unfold gOr at e
  cases e1 : g x y with
  | some w =>
    rw [e1] at e
    have e2 : w = z := Option.some.inj e
    subst e2
    exact .inl (q x y w vx vy σ H F ρ Q S rx ry e1 k)
  | none =>
    rw [e1] at e
    exact .inr (q' x y z vx vy σ H F ρ Q S rx ry e k)
theorem OpD.imp {X : Cx} {f : Value → Value → Sem Value} {g g' : D → D → Option D} (a : OpD X f g) (h : ∀ x y z, g' x y = some z → g x y = some z) : OpD X f g' := by
  obtain ⟨r, h1, q⟩ := a
  exact ⟨r, h1, fun x y z vx vy σ H F ρ Q S rx ry e k => q x y z vx vy σ H F ρ Q S rx ry (h x y z e) k⟩
def gI (C : Int → Int → Bool) (g : Int → Int → D) : D → D → Option D
  | .int i, .int j => if C i j = true then some (g i j) else none
  | _, _ => none
/-- flat data and its value -/
def flatD : D → Option V
  | .non => some .non
  | .bl b => some (.bl b)
  | .int i => some (.int i)
  | .str x => some (.str x)
  | .ty x => some (.ty x)
  | _ => none
theorem Rep.flat {K : PySem.W.Frag} {F : Hp} {d : D} {v : V} (h : flatD d = some v) : Rep K F d v := by
  cases d <;> first | (cases h; rfl) | (cases h)
theorem Rep.flat' {K : PySem.W.Frag} {F : Hp} {d : D} {u v : V} (h : flatD d = some v) (r : Rep K F d u) : u = v := by
  cases d <;> first | (cases h; exact r) | (cases h)
def sz (n : Nat) : Bool := decide (n ≤ 16777216)
theorem sz_line {n : Nat} (h : sz n = true) : n ≤ sizeLine := by
  rw [sizeLine_eq]
  exact of_decide_eq_true h
def gCatL : D → D → Option D
  | .lst a, .lst b => if sz (a.length + b.length) = true then some (.lst (a ++ b)) else none
  | _, _ => none
def gCatT : D → D → Option D
  | .tup a, .tup b => if sz (a.length + b.length) = true then some (.tup (a ++ b)) else none
  | _, _ => none
def gCatS : D → D → Option D
  | .str a, .str b => if sz (a.length + b.length) = true then some (.str (a ++ b)) else none
  | _, _ => none
def gRepL : D → D → Option D
  | .lst a, .int k => if (decide (-(2 ^ 63) ≤ k ∧ k < 2 ^ 63) && sz (a.length * k.toNat)) = true then some (.lst (List.replicate k.toNat a).flatten) else none
  | _, _ => none
mutual
def toPy : D → Option PyData
  | .non => some .none
  | .bl b => some (.bool b)
  | .int i => some (.int i)
  | .str x => some (.str x)
  | .tup l => (toPyL l).map .tuple
  | .lst l => (toPyL l).map .list
  | _ => none
def toPyL : List D → Option (List PyData)
  | [] => some []
  | d :: ds => match toPy d, toPyL ds with
    | some x, some xs => some (x :: xs)
    | _, _ => none
end
def gEq : D → D → Option D := fun x y => match toPy x, toPy y with
  | some a, some b => if (SeqAt.shaped a && SeqAt.shaped b) = true then some (.bl (PyData.eqv a b)) else none
  | _, _ => none
def gNe : D → D → Option D := fun x y => match toPy x, toPy y with
  | some a, some b => if (SeqAt.shaped a && SeqAt.shaped b) = true then some (.bl (!PyData.eqv a b)) else none
  | _, _ => none
section
variable {X : Cx}
theorem opd_I {f : Value → Value → Sem Value} {C : Int → Int → Prop} {B : Int → Int → Bool} {g : Int → Int → V} {gd : Int → Int → D} (ho : OpR X f (rI C g)) (hB : ∀ i j, B i j = true → C i j) (hg : ∀ i j, flatD (gd i j) = some (g i j)) : OpD X f (gI B gd) := by
  refine ⟨_, ho, fun x y z vx vy σ H F ρ Q S rx ry e k => ?_⟩
  cases x <;> cases y <;> simp only [gI] at e <;> try cases e
  rename_i i j
  split at e
  · rename_i hb
    cases e
    cases rx
    cases ry
    exact ⟨i, j, rfl, rfl, hB i j hb, k _ _ _ (.refl S) (Rep.flat (hg i j))⟩
  · cases e
theorem opd_I0 {f : Value → Value → Sem Value} {g : Int → Int → V} {gd : Int → Int → D} (ho : OpR X f (rI0 g)) (hg : ∀ i j, flatD (gd i j) = some (g i j)) : OpD X f (gI (fun _ _ => true) gd) := by
  refine ⟨_, ho, fun x y z vx vy σ H F ρ Q S rx ry e k => ?_⟩
  cases x <;> cases y <;> simp only [gI] at e <;> try cases e
  rename_i i j
  cases rx
  cases ry
  exact ⟨i, j, rfl, rfl, k _ _ _ (.refl S) (Rep.flat (hg i j))⟩
theorem opd_catL : OpD X (binaryOp .Add) gCatL := by
  refine ⟨_, op_cat, fun x y z vx vy σ H F ρ Q S rx ry e k => ?_⟩
  cases x <;> cases y <;> simp only [gCatL] at e <;> try cases e
  rename_i a b
  split at e
  · rename_i hb
    cases e
    obtain ⟨p, vs, rfl, ha, ra⟩ := rx
    obtain ⟨q, ws, rfl, hb', rb⟩ := ry
    refine ⟨p, q, vs, ws, rfl, rfl, S.sub _ _ ha, S.sub _ _ hb', by rw [← ra.length, ← rb.length]; exact sz_line hb, fun u hu => ?_⟩
    exact k _ _ _ (.alloc S hu) ⟨u, _, rfl, upd_same, (ra.append rb).mono (same_up (S.sub.free hu))⟩
  · cases e
theorem opd_catT : OpD X (binaryOp .Add) gCatT := by
  refine ⟨_, op_catA, fun x y z vx vy σ H F ρ Q S rx ry e k => ?_⟩
  cases x <;> cases y <;> simp only [gCatT] at e <;> try cases e
  rename_i a b
  split at e
  · rename_i hb
    cases e
    obtain ⟨p, vs, rfl, ha, ra⟩ := rx
    obtain ⟨q, ws, rfl, hb', rb⟩ := ry
    refine ⟨p, q, vs, ws, rfl, rfl, .of (S.sub _ _ ha), .of (S.sub _ _ hb'), by rw [← ra.length, ← rb.length]; exact sz_line hb, fun h0 => ?_, fun h0 h1 => ?_, fun h0 h1 u hu => ?_⟩
    · subst h0
      have : a = [] := List.eq_nil_of_length_eq_zero (by rw [ra.length]; rfl)
      subst this
      exact k _ _ _ (.refl S) ⟨q, ws, rfl, hb', rb⟩
    · subst h1
      have : b = [] := List.eq_nil_of_length_eq_zero (by rw [rb.length]; rfl)
      subst this
      rw [List.append_nil] at *
      exact k _ _ _ (.refl S) ⟨p, vs, rfl, ha, ra⟩
    · exact k _ _ _ (.alloc S hu) ⟨u, _, rfl, upd_same, (ra.append rb).mono (same_up (S.sub.free hu))⟩
  · cases e
theorem opd_catS : OpD X (binaryOp .Add) gCatS := by
  refine ⟨_, op_add_str, fun x y z vx vy σ H F ρ Q S rx ry e k => ?_⟩
  cases x <;> cases y <;> simp only [gCatS] at e <;> try cases e
  rename_i a b
  split at e
  · rename_i hb
    cases e
    cases rx
    cases ry
    exact ⟨a, b, rfl, rfl, sz_line hb, k _ _ _ (.refl S) rfl⟩
  · cases e
theorem RepL.rep {K : PySem.W.Frag} {F : Hp} {l : List D} {vs : List V} (h : RepL K F l vs) : ∀ n : Nat, RepL K F (List.replicate n l).flatten (List.replicate n vs).flatten
  | 0 => rfl
  | n + 1 => by
    rw [List.replicate_succ, List.replicate_succ, List.flatten_cons, List.flatten_cons]
    exact h.append (h.rep n)
theorem opd_repL : OpD X (binaryOp .Mult) gRepL := by
  refine ⟨_, op_rep, fun x y z vx vy σ H F ρ Q S rx ry e k => ?_⟩
  cases x <;> cases y <;> simp only [gRepL] at e <;> try cases e
  rename_i a n
  split at e
  · rename_i hb
    cases e
    rw [Bool.and_eq_true] at hb
    have hb1 := of_decide_eq_true hb.1
    obtain ⟨p, vs, rfl, ha, ra⟩ := rx
    cases ry
    refine ⟨p, n, vs, rfl, rfl, S.sub _ _ ha, hb1.1, hb1.2, by rw [← ra.length]; exact sz_line hb.2, fun u hu => ?_⟩
    exact k _ _ _ (.alloc S hu) ⟨u, _, rfl, upd_same, (ra.rep _).mono (same_up (S.sub.free hu))⟩
  · cases e
mutual
theorem Rep.dp {K : PySem.W.Frag} {F H : Hp} (hs : Same F H) : ∀ (d : D) (v : V) (p : PyData), Rep K F d v → toPy d = some p → Dp K H v p
  | .non, _, _, rfl, e => by cases e; exact .non
  | .bl b, _, _, rfl, e => by cases e; exact .bl b
  | .int i, _, _, rfl, e => by cases e; exact .int i
  | .str x, _, _, rfl, e => by cases e; exact .str x
  | .tup l, _, p, ⟨a, vs, rfl, q, r⟩, e => by
    unfold toPy at e
    cases el : toPyL l with
    | none => rw [el] at e; cases e
    | some ps =>
      rw [el] at e
      cases e
      exact .tup (.of (hs _ _ q)) (RepL.dp hs l vs ps r el)
  | .lst l, _, p, ⟨a, vs, rfl, q, r⟩, e => by
    unfold toPy at e
    cases el : toPyL l with
    | none => rw [el] at e; cases e
    | some ps =>
      rw [el] at e
      cases e
      exact .lst (.of (hs _ _ q)) (RepL.dp hs l vs ps r el)
  | .scr _, _, _, _, e => by cases e
  | .ty _, _, _, _, e => by cases e
  | .kt _, _, _, _, e => by cases e
  | .dct _ _, _, _, _, e => by cases e
  | .dck _ _, _, _, _, e => by cases e
  | .exc _ _ _, _, _, _, e => by cases e
theorem RepL.dp {K : PySem.W.Frag} {F H : Hp} (hs : Same F H) : ∀ (l : List D) (vs : List V) (ps : List PyData), RepL K F l vs → toPyL l = some ps → DpAll K H vs ps
  | [], _, _, rfl, e => by cases e; exact .nil
  | d :: l, _, ps, ⟨v, r, rfl, q, t⟩, e => by
    unfold toPyL at e
    split at e
    · rename_i x xs h1 h2
      cases e
      exact .cons (Rep.dp hs d v x q h1) (RepL.dp hs l r xs t h2)
    · cases e
end
theorem opd_eq (hu : X.A.units + 64 < cLine) : OpD X (compareOp .Eq) gEq := by
  refine ⟨_, op_eqD hu, fun x y z vx vy σ H F ρ Q S rx ry e k => ?_⟩
  unfold gEq at e
  split at e
  · rename_i a b h1 h2
    split at e
    · rename_i hb
      cases e
      rw [Bool.and_eq_true] at hb
      exact ⟨a, b, rx.dp S.sub _ _ _ h1, ry.dp S.sub _ _ _ h2, hb.1, hb.2, k _ _ _ (.refl S) rfl⟩
    · cases e
  · cases e
theorem opd_ne (hu : X.A.units + 64 < cLine) : OpD X (compareOp .NotEq) gNe := by
  refine ⟨_, op_neD hu, fun x y z vx vy σ H F ρ Q S rx ry e k => ?_⟩
  unfold gNe at e
  split at e
  · rename_i a b h1 h2
    split at e
    · rename_i hb
      cases e
      rw [Bool.and_eq_true] at hb
      exact ⟨a, b, rx.dp S.sub _ _ _ h1, ry.dp S.sub _ _ _ h2, hb.1, hb.2, k _ _ _ (.refl S) rfl⟩
    · cases e
  · cases e
end
end DL

namespace DL
open PySem PySem.Spec PyProof.Rows L2

/-! ### what an expression computes -/
def dC (d : D) : Den D := fun ρ => .ok d ρ
def frz : Sl → Option D
  | .d x => some x
  | .own l => some (.lst l)
  | .ownT ks l => some (.dct ks l)
  | .ownK ks l => some (.dck ks l)
  | .un => none
/-- a name: its value; an owned list (dict) is frozen by it -/
def dVar (i : Nat) : Den D := fun ρ => match ρ[i]? with
  | some (.d x) => .ok x ρ
  | some (.own l) => .ok (.lst l) (ρ.set i (.d (.lst l)))
  | some (.ownT ks l) => .ok (.dct ks l) (ρ.set i (.d (.dct ks l)))
  | some (.ownK ks l) => .ok (.dck ks l) (ρ.set i (.d (.dck ks l)))
  | _ => .stuck
def dBin (g : D → D → Option D) (fa fb : Den D) : Den D := fun ρ => (fa ρ).bind fun x ρ1 => (fb ρ1).bind fun y ρ2 => Res.of (g x y) ρ2
def dUn (g : D → Option D) (fa : Den D) : Den D := fun ρ => (fa ρ).bind fun x ρ1 => Res.of (g x) ρ1
def asB : D → Option Bool
  | .bl b => some b
  | _ => none
theorem asB_some {x : D} {z : Bool} (h : asB x = some z) : x = .bl z := by
  cases x <;> simp only [asB] at h <;> cases h
  rfl
def dTest (fa : Den D) : Den Bool := fun ρ => (fa ρ).bind fun x ρ1 => Res.of (asB x) ρ1
def dAndB (fa fb : Den Bool) : Den Bool := fun ρ => (fa ρ).bind fun b ρ1 => if b = true then fb ρ1 else .ok false ρ1
def dOrB (fa fb : Den Bool) : Den Bool := fun ρ => (fa ρ).bind fun b ρ1 => if b = true then .ok true ρ1 else fb ρ1
def dNotB (fa : Den Bool) : Den Bool := fun ρ => (fa ρ).bind fun b ρ1 => .ok (!b) ρ1
def dAnd (fa fb : Den D) : Den D := fun ρ => (dTest fa ρ).bind fun b ρ1 => if b = true then fb ρ1 else .ok (.bl false) ρ1
def dOr (fa fb : Den D) : Den D := fun ρ => (dTest fa ρ).bind fun b ρ1 => if b = true then .ok (.bl true) ρ1 else fb ρ1
def dNot (fa : Den D) : Den D := fun ρ => (dTest fa ρ).bind fun b ρ1 => .ok (.bl (!b)) ρ1
def dIf (fc : Den Bool) (fa fb : Den D) : Den D := fun ρ => (fc ρ).bind fun b ρ1 => if b = true then fa ρ1 else fb ρ1
def dNil : Den (List D) := fun ρ => .ok [] ρ
def dCons (fa : Den D) (fr : Den (List D)) : Den (List D) := fun ρ => (fa ρ).bind fun x ρ1 => (fr ρ1).bind fun xs ρ2 => .ok (x :: xs) ρ2
def dTup (fs : Den (List D)) : Den D := fun ρ => (fs ρ).bind fun xs ρ1 => if sz xs.length = true then .ok (.tup xs) ρ1 else .stuck
def dLst (fs : Den (List D)) : Den D := fun ρ => (fs ρ).bind fun xs ρ1 => if sz xs.length = true then .ok (.lst xs) ρ1 else .stuck
def dLstF (fs : Den (List D)) : Den (List D) := fun ρ => (fs ρ).bind fun xs ρ1 => if sz xs.length = true then .ok xs ρ1 else .stuck
/-- a chain of comparisons behind its first value -/
def dCh : List ((D → D → Option D) × Den D) → D → Den Bool
  | [], _ => fun _ => .stuck
  | [(g, fb)], x => fun ρ => (fb ρ).bind fun y ρ1 => Res.of ((g x y).bind asB) ρ1
  | (g, fb) :: r, x => fun ρ => (fb ρ).bind fun y ρ1 => (Res.of ((g x y).bind asB) ρ1).bind fun b ρ2 => if b = true then dCh r y ρ2 else .ok false ρ2
def dChain (fa : Den D) (r : List ((D → D → Option D) × Den D)) : Den Bool := fun ρ => (fa ρ).bind fun x ρ1 => dCh r x ρ1
def dBool (f : Den Bool) : Den D := fun ρ => (f ρ).bind fun b ρ1 => .ok (.bl b) ρ1

abbrev TD (X : Cx) (E : XK) (f : Den D) : TE := tD X.K X.mg E f
abbrev TB (X : Cx) (E : XK) (f : Den Bool) : TT := tDB X.K X.mg E f
abbrev TA (X : Cx) (E : XK) (f : Den (List D)) : L2.TA := tDA X.K X.mg E f
section
variable {X : Cx} {E : XK} {a b e : Expr} {es rest : List Expr} {pos : Pos} {fa fb : Den D} {fs : Den (List D)} {fc fd : Den Bool}

theorem de_const {v : V} {d : D} (h : PE X e (tC v)) (hd : flatD d = some v) : PE X e (TD X E (dC d)) := h.imp fun σ H Q ⟨F, ρ, S, k⟩ => k H F (.refl S) v (Rep.flat hd)
theorem de_int {i : Int} {j : Nat} : PE X (.Constant (.int i) j pos) (TD X E (dC (.int i))) := de_const pe_int rfl
theorem de_bl {i : Bool} {j : Nat} : PE X (.Constant (.bool i) j pos) (TD X E (dC (.bl i))) := de_const pe_bl rfl
theorem de_non {j : Nat} : PE X (.Constant .none j pos) (TD X E (dC .non)) := de_const pe_non rfl
theorem de_str {i : Str} {j : Nat} : PE X (.Constant (.str i) j pos) (TD X E (dC (.str i))) := de_const pe_str rfl
theorem Step.freezeSlot {K : PySem.W.Frag} {σ : St} {ρ : En} {H F : Hp} {i : Nat} {s : Sl} {x : D} {p : Addr} {o : HO} (S : Sat K σ H F ρ) (hs : ρ[i]? = some s) (os : ownS s = true) (hv : σ[i]? = some (some (.ref p))) (hp : H p = some o) (fp : F p = none)
    (rx : Rep K (upd F p o) x (.ref p)) : Step K σ ρ H F (ρ.set i (.d x)) H (upd F p o) := by
  have hil : i < ρ.length := (List.getElem?_eq_some_iff.mp hs).1
  have mono : Same F (upd F p o) := same_up fp
  refine ⟨fun _ _ e _ => e, mono, fun c u e n => upd_ne fun z => n ⟨i, s, hs, os, z ▸ hv⟩, fun j t e o => ?_, fun _ o e => ⟨o, e⟩, fun c u e => ?_, by rw [List.length_set]; exact S.len, fun j t e => ?_, fun j k c t u e1 e2 o1 o2 q1 q2 => ?_⟩
  · by_cases hj : j = i
    · subst hj
      exact ⟨s, hs, os⟩
    · rw [List.getElem?_set_ne (Ne.symm hj)] at e
      exact ⟨t, e, o⟩
  · by_cases hc : c = p
    · subst hc
      rw [upd_same] at e
      exact hp.trans e
    · rw [upd_ne hc] at e
      exact S.sub c u e
  · by_cases hj : j = i
    · subst hj
      rw [List.getElem?_set_self hil] at e
      cases e
      exact ⟨_, hv, _, rfl, rx⟩
    · rw [List.getElem?_set_ne (Ne.symm hj)] at e
      obtain ⟨y, e1, ok⟩ := S.sl j t e
      refine ⟨y, e1, ok.mono mono (fun c u _ _ q => q) fun c u eo ot q n => ?_⟩
      rw [upd_ne]
      · exact n
      · rintro rfl
        subst eo
        exact hj (S.dis j i c t s e hs ot os e1 hv)
  · have hji : j ≠ i := fun z => by
      subst z
      rw [List.getElem?_set_self hil] at e1
      cases e1
      cases o1
    have hki : k ≠ i := fun z => by
      subst z
      rw [List.getElem?_set_self hil] at e2
      cases e2
      cases o2
    rw [List.getElem?_set_ne (Ne.symm hji)] at e1
    rw [List.getElem?_set_ne (Ne.symm hki)] at e2
    exact S.dis j k c t u e1 e2 o1 o2 q1 q2
theorem de_var {i : Nat} (h : PE X e (tVar i)) : PE X e (TD X E (dVar i)) := h.imp fun σ H Q ⟨F, ρ, S, k⟩ => by
  unfold dVar at k
  split at k
  · rename_i x hx
    obtain ⟨o, e1, v, rfl, r⟩ := S.sl i _ hx
    exact ⟨v, e1, k H F (.refl S) v r⟩
  · rename_i l hx
    obtain ⟨o, e1, p, vs, rfl, hp, fp, r⟩ := S.sl i _ hx
    have rx : Rep X.K (upd F p (.lst vs)) (.lst l) (.ref p) := ⟨p, vs, rfl, upd_same, r.mono (same_up fp)⟩
    exact ⟨.ref p, e1, k H _ (.freezeSlot S hx rfl e1 hp fp rx) _ rx⟩
  · rename_i ks l hx
    obtain ⟨o, e1, p, vs, rfl, hp, fp, hk, r⟩ := S.sl i _ hx
    have rx : Rep X.K (upd F p (.dT vs)) (.dct ks l) (.ref p) := ⟨p, vs, rfl, upd_same, hk, r.mono (same_up fp)⟩
    exact ⟨.ref p, e1, k H _ (.freezeSlot S hx rfl e1 hp fp rx) _ rx⟩
  · rename_i ks l hx
    obtain ⟨o, e1, p, vs, rfl, hp, fp, hk, r⟩ := S.sl i _ hx
    have rx : Rep X.K (upd F p (.dK vs)) (.dck ks l) (.ref p) := ⟨p, vs, rfl, upd_same, hk, r.mono (same_up fp)⟩
    exact ⟨.ref p, e1, k H _ (.freezeSlot S hx rfl e1 hp fp rx) _ rx⟩
  · exact k.elim
/-- two values, then a rule of theirs -/
theorem two_of {g : D → D → Option D} {r : R2} {σ : St} {H : Hp} {Q : VK} (q : ∀ (x y z : D) (vx vy : V) (σ : St) (H F : Hp) (ρ : En) (Q : VK), Sat X.K σ H F ρ → Rep X.K F x vx → Rep X.K F y vy → g x y = some z → (∀ v H' F', Step X.K σ ρ H F ρ H' F' → Rep X.K F' z v → Q v H') → r vx vy H Q)
    (h : TD X E (dBin g fa fb) σ H Q) : tOp r (TD X E fa) (TD X E fb) σ H Q := by
  obtain ⟨F, ρ, S, h⟩ := h
  refine ⟨F, ρ, S, h.bind.mono fun x ρ1 H1 F1 S1 h1 vx rx => ⟨F1, ρ1, S1.sat, h1.bind.mono fun y ρ2 H2 F2 S2 h2 vy ry => ?_⟩⟩
  obtain ⟨z, e, k⟩ := h2.of
  exact q x y z vx vy σ H2 F2 ρ2 Q S2.sat (rx.mono S2.mono) ry e fun v H' F' S' rz => k H' F' S' v rz
theorem de_bin {op : Operator} {g : D → D → Option D} (ho : OpD X (binaryOp op) g) (ha : PE X a (TD X E fa)) (hb : PE X b (TD X E fb)) : PE X (.BinOp a op b pos) (TD X E (dBin g fa fb)) := by
  obtain ⟨r, hr, q⟩ := ho
  exact (pe_op hr ha hb).imp fun σ H Q h => two_of q h
theorem de_cmp {op : CmpOp} {g : D → D → Option D} (ho : OpD X (compareOp op) g) (ha : PE X a (TD X E fa)) (hb : PE X b (TD X E fb)) (hm : behindInMarks op b = false) : PE X (.Compare a [op] [b] pos) (TD X E (dBin g fa fb)) := by
  obtain ⟨r, hr, q⟩ := ho
  exact (pe_cmpR hr ha hb hm).imp fun σ H Q h => two_of q h
theorem test_of {t : TE} {fa : Den D} (hm : ∀ σ H (Q : VK), TD X E fa σ H Q → t σ H Q) {σ : St} {H : Hp} {Q : Bool → Hp → Prop} (h : TB X E (dTest fa) σ H Q) : tTest t σ H Q := by
  obtain ⟨F, ρ, S, h⟩ := h
  refine hm σ H _ ⟨F, ρ, S, h.bind.mono fun x ρ1 H1 F1 S1 h1 vx rx => ?_⟩
  obtain ⟨z, e, k⟩ := h1.of
  have := asB_some e
  subst this
  cases rx
  exact ⟨z, rfl, k _ _ (.refl S1.sat)⟩
theorem dt_cmp {op : CmpOp} {g : D → D → Option D} (ho : OpD X (compareOp op) g) (ha : PE X a (TD X E fa)) (hb : PE X b (TD X E fb)) (hm : behindInMarks op b = false) : PT X (.Compare a [op] [b] pos) (TB X E (dTest (dBin g fa fb))) := by
  obtain ⟨r, hr, q⟩ := ho
  exact (pt_cmpR hr ha hb hm).imp fun σ H Q h => test_of (fun _ _ _ h => two_of q h) h
theorem dt_val (h : PE X e (TD X E fa)) (he : ∀ whole, isTrue e X.env whole = (do let v ← whole; standAt e.pos; holding [v] (truthy v)) := by intro _; rfl) : PT X e (TB X E (dTest fa)) :=
  (pt_val h he).imp fun σ H Q h => test_of (fun _ _ _ h => h) h
/-- is None -/
def gIsN : D → Option D
  | .non => some (.bl true)
  | .exc _ _ _ => none
  | _ => some (.bl false)
def gNotN : D → Option D
  | .non => some (.bl false)
  | .exc _ _ _ => none
  | _ => some (.bl true)
theorem Rep.isNon {K : PySem.W.Frag} {F : Hp} {d : D} {v : V} {z : D} (r : Rep K F d v) (e : gIsN d = some z) : z = .bl (decide (v = .non)) := by
  cases d <;> simp only [gIsN] at e <;> cases e <;> simp only [Rep] at r
  · subst r; rfl
  · subst r; rfl
  · subst r; rfl
  · subst r; rfl
  · subst r; rfl
  all_goals
    obtain ⟨a, r⟩ := r
    first
      | (obtain ⟨vs, rfl, _⟩ := r; rfl)
      | (obtain ⟨rfl, _⟩ := r; rfl)
theorem gNotN_eq (d : D) : gNotN d = (gIsN d).map fun z => match z with | .bl b => .bl (!b) | z => z := by cases d <;> rfl
theorem isN_of {σ : St} {H : Hp} {Q : VK} (h : TD X E (dUn gIsN fa) σ H Q) : tIsN (TD X E fa) σ H Q := by
  obtain ⟨F, ρ, S, h⟩ := h
  refine ⟨F, ρ, S, h.bind.mono fun x ρ1 H1 F1 S1 h1 vx rx => ?_⟩
  obtain ⟨z, e, k⟩ := h1.of
  have := rx.isNon e
  subst this
  exact k _ _ (.refl S1.sat) _ rfl
theorem notN_of {σ : St} {H : Hp} {Q : VK} (h : TD X E (dUn gNotN fa) σ H Q) : tNotN (TD X E fa) σ H Q := by
  obtain ⟨F, ρ, S, h⟩ := h
  refine ⟨F, ρ, S, h.bind.mono fun x ρ1 H1 F1 S1 h1 vx rx => ?_⟩
  obtain ⟨z, e, k⟩ := h1.of
  rw [gNotN_eq] at e
  cases e1 : gIsN x with
  | none => rw [e1] at e; cases e
  | some w =>
    rw [e1] at e
    have := rx.isNon e1
    subst this
    cases e
    exact k _ _ (.refl S1.sat) _ rfl
theorem de_isN {j : Nat} {p : Pos} (ha : PE X a (TD X E fa)) : PE X (.Compare a [.Is] [.Constant .none j p] pos) (TD X E (dUn gIsN fa)) := (pe_cmp (pc_isN ha)).imp fun σ H Q h => isN_of h
theorem de_notN {j : Nat} {p : Pos} (ha : PE X a (TD X E fa)) : PE X (.Compare a [.IsNot] [.Constant .none j p] pos) (TD X E (dUn gNotN fa)) := (pe_cmp (pc_notN ha)).imp fun σ H Q h => notN_of h
theorem dt_isN {j : Nat} {p : Pos} (ha : PE X a (TD X E fa)) : PT X (.Compare a [.Is] [.Constant .none j p] pos) (TB X E (dTest (dUn gIsN fa))) := (pt_cmp (pc_isN ha)).imp fun σ H Q h => test_of (fun _ _ _ h => isN_of h) h
theorem dt_notN {j : Nat} {p : Pos} (ha : PE X a (TD X E fa)) : PT X (.Compare a [.IsNot] [.Constant .none j p] pos) (TB X E (dTest (dUn gNotN fa))) := (pt_cmp (pc_notN ha)).imp fun σ H Q h => test_of (fun _ _ _ h => notN_of h) h

/-! and, or, not -/
theorem dw_and1 (ha : PT X a (TB X E fc)) : PW X (.BoolOp .And [a] pos) (TB X E fc) := pw_and1 ha
theorem dw_or1 (ha : PT X a (TB X E fc)) : PW X (.BoolOp .Or [a] pos) (TB X E fc) := pw_or1 ha
theorem dw_and (ha : PT X a (TB X E fc)) (hb : PW X (.BoolOp .And (b :: rest) pos) (TB X E fd)) : PW X (.BoolOp .And (a :: b :: rest) pos) (TB X E (dAndB fc fd)) :=
  (pw_and ha hb).imp fun σ H Q ⟨F, ρ, S, h⟩ => ⟨F, ρ, S, h.bind.mono fun x ρ1 H1 F1 S1 h1 => by
    cases x with
    | true => exact ⟨F1, ρ1, S1.sat, h1⟩
    | false => exact h1 _ _ (.refl S1.sat)⟩
theorem dw_or (ha : PT X a (TB X E fc)) (hb : PW X (.BoolOp .Or (b :: rest) pos) (TB X E fd)) : PW X (.BoolOp .Or (a :: b :: rest) pos) (TB X E (dOrB fc fd)) :=
  (pw_or ha hb).imp fun σ H Q ⟨F, ρ, S, h⟩ => ⟨F, ρ, S, h.bind.mono fun x ρ1 H1 F1 S1 h1 => by
    cases x with
    | false => exact ⟨F1, ρ1, S1.sat, h1⟩
    | true => exact h1 _ _ (.refl S1.sat)⟩
theorem dt_w (h : PW X e (TB X E fc)) : PT X e (TB X E fc) := h.pt
theorem dt_not (ha : PT X a (TB X E fc)) : PT X (.UnaryOp .Not a pos) (TB X E (dNotB fc)) :=
  (pt_not ha).imp fun σ H Q ⟨F, ρ, S, h⟩ => ⟨F, ρ, S, h.bind.mono fun x ρ1 H1 F1 S1 h1 => h1 _ _ (.refl S1.sat)⟩
theorem de_one {op : BoolOp} (h : PE X a (TD X E fa)) : PE X (.BoolOp op [a] pos) (TD X E fa) := pe_one h
theorem de_and (ha : PE X a (TD X E fa)) (hb : PE X (.BoolOp .And (b :: rest) pos) (TD X E fb)) : PE X (.BoolOp .And (a :: b :: rest) pos) (TD X E (dAnd fa fb)) :=
  (pe_and ha hb).imp fun σ H Q ⟨F, ρ, S, h⟩ => ⟨F, ρ, S, h.bind.bind.mono fun x ρ1 H1 F1 S1 h1 vx rx => by
    obtain ⟨c, e, k⟩ := h1.of
    have := asB_some e
    subst this
    cases rx
    refine ⟨c, rfl, ?_⟩
    have k := k _ _ (.refl S1.sat)
    cases c with
    | true => exact ⟨F1, ρ1, S1.sat, k⟩
    | false => exact k _ _ (.refl S1.sat) _ rfl⟩
theorem de_or (ha : PE X a (TD X E fa)) (hb : PE X (.BoolOp .Or (b :: rest) pos) (TD X E fb)) : PE X (.BoolOp .Or (a :: b :: rest) pos) (TD X E (dOr fa fb)) :=
  (pe_or ha hb).imp fun σ H Q ⟨F, ρ, S, h⟩ => ⟨F, ρ, S, h.bind.bind.mono fun x ρ1 H1 F1 S1 h1 vx rx => by
    obtain ⟨c, e, k⟩ := h1.of
    have := asB_some e
    subst this
    cases rx
    refine ⟨c, rfl, ?_⟩
    have k := k _ _ (.refl S1.sat)
    cases c with
    | false => exact ⟨F1, ρ1, S1.sat, k⟩
    | true => exact k _ _ (.refl S1.sat) _ rfl⟩
theorem de_not (ha : PE X a (TD X E fa)) : PE X (.UnaryOp .Not a pos) (TD X E (dNot fa)) :=
  (pe_not ha).imp fun σ H Q ⟨F, ρ, S, h⟩ => ⟨F, ρ, S, h.bind.bind.mono fun x ρ1 H1 F1 S1 h1 vx rx => by
    obtain ⟨c, e, k⟩ := h1.of
    have := asB_some e
    subst this
    cases rx
    exact ⟨c, rfl, k _ _ (.refl S1.sat) _ _ (.refl S1.sat) _ rfl⟩⟩
theorem de_if {c : Expr} (hc : PT X c (TB X E fc)) (ha : PE X a (TD X E fa)) (hb : PE X b (TD X E fb)) : PE X (.IfExp c a b pos) (TD X E (dIf fc fa fb)) :=
  (pe_ifExp hc ha hb).imp fun σ H Q ⟨F, ρ, S, h⟩ => ⟨F, ρ, S, h.bind.mono fun x ρ1 H1 F1 S1 h1 => by
    cases x with
    | true => exact ⟨F1, ρ1, S1.sat, h1⟩
    | false => exact ⟨F1, ρ1, S1.sat, h1⟩⟩
/-! displays -/
theorem da_nil : PA X [] (TA X E dNil) := pa_nil.imp fun σ H Q ⟨F, ρ, S, h⟩ => h _ _ (.refl S) _ rfl
theorem da_cons (ha : PE X e (TD X E fa)) (hr : PA X es (TA X E fs)) (hs : starEach (e :: es) X.env = (false, eval e X.env) :: starEach es X.env := by rfl) : PA X (e :: es) (TA X E (dCons fa fs)) :=
  (pa_cons ha hr hs).imp fun σ H Q ⟨F, ρ, S, h⟩ => ⟨F, ρ, S, h.bind.mono fun x ρ1 H1 F1 S1 h1 vx rx => ⟨F1, ρ1, S1.sat, h1.bind.mono fun xs ρ2 H2 F2 S2 h2 vs rs => h2 _ _ (.refl S2.sat) _ (.cons (rx.mono S2.mono) rs)⟩⟩
theorem de_tup {k : Nat} (h : PA X es (TA X E fs)) : PE X (.Tuple es k pos) (TD X E (dTup fs)) :=
  (pe_tup h).imp fun σ H Q ⟨F, ρ, S, h⟩ => ⟨F, ρ, S, h.bind.mono fun xs ρ1 H1 F1 S1 h1 vs rs => by
    by_cases hz : sz xs.length = true
    · rw [if_pos hz] at h1
      exact ⟨by rw [← rs.length]; exact sz_line hz, fun p hp => h1 _ _ (.alloc S1.sat hp) _ ⟨p, vs, rfl, upd_same, rs.mono (same_up (S1.sat.sub.free hp))⟩⟩
    · rw [if_neg hz] at h1
      exact h1.elim⟩
theorem de_lst (h : PA X es (TA X E fs)) : PE X (.List es pos) (TD X E (dLst fs)) :=
  (pe_lst h).imp fun σ H Q ⟨F, ρ, S, h⟩ => ⟨F, ρ, S, h.bind.mono fun xs ρ1 H1 F1 S1 h1 vs rs => by
    by_cases hz : sz xs.length = true
    · rw [if_pos hz] at h1
      exact ⟨by rw [← rs.length]; exact sz_line hz, fun p hp => h1 _ _ (.alloc S1.sat hp) _ ⟨p, vs, rfl, upd_same, rs.mono (same_up (S1.sat.sub.free hp))⟩⟩
    · rw [if_neg hz] at h1
      exact h1.elim⟩
def dD (f : Den D) : Den Sl := fun ρ => (f ρ).bind fun x ρ1 => .ok (.d x) ρ1
def dOwn (f : Den (List D)) : Den Sl := fun ρ => (f ρ).bind fun x ρ1 => .ok (.own x) ρ1
abbrev TSl (X : Cx) (E : XK) (f : Den Sl) : TE := tSl X.K X.mg E f
theorem dsl_d (h : PE X e (TD X E fa)) : PE X e (TSl X E (dD fa)) := h.imp fun σ H Q ⟨F, ρ, S, h⟩ => ⟨F, ρ, S, h.bind.mono fun x ρ1 H1 F1 S1 h1 v rv => h1 _ _ (.refl S1.sat) v ⟨v, rfl, rv⟩ fun o => by cases o⟩
theorem fresh_of {K : PySem.W.Frag} {σ : St} {ρ ρ1 : En} {H F H1 F1 : Hp} {s : Sl} {p : Addr} (S1 : Step K σ ρ H F ρ1 H1 F1) (hp : H1 p = none) : FreshS σ ρ1 H s (.ref p) := fun _ a e => by
  cases e
  refine ⟨fun z => ?_, ?_⟩
  · obtain ⟨⟨o, e⟩, _⟩ := S1.sat.own_some z
    rw [hp] at e
    cases e
  · cases q : H p with
    | none => rfl
    | some o =>
      obtain ⟨o', e⟩ := S1.there p o q
      rw [hp] at e
      cases e
theorem dsl_lst (h : PA X es (TA X E fs)) : PE X (.List es pos) (TSl X E (dOwn (dLstF fs))) :=
  (pe_lst h).imp fun σ H Q ⟨F, ρ, S, h⟩ => ⟨F, ρ, S, h.bind.bind.mono fun xs ρ1 H1 F1 S1 h1 vs rs => by
    by_cases hz : sz xs.length = true
    · rw [if_pos hz] at h1
      refine ⟨by rw [← rs.length]; exact sz_line hz, fun p hp => ?_⟩
      exact h1 _ _ (.refl S1.sat) _ _ (.allocOwn S1.sat hp) (.ref p) ⟨p, vs, rfl, upd_same, S1.sat.sub.free hp, rs⟩ (fresh_of S1 hp)
    · rw [if_neg hz] at h1
      exact h1.elim⟩
end
end DL

namespace DL
open PySem PySem.Spec PyProof.Rows L2

section
variable {X : Cx} {E : XK} {a b e : Expr} {es rest : List Expr} {pos : Pos} {fa fb : Den D} {fs : Den (List D)} {fc fd : Den Bool}
/-! ### chains of comparisons -/
inductive ChOk (X : Cx) (E : XK) : List CmpOp → List Expr → List ((D → D → Option D) × Den D) → Prop
  | one {op g b fb} : OpD X (compareOp op) g → PE X b (TD X E fb) → ChOk X E [op] [b] [(g, fb)]
  | cons {op g b fb op' ops b' bs r' r} : OpD X (compareOp op) g → PE X b (TD X E fb) → ChOk X E (op' :: ops) (b' :: bs) (r' :: r) → ChOk X E (op :: op' :: ops) (b :: b' :: bs) ((g, fb) :: r' :: r)
theorem asB_bind {o : Option D} {z : Bool} (h : o.bind asB = some z) : o = some (.bl z) := by
  cases o with
  | none => cases h
  | some x => rw [asB_some (show asB x = some z from h)]
theorem ChOk.val {ops : List CmpOp} {cs : List Expr} {r : List ((D → D → Option D) × Den D)} (h : ChOk X E ops cs r) : ∀ {pins : List (Addr × Obj)} {s : Shared} {σ : St} {H F : Hp} {ρ : En} {x : D} {vx : V} {v : Value} {Q : VK},
    Inv X pins σ H s → RelV vx v → Sat X.K σ H F ρ → Rep X.K F x vx → good X.K X.mg E σ ρ H F (dCh r x ρ) (fun b _ H' _ => Q (.bl b) H') → wpAny (model X.prog X.w) X.A (compareChain pos v ops (evalEach cs X.env)) (EP X pins σ Q) X.xe s := by
  induction h with
  | one ho hb =>
    intro pins s σ H F ρ x vx v Q I rv S rx h
    obtain ⟨r, hr, q⟩ := ho
    unfold dCh at h
    refine chain_last (thn (hb.run pins s σ H _ I ⟨F, ρ, S, h.bind.mono fun y ρ1 H1 F1 S1 h1 vy ry => (show r vx vy H1 Q from ?_)⟩) fun u s1 ⟨vy, H1, I1, r1, q1⟩ => hr pins s1 σ H1 vx vy v u Q I1 rv r1 q1)
    obtain ⟨z, e, k⟩ := h1.of
    exact q x y _ vx vy σ H1 F1 ρ1 Q S1.sat (rx.mono S1.mono) ry (asB_bind e) fun w H' F' S' rw' => by
      cases rw'
      exact k H' F' S'
  | @cons op g b fb op' ops b' bs r' rr ho hb _ ih =>
    intro pins s σ H F ρ x vx v Q I rv S rx h
    obtain ⟨r, hr, q⟩ := ho
    unfold dCh at h
    refine chain_link (thn (hb.run pins s σ H (fun vy H1 => r vx vy H1 (fun z H2 => ∃ k, z = .bl k ∧ (if k = true then ∃ F2 ρ2 y, Sat X.K σ H2 F2 ρ2 ∧ Rep X.K F2 y vy ∧ good X.K X.mg E σ ρ2 H2 F2 (dCh (r' :: rr) y ρ2) (fun b _ H' _ => Q (.bl b) H') else Q (.bl false) H2))) I ⟨F, ρ, S, h.bind.mono fun y ρ1 H1 F1 S1 h1 vy ry => ?_⟩) fun u s1 ⟨vy, H1, I1, r1, q1⟩ =>
      thn (hr pins s1 σ H1 vx vy v u _ I1 rv r1 q1) fun c s2 ⟨z, H2, I2, r2, k, ez, q2⟩ => ?_)
    · obtain ⟨z, e, k⟩ := h1.bind.of
      exact q x y _ vx vy σ H1 F1 ρ1 _ S1.sat (rx.mono S1.mono) ry (asB_bind e) fun w H' F' S' rw' => by
        cases rw'
        have k := k H' F' S'
        refine ⟨z, rfl, ?_⟩
        cases z with
        | true => exact ⟨F', ρ1, y, S'.sat, ry.mono S'.mono, k⟩
        | false => exact k _ _ (.refl S'.sat)
    · subst ez
      cases r2
      refine wpAny_truthy_bool ?_
      cases k with
      | false => exact ite_ff ⟨.bl false, H2, I2, rfl, q2⟩
      | true =>
        obtain ⟨F2, ρ2, y, S2, ry, q2⟩ := q2
        exact ite_tt (ih I2 r1 S2 ry q2)
theorem ChOk.test {ops : List CmpOp} {cs : List Expr} {r : List ((D → D → Option D) × Den D)} (h : ChOk X E ops cs r) : ∀ {pins : List (Addr × Obj)} {s : Shared} {σ : St} {H F : Hp} {ρ : En} {x : D} {vx : V} {v : Value} {Q : Bool → Hp → Prop},
    Inv X pins σ H s → RelV vx v → Sat X.K σ H F ρ → Rep X.K F x vx → good X.K X.mg E σ ρ H F (dCh r x ρ) (fun b _ H' _ => Q b H') → wpAny (model X.prog X.w) X.A (testChain pos v ops (evalEach cs X.env)) (TP X pins σ Q) X.xe s := by
  induction h with
  | one ho hb =>
    intro pins s σ H F ρ x vx v Q I rv S rx h
    obtain ⟨r, hr, q⟩ := ho
    unfold dCh at h
    refine test_last (thn (hb.run pins s σ H _ I ⟨F, ρ, S, h.bind.mono fun y ρ1 H1 F1 S1 h1 vy ry => (show r vx vy H1 (fun z H2 => ∃ k, z = .bl k ∧ Q k H2) from ?_)⟩) fun u s1 ⟨vy, H1, I1, r1, q1⟩ =>
      thn (hr pins s1 σ H1 vx vy v u _ I1 rv r1 q1) fun c s2 ⟨z, H2, I2, r2, k, ez, q2⟩ => ?_)
    · obtain ⟨z, e, k⟩ := h1.of
      exact q x y _ vx vy σ H1 F1 ρ1 _ S1.sat (rx.mono S1.mono) ry (asB_bind e) fun w H' F' S' rw' => by
        cases rw'
        exact ⟨_, rfl, k H' F' S'⟩
    · subst ez
      cases r2
      exact wpAny_truthy_bool ⟨H2, I2, q2⟩
  | @cons op g b fb op' ops b' bs r' rr ho hb _ ih =>
    intro pins s σ H F ρ x vx v Q I rv S rx h
    obtain ⟨r, hr, q⟩ := ho
    unfold dCh at h
    refine test_link (thn (hb.run pins s σ H (fun vy H1 => r vx vy H1 (fun z H2 => ∃ k, z = .bl k ∧ (if k = true then ∃ F2 ρ2 y, Sat X.K σ H2 F2 ρ2 ∧ Rep X.K F2 y vy ∧ good X.K X.mg E σ ρ2 H2 F2 (dCh (r' :: rr) y ρ2) (fun b _ H' _ => Q b H') else Q false H2))) I ⟨F, ρ, S, h.bind.mono fun y ρ1 H1 F1 S1 h1 vy ry => ?_⟩) fun u s1 ⟨vy, H1, I1, r1, q1⟩ =>
      thn (hr pins s1 σ H1 vx vy v u _ I1 rv r1 q1) fun c s2 ⟨z, H2, I2, r2, k, ez, q2⟩ => ?_)
    · obtain ⟨z, e, k⟩ := h1.bind.of
      exact q x y _ vx vy σ H1 F1 ρ1 _ S1.sat (rx.mono S1.mono) ry (asB_bind e) fun w H' F' S' rw' => by
        cases rw'
        have k := k H' F' S'
        refine ⟨z, rfl, ?_⟩
        cases z with
        | true => exact ⟨F', ρ1, y, S'.sat, ry.mono S'.mono, k⟩
        | false => exact k _ _ (.refl S'.sat)
    · subst ez
      cases r2
      refine wpAny_truthy_bool ?_
      cases k with
      | false => exact ite_ff ⟨H2, I2, q2⟩
      | true =>
        obtain ⟨F2, ρ2, y, S2, ry, q2⟩ := q2
        exact ite_tt (ih I2 r1 S2 ry q2)
theorem de_chain {op op' : CmpOp} {ops : List CmpOp} {c c' : Expr} {cs : List Expr} {r : List ((D → D → Option D) × Den D)} (ha : PE X a (TD X E fa)) (h : ChOk X E (op :: op' :: ops) (c :: c' :: cs) r)
    (hm : lastMarks (op :: op' :: ops) (c :: c' :: cs) = false := by with_unfolding_all rfl) : PE X (.Compare a (op :: op' :: ops) (c :: c' :: cs) pos) (TD X E (dBool (dChain fa r))) := by
  refine ⟨fun pins s σ H Q I ⟨F, ρ, S, k⟩ => Compare_chain (thn (ha.run pins s σ H _ I ⟨F, ρ, S, k.bind.bind.mono fun x ρ1 H1 F1 S1 h1 vx rx => (show ∃ F1 ρ1 x, Sat X.K σ H1 F1 ρ1 ∧ Rep X.K F1 x vx ∧ good X.K X.mg E σ ρ1 H1 F1 (dCh r x ρ1) (fun b _ H' _ => Q (.bl b) H') from ⟨F1, ρ1, x, S1.sat, rx, h1.mono fun b ρ2 H2 F2 S2 k => k _ _ (.refl S2.sat) _ rfl⟩)⟩) fun v s1 ⟨vx, H1, I1, r1, F1, ρ1, x, S1, rx, q⟩ => ?_) hm⟩
  exact h.val I1 r1 S1 rx q
theorem dt_chain {op op' : CmpOp} {ops : List CmpOp} {c c' : Expr} {cs : List Expr} {r : List ((D → D → Option D) × Den D)} (ha : PE X a (TD X E fa)) (h : ChOk X E (op :: op' :: ops) (c :: c' :: cs) r)
    (hm : lastMarks (op :: op' :: ops) (c :: c' :: cs) = false := by with_unfolding_all rfl) : PT X (.Compare a (op :: op' :: ops) (c :: c' :: cs) pos) (TB X E (dChain fa r)) := by
  refine ⟨fun pins s σ H Q I ⟨F, ρ, S, k⟩ => isTrue_chain (thn (ha.run pins s σ H _ I ⟨F, ρ, S, k.bind.mono fun x ρ1 H1 F1 S1 h1 vx rx => (show ∃ F1 ρ1 x, Sat X.K σ H1 F1 ρ1 ∧ Rep X.K F1 x vx ∧ good X.K X.mg E σ ρ1 H1 F1 (dCh r x ρ1) (fun b _ H' _ => Q b H') from ⟨F1, ρ1, x, S1.sat, rx, h1⟩)⟩) fun v s1 ⟨vx, H1, I1, r1, F1, ρ1, x, S1, rx, q⟩ => ?_) hm⟩
  exact h.test I1 r1 S1 rx q

/-! ### subscripts -/
def IxD (X : Cx) (g : D → D → Option D) : Prop := ∃ r : R2, IxR X r ∧
  ∀ (x y z : D) (vx vy : V) (σ : St) (H F : Hp) (ρ : En) (Q : VK), Sat X.K σ H F ρ → Rep X.K F x vx → Rep X.K F y vy → g x y = some z → (∀ v H' F', Step X.K σ ρ H F ρ H' F' → Rep X.K F' z v → Q v H') → r vx vy H Q
theorem IxD.or {g g' : D → D → Option D} (a : IxD X g) (b : IxD X g') : IxD X (gOr g g') := by
  obtain ⟨r, h, q⟩ := a
  obtain ⟨r', h', q'⟩ := b
  refine ⟨_, h.or h', fun x y z vx vy σ H F ρ Q S rx ry e k => ?_⟩
  unfold gOr at e
  cases e1 : g x y with
  | some w =>
    rw [e1] at e
    have e2 : w = z := Option.some.inj e
    subst e2
    exact .inl (q x y w vx vy σ H F ρ Q S rx ry e1 k)
  | none =>
    rw [e1] at e
    exact .inr (q' x y z vx vy σ H F ρ Q S rx ry e k)
def gIxS : D → D → Option D
  | .lst l, .int i => atI l i
  | .tup l, .int i => atI l i
  | .kt l, .int i => atI l i
  | .scr l, .int i => (atI l i).map .int
  | _, _ => none
theorem RepL.atI {K : PySem.W.Frag} {F : Hp} {l : List D} {vs : List V} {i : Int} {d : D} (h : RepL K F l vs) (e : L2.atI l i = some d) : ∃ v, L2.atI vs i = some v ∧ Rep K F d v := by
  unfold L2.atI at *
  rw [← h.length]
  cases q : ixN l.length i with
  | none => rw [q] at e; cases e
  | some j => rw [q] at e; exact h.get e
theorem atI_map {α β : Type} (f : α → β) (l : List α) (i : Int) : L2.atI (l.map f) i = (L2.atI l i).map f := by
  unfold L2.atI
  rw [List.length_map]
  cases ixN l.length i with
  | none => rfl
  | some j => simp
theorem ixd_seq : IxD X gIxS := by
  refine ⟨_, ix_list.or ix_tup, fun x y z vx vy σ H F ρ Q S rx ry e k => ?_⟩
  cases x <;> cases y <;> simp only [gIxS] at e <;> try cases e
  · obtain ⟨p, vs, rfl, hp, r⟩ := rx
    cases ry
    obtain ⟨v, e1, rv⟩ := r.atI e
    exact .inr ⟨p, vs, _, v, rfl, rfl, .of (S.sub _ _ hp), e1, k _ _ _ (.refl S) rv⟩
  · obtain ⟨p, vs, rfl, hp, r⟩ := rx
    cases ry
    obtain ⟨v, e1, rv⟩ := r.atI e
    exact .inl ⟨p, vs, _, v, rfl, rfl, .of (S.sub _ _ hp), e1, k _ _ _ (.refl S) rv⟩
  · obtain ⟨p, rfl, hp⟩ := rx
    cases ry
    rename_i ns i
    cases q : L2.atI ns i with
    | none => rw [q] at e; cases e
    | some n =>
      rw [q] at e
      cases e
      exact .inl ⟨p, _, _, .int n, rfl, rfl, same_sqL S.sub hp, by rw [atI_map, q]; rfl, k _ _ _ (.refl S) rfl⟩
  · obtain ⟨p, vs, rfl, hp, r⟩ := rx
    cases ry
    obtain ⟨v, e1, rv⟩ := r.atI e
    exact .inr ⟨p, vs, _, v, rfl, rfl, same_sqT S.sub hp, e1, k _ _ _ (.refl S) rv⟩
theorem ixTwo_of {g : D → D → Option D} {r : R2} {σ : St} {H : Hp} {Q : VK} (q : ∀ (x y z : D) (vx vy : V) (σ : St) (H F : Hp) (ρ : En) (Q : VK), Sat X.K σ H F ρ → Rep X.K F x vx → Rep X.K F y vy → g x y = some z → (∀ v H' F', Step X.K σ ρ H F ρ H' F' → Rep X.K F' z v → Q v H') → r vx vy H Q)
    (h : TD X E (dBin g fa fb) σ H Q) : tOp r (TD X E fa) (TD X E fb) σ H Q := two_of q h
theorem de_ix {g : D → D → Option D} (ho : IxD X g) (ha : PE X a (TD X E fa)) (hb : PE X b (TD X E fb)) (hs : PlainIx b := by intro _ _; rfl) : PE X (.Subscript a b pos) (TD X E (dBin g fa fb)) := by
  obtain ⟨r, hr, q⟩ := ho
  exact (pe_ix hr ha hb hs).imp fun σ H Q h => two_of q h
/-! ### slices -/
def cutD {α : Type} (xs : List α) (lo hi : Option Int) : List α := (xs.drop (HT.sIx xs.length 0 lo)).take (HT.sIx xs.length xs.length hi - HT.sIx xs.length 0 lo)
def gSl : D → Option Int → Option Int → Option D
  | .lst l, lo, hi => some (.lst (cutD l lo hi))
  | .tup l, lo, hi => some (.tup (cutD l lo hi))
  | .scr l, lo, hi => some (.lst ((cutD l lo hi).map .int))
  | _, _, _ => none
def dPart : Option (Den D) → Den (Option Int)
  | none => fun ρ => .ok none ρ
  | some f => fun ρ => (f ρ).bind fun x ρ1 => match x with
    | .int i => .ok (some i) ρ1
    | _ => .stuck
def dSl (fa : Den D) (lo hi : Option (Den D)) : Den D := fun ρ => (fa ρ).bind fun x ρ1 => (dPart lo ρ1).bind fun l ρ2 => (dPart hi ρ2).bind fun h ρ3 => Res.of (gSl x l h) ρ3
def TO (X : Cx) (E : XK) (f : Den (Option Int)) : L2.TO := fun σ H Q => ∃ F ρ, Sat X.K σ H F ρ ∧ good X.K X.mg E σ ρ H F (f ρ) fun o _ H' _ => Q o H'
theorem _root_.L2.PO.imp {e : Option Expr} {t t' : L2.TO} (h : PO X e t) (i : ∀ σ H Q, t' σ H Q → t σ H Q) : PO X e t' := ⟨fun pins s σ H Q I hw => h.run pins s σ H Q I (i σ H Q hw)⟩
theorem do_none : PO X none (TO X E (dPart none)) := po_none.imp fun σ H Q ⟨F, ρ, S, h⟩ => h _ _ (.refl S)
theorem do_some (h : PE X e (TD X E fa)) : PO X (some e) (TO X E (dPart (some fa))) := (po_some h).imp fun σ H Q ⟨F, ρ, S, h⟩ => ⟨F, ρ, S, h.bind.mono fun x ρ1 H1 F1 S1 h1 vx rx => by
  cases x <;> simp only at h1 <;> first | exact h1.elim | skip
  cases rx
  exact ⟨_, rfl, h1 _ _ (.refl S1.sat)⟩⟩
theorem RepL.cut {K : PySem.W.Frag} {F : Hp} {l : List D} {vs : List V} (h : RepL K F l vs) (lo hi : Option Int) : RepL K F (cutD l lo hi) (cutV vs lo hi) := by
  unfold cutD cutV
  rw [← h.length]
  exact (h.drop _).take _
theorem cutD_whole {α : Type} {xs : List α} {lo hi : Option Int} (h : HT.sIx xs.length 0 lo = 0 ∧ HT.sIx xs.length xs.length hi = xs.length) : cutD xs lo hi = xs := by
  unfold cutD
  rw [h.1, h.2]
  simp
theorem cut_ints (ns : List Int) (lo hi : Option Int) : cutV (ns.map V.int) lo hi = (cutD ns lo hi).map V.int := by
  unfold cutV cutD
  rw [List.length_map, List.map_take, List.map_drop]
theorem de_slice {lo hi : Option Expr} {fl fh : Option (Den D)} {p2 : Pos} (ha : PE X a (TD X E fa)) (hl : PO X lo (TO X E (dPart fl))) (hh : PO X hi (TO X E (dPart fh))) : PE X (.Subscript a (.Slice lo hi none p2) pos) (TD X E (dSl fa fl fh)) := by
  refine (pe_slice (sl_list.or sl_tupA) ha hl hh).imp fun σ H Q ⟨F, ρ, S, h⟩ => ⟨F, ρ, S, h.bind.mono fun x ρ1 H1 F1 S1 h1 vx rx => ⟨F1, ρ1, S1.sat, h1.bind.mono fun l ρ2 H2 F2 S2 h2 => ⟨F2, ρ2, S2.sat, h2.bind.mono fun u ρ3 H3 F3 S3 h3 => ?_⟩⟩⟩
  obtain ⟨z, e, k⟩ := h3.of
  have S := S3.sat
  have rx := rx.mono (S2.mono.trans S3.mono)
  cases x <;> simp only [gSl] at e <;> try cases e
  · obtain ⟨p, vs, rfl, hp, r⟩ := rx
    refine .inr ⟨p, vs, rfl, .of (S.sub _ _ hp), fun hw => ?_, fun hw q hq => ?_⟩
    · refine k _ _ (.refl S) _ ⟨p, vs, rfl, hp, ?_⟩
      have := r.length
      rw [cutD_whole (by rw [this]; exact hw)]
      exact r
    · exact k _ _ (.alloc S hq) _ ⟨q, _, rfl, upd_same, (r.cut l u).mono (same_up (S.sub.free hq))⟩
  · obtain ⟨p, vs, rfl, hp, r⟩ := rx
    exact .inl ⟨p, vs, rfl, .of (S.sub _ _ hp), fun q hq => k _ _ (.alloc S hq) _ ⟨q, _, rfl, upd_same, (r.cut l u).mono (same_up (S.sub.free hq))⟩⟩
  · obtain ⟨p, rfl, hp⟩ := rx
    refine .inl ⟨p, _, rfl, same_sqL S.sub hp, fun q hq => k _ _ (.alloc S hq) _ ⟨q, _, rfl, upd_same, ?_⟩⟩
    rw [cut_ints]
    exact RepL.ints _

/-! ### built-ins -/
def CallD (X : Cx) (f : Value) (g : List D → Option D) : Prop := ∃ r, CallR X f r ∧
  ∀ (xs : List D) (z : D) (vs : List V) (σ : St) (H F : Hp) (ρ : En) (Q : VK), Sat X.K σ H F ρ → RepL X.K F xs vs → g xs = some z → (∀ v H' F', Step X.K σ ρ H F ρ H' F' → Rep X.K F' z v → Q v H') → r vs H Q
def gOr1 (g g' : List D → Option D) : List D → Option D := fun x => match g x with
  | some z => some z
  | none => g' x
theorem CallD.or {f : Value} {g g' : List D → Option D} (a : CallD X f g) (b : CallD X f g') : CallD X f (gOr1 g g') := by
  obtain ⟨r, h, q⟩ := a
  obtain ⟨r', h', q'⟩ := b
  refine ⟨fun vs H Q => r vs H Q ∨ r' vs H Q, fun pins s σ H xs us Q I rs hq => ?_, fun xs z vs σ H F ρ Q S rx e k => ?_⟩
  · rcases hq with hq | hq
    · exact h pins s σ H xs us Q I rs hq
    · exact h' pins s σ H xs us Q I rs hq
  · unfold gOr1 at e
    cases e1 : g xs with
    | some w =>
      rw [e1] at e
      have e2 : w = z := Option.some.inj e
      subst e2
      exact .inl (q xs w vs σ H F ρ Q S rx e1 k)
    | none =>
      rw [e1] at e
      exact .inr (q' xs z vs σ H F ρ Q S rx e k)
def dCall (g : List D → Option D) (fs : Den (List D)) : Den D := fun ρ => (fs ρ).bind fun xs ρ1 => Res.of (g xs) ρ1
theorem call_of {g : List D → Option D} {r : List V → Hp → VK → Prop} {σ : St} {H : Hp} {Q : VK} (q : ∀ (xs : List D) (z : D) (vs : List V) (σ : St) (H F : Hp) (ρ : En) (Q : VK), Sat X.K σ H F ρ → RepL X.K F xs vs → g xs = some z → (∀ v H' F', Step X.K σ ρ H F ρ H' F' → Rep X.K F' z v → Q v H') → r vs H Q)
    (h : TD X E (dCall g fs) σ H Q) : tCB r (TA X E fs) σ H Q := by
  obtain ⟨F, ρ, S, h⟩ := h
  refine ⟨F, ρ, S, h.bind.mono fun xs ρ1 H1 F1 S1 h1 vs rs => ?_⟩
  obtain ⟨z, e, k⟩ := h1.of
  exact q xs z vs σ H1 F1 ρ1 Q S1.sat rs e fun v H' F' S' rv => k H' F' S' v rv
theorem de_callB {x : Str} {p : Pos} {id : String} {g : List D → Option D} (hc : CallD X (.builtin id) g) (hg : Gl X x) (hm : X.mg x = none) (hv : bootBuiltins x = some (.builtin id)) (ha : PA X (e :: es) (TA X E fs)) (hn : x ≠ "__name__" := by decide) (hdb : (x == ("__debug__" : Str)) = false := by decide)
    (he : starEach (e :: es) X.env = (false, eval e X.env) :: starEach es X.env := by rfl) (hpl : (backTo pos (starEach es X.env)).any (·.1) = false := by rfl) : PE X (.Call (.Name x p) (e :: es) [] pos) (TD X E (dCall g fs)) := by
  obtain ⟨r, hr, q⟩ := hc
  exact (pe_callB hr hg hm hv ha hn hdb he hpl).imp fun σ H Q h => call_of q h
theorem de_callTy {x : Str} {p : Pos} {T : String} {g : List D → Option D} (hc : CallD X (.type T) g) (hg : Gl X x) (hm : X.mg x = none) (hv : bootBuiltins x = some (.type T)) (ha : PA X (e :: es) (TA X E fs)) (hn : x ≠ "__name__" := by decide) (hdb : (x == ("__debug__" : Str)) = false := by decide)
    (he : starEach (e :: es) X.env = (false, eval e X.env) :: starEach es X.env := by rfl) (hpl : (backTo pos (starEach es X.env)).any (·.1) = false := by rfl) : PE X (.Call (.Name x p) (e :: es) [] pos) (TD X E (dCall g fs)) := by
  obtain ⟨r, hr, q⟩ := hc
  exact (pe_callTy hr hg hm hv ha hn hdb he hpl).imp fun σ H Q h => call_of q h
theorem RepL.one {K : PySem.W.Frag} {F : Hp} {d : D} {vs : List V} (h : RepL K F [d] vs) : ∃ v, vs = [v] ∧ Rep K F d v := by
  obtain ⟨v, r, rfl, h, rfl⟩ := h
  exact ⟨v, rfl, h⟩
theorem RepL.two {K : PySem.W.Frag} {F : Hp} {d d' : D} {vs : List V} (h : RepL K F [d, d'] vs) : ∃ v w, vs = [v, w] ∧ Rep K F d v ∧ Rep K F d' w := by
  obtain ⟨v, r, rfl, h, w, r', rfl, h', rfl⟩ := h
  exact ⟨v, w, rfl, h, h'⟩
def gLen : List D → Option D
  | [.lst l] => some (.int l.length)
  | [.tup l] => some (.int l.length)
  | [.kt l] => some (.int l.length)
  | [.scr l] => some (.int l.length)
  | [.str x] => if sz x.length = true then some (.int x.length) else none
  | _ => none
theorem cd_len : CallD X (.builtin "len") gLen := by
  refine ⟨_, call_len, fun xs z vs σ H F ρ Q S rx e k => ?_⟩
  unfold gLen at e
  split at e
  · cases e
    obtain ⟨v, rfl, p, vs, rfl, hp, r⟩ := rx.one
    exact ⟨_, _, rfl, .inl ⟨vs, .of (S.sub _ _ hp), r.length⟩, k _ _ _ (.refl S) rfl⟩
  · cases e
    obtain ⟨v, rfl, p, vs, rfl, hp, r⟩ := rx.one
    exact ⟨_, _, rfl, .inr ⟨vs, .of (S.sub _ _ hp), r.length⟩, k _ _ _ (.refl S) rfl⟩
  · cases e
    obtain ⟨v, rfl, p, vs, rfl, hp, r⟩ := rx.one
    exact ⟨_, _, rfl, .inr ⟨vs, same_sqT S.sub hp, r.length⟩, k _ _ _ (.refl S) rfl⟩
  · cases e
    obtain ⟨v, rfl, p, rfl, hp⟩ := rx.one
    exact ⟨_, _, rfl, .inl ⟨_, same_sqL S.sub hp, by rw [List.length_map]⟩, k _ _ _ (.refl S) rfl⟩
  · rename_i x
    split at e
    · rename_i hz
      cases e
      obtain ⟨v, rfl, rfl⟩ := rx.one
      exact ⟨_, _, rfl, ⟨sz_line hz, rfl⟩, k _ _ _ (.refl S) rfl⟩
    · cases e
  · cases e
def gTupleOf : List D → Option D
  | [.lst l] => some (.tup l)
  | [.tup l] => some (.tup l)
  | _ => none
theorem cd_tuple : CallD X (.type "tuple") gTupleOf := by
  refine ⟨_, call_tuple_of, fun xs z vs σ H F ρ Q S rx e k => ?_⟩
  unfold gTupleOf at e
  split at e
  · cases e
    obtain ⟨v, rfl, p, vs, rfl, hp, r⟩ := rx.one
    exact ⟨p, vs, rfl, .inl ⟨.of (S.sub _ _ hp), fun q hq => k _ _ _ (.alloc S hq) ⟨q, _, rfl, upd_same, r.mono (same_up (S.sub.free hq))⟩⟩⟩
  · cases e
    obtain ⟨v, rfl, p, vs, rfl, hp, r⟩ := rx.one
    exact ⟨p, vs, rfl, .inr ⟨.of (S.sub _ _ hp), k _ _ _ (.refl S) ⟨p, vs, rfl, hp, r⟩⟩⟩
  · cases e
def gListOf : List D → Option D
  | [.lst l] => some (.lst l)
  | [.tup l] => some (.lst l)
  | [.kt l] => some (.lst l)
  | [.scr l] => some (.lst (l.map .int))
  | _ => none
theorem cd_list : CallD X (.type "list") gListOf := by
  refine ⟨_, call_list_of, fun xs z vs σ H F ρ Q S rx e k => ?_⟩
  unfold gListOf at e
  split at e
  · cases e
    obtain ⟨v, rfl, p, vs, rfl, hp, r⟩ := rx.one
    exact ⟨p, vs, rfl, .inl (.of (S.sub _ _ hp)), fun q hq => k _ _ _ (.alloc S hq) ⟨q, _, rfl, upd_same, r.mono (same_up (S.sub.free hq))⟩⟩
  · cases e
    obtain ⟨v, rfl, p, vs, rfl, hp, r⟩ := rx.one
    exact ⟨p, vs, rfl, .inr (.of (S.sub _ _ hp)), fun q hq => k _ _ _ (.alloc S hq) ⟨q, _, rfl, upd_same, r.mono (same_up (S.sub.free hq))⟩⟩
  · cases e
    obtain ⟨v, rfl, p, vs, rfl, hp, r⟩ := rx.one
    exact ⟨p, vs, rfl, .inr (same_sqT S.sub hp), fun q hq => k _ _ _ (.alloc S hq) ⟨q, _, rfl, upd_same, r.mono (same_up (S.sub.free hq))⟩⟩
  · cases e
    obtain ⟨v, rfl, p, rfl, hp⟩ := rx.one
    exact ⟨p, _, rfl, .inl (same_sqL S.sub hp), fun q hq => k _ _ _ (.alloc S hq) ⟨q, _, rfl, upd_same, RepL.ints _⟩⟩
  · cases e
def gIntOf : List D → Option D
  | [.int i] => some (.int i)
  | [.bl b] => some (.int (if b then 1 else 0))
  | _ => none
theorem cd_int : CallD X (.type "int") gIntOf := by
  refine ⟨_, call_int1, fun xs z vs σ H F ρ Q S rx e k => ?_⟩
  unfold gIntOf at e
  split at e
  · cases e
    obtain ⟨v, rfl, rfl⟩ := rx.one
    exact .inl ⟨_, rfl, k _ _ _ (.refl S) rfl⟩
  · cases e
    obtain ⟨v, rfl, rfl⟩ := rx.one
    exact .inr ⟨_, rfl, k _ _ _ (.refl S) rfl⟩
  · cases e
def gAbs : List D → Option D
  | [.int i] => some (.int (if i < 0 then -i else i))
  | _ => none
theorem cd_abs : CallD X (.builtin "abs") gAbs := by
  refine ⟨_, call_abs, fun xs z vs σ H F ρ Q S rx e k => ?_⟩
  unfold gAbs at e
  split at e
  · cases e
    obtain ⟨v, rfl, rfl⟩ := rx.one
    exact ⟨_, rfl, k _ _ _ (.refl S) rfl⟩
  · cases e
def gMax2 : List D → Option D
  | [.int i, .int j] => some (.int (if j > i then j else i))
  | _ => none
def gMin2 : List D → Option D
  | [.int i, .int j] => some (.int (if j < i then j else i))
  | _ => none
theorem cd_max2 (hc : X.calm = true) : CallD X (.builtin "max") gMax2 := by
  refine ⟨_, call_max2 hc, fun xs z vs σ H F ρ Q S rx e k => ?_⟩
  unfold gMax2 at e
  split at e
  · cases e
    obtain ⟨v, w, rfl, rfl, rfl⟩ := rx.two
    exact ⟨_, _, rfl, k _ _ _ (.refl S) rfl⟩
  · cases e
theorem cd_min2 (hc : X.calm = true) : CallD X (.builtin "min") gMin2 := by
  refine ⟨_, call_min2 hc, fun xs z vs σ H F ρ Q S rx e k => ?_⟩
  unfold gMin2 at e
  split at e
  · cases e
    obtain ⟨v, w, rfl, rfl, rfl⟩ := rx.two
    exact ⟨_, _, rfl, k _ _ _ (.refl S) rfl⟩
  · cases e
/-- the ints of a list of ints -/
def asInts : List D → Option (List Int)
  | [] => some []
  | .int i :: r => (asInts r).map (i :: ·)
  | _ => none
def asBools : List D → Option (List Bool)
  | [] => some []
  | .bl i :: r => (asBools r).map (i :: ·)
  | _ => none
theorem asInts_ok : ∀ {l : List D} {ns : List Int}, asInts l = some ns → l = ns.map .int
  | [], ns, h => by cases h; rfl
  | .int i :: r, ns, h => by
    unfold asInts at h
    cases e : asInts r with
    | none => rw [e] at h; cases h
    | some ms =>
      rw [e] at h
      cases h
      rw [asInts_ok e]
      rfl
  | .non :: _, _, h => by cases h
  | .bl _ :: _, _, h => by cases h
  | .str _ :: _, _, h => by cases h
  | .ty _ :: _, _, h => by cases h
  | .tup _ :: _, _, h => by cases h
  | .lst _ :: _, _, h => by cases h
  | .dct _ _ :: _, _, h => by cases h
  | .dck _ _ :: _, _, h => by cases h
  | .scr _ :: _, _, h => by cases h
  | .kt _ :: _, _, h => by cases h
  | .exc _ _ _ :: _, _, h => by cases h
theorem asBools_ok : ∀ {l : List D} {ns : List Bool}, asBools l = some ns → l = ns.map .bl
  | [], ns, h => by cases h; rfl
  | .bl i :: r, ns, h => by
    unfold asBools at h
    cases e : asBools r with
    | none => rw [e] at h; cases h
    | some ms =>
      rw [e] at h
      cases h
      rw [asBools_ok e]
      rfl
  | .non :: _, _, h => by cases h
  | .int _ :: _, _, h => by cases h
  | .str _ :: _, _, h => by cases h
  | .ty _ :: _, _, h => by cases h
  | .tup _ :: _, _, h => by cases h
  | .lst _ :: _, _, h => by cases h
  | .dct _ _ :: _, _, h => by cases h
  | .dck _ _ :: _, _, h => by cases h
  | .scr _ :: _, _, h => by cases h
  | .kt _ :: _, _, h => by cases h
  | .exc _ _ _ :: _, _, h => by cases h
theorem asInts_map : ∀ ns : List Int, asInts (ns.map .int) = some ns
  | [] => rfl
  | n :: r => by
    show (asInts (r.map .int)).map (n :: ·) = _
    rw [asInts_map r]
    rfl
theorem asBools_map : ∀ ns : List Bool, asBools (ns.map .bl) = some ns
  | [] => rfl
  | n :: r => by
    show (asBools (r.map .bl)).map (n :: ·) = _
    rw [asBools_map r]
    rfl
theorem RepL.ints_inv {K : PySem.W.Frag} {F : Hp} : ∀ {ns : List Int} {vs : List V}, RepL K F (ns.map .int) vs → vs = ns.map V.int
  | [], _, rfl => rfl
  | n :: _, _, ⟨v, r, rfl, h, t⟩ => by
    cases (show v = V.int n from h)
    rw [t.ints_inv]; rfl
theorem RepL.bools_inv {K : PySem.W.Frag} {F : Hp} : ∀ {ns : List Bool} {vs : List V}, RepL K F (ns.map .bl) vs → vs = ns.map V.bl
  | [], _, rfl => rfl
  | n :: _, _, ⟨v, r, rfl, h, t⟩ => by
    cases (show v = V.bl n from h)
    rw [t.bools_inv]; rfl
def gSumL : List D → Option D
  | [.lst l] => (asInts l).map fun ns => .int ns.sum
  | _ => none
theorem cd_sumL (hc : X.calm = true) : CallD X (.builtin "sum") gSumL := by
  refine ⟨_, cr_sum hc, fun xs z vs σ H F ρ Q S rx e k => ?_⟩
  unfold gSumL at e
  split at e
  · rename_i l
    cases q : asInts l with
    | none => rw [q] at e; cases e
    | some ns =>
      rw [q] at e
      cases e
      have := asInts_ok q
      subst this
      obtain ⟨v, rfl, p, vs, rfl, hp, r⟩ := rx.one
      have := r.ints_inv
      subst this
      exact ⟨p, ns, rfl, .of (S.sub _ _ hp), k _ _ _ (.refl S) rfl⟩
  · cases e
def gAll : List D → Option D
  | [.lst l] => (asBools l).map fun bs => .bl (bs.all id)
  | _ => none
def gAny : List D → Option D
  | [.lst l] => (asBools l).map fun bs => .bl (bs.any id)
  | _ => none
theorem cd_all (hc : X.calm = true) : CallD X (.builtin "all") gAll := by
  refine ⟨_, cr_all hc, fun xs z vs σ H F ρ Q S rx e k => ?_⟩
  unfold gAll at e
  split at e
  · rename_i l
    cases q : asBools l with
    | none => rw [q] at e; cases e
    | some ns =>
      rw [q] at e
      cases e
      have := asBools_ok q
      subst this
      obtain ⟨v, rfl, p, vs, rfl, hp, r⟩ := rx.one
      have := r.bools_inv
      subst this
      exact ⟨p, ns, rfl, .of (S.sub _ _ hp), k _ _ _ (.refl S) rfl⟩
  · cases e
theorem cd_any (hc : X.calm = true) : CallD X (.builtin "any") gAny := by
  refine ⟨_, cr_any hc, fun xs z vs σ H F ρ Q S rx e k => ?_⟩
  unfold gAny at e
  split at e
  · rename_i l
    cases q : asBools l with
    | none => rw [q] at e; cases e
    | some ns =>
      rw [q] at e
      cases e
      have := asBools_ok q
      subst this
      obtain ⟨v, rfl, p, vs, rfl, hp, r⟩ := rx.one
      have := r.bools_inv
      subst this
      exact ⟨p, ns, rfl, .of (S.sub _ _ hp), k _ _ _ (.refl S) rfl⟩
  · cases e
def gNeg : D → Option D
  | .int i => some (.int (-i))
  | _ => none
theorem de_neg (ha : PE X a (TD X E fa)) : PE X (.UnaryOp .USub a pos) (TD X E (dUn gNeg fa)) :=
  (pe_un un_neg ha).imp fun σ H Q ⟨F, ρ, S, h⟩ => ⟨F, ρ, S, h.bind.mono fun x ρ1 H1 F1 S1 h1 vx rx => by
    obtain ⟨z, e, k⟩ := h1.of
    cases x <;> simp only [gNeg] at e <;> try cases e
    cases rx
    exact ⟨_, rfl, k _ _ (.refl S1.sat) _ rfl⟩⟩

/-! ### calls of defs that leave no trace -/
inductive FR where
  | ok (d : D)
  | err (x : Exn)
  | stuck
def spA (K : PySem.W.Frag) (mg : MG) (n : Nat) (g : List D → FR) : Sp := fun vs H Q E => vs.length = n ∧ ∃ F ds, Same F H ∧ RepL K F ds vs ∧ match g ds with
  | .ok d => ∀ v H' F', Same H H' → Same F F' → Same F' H' → (∀ b o, H b = some o → F' b = F b) → Rep K F' d v → Q v H'
  | .err x => ∀ c dd H' F', Same H H' → Same F F' → Same F' H' → (∀ b o, H b = some o → F' b = F b) → RepX K mg F' H' x c dd → E c dd H'
  | .stuck => False
def frR : FR → En → Res D
  | .ok d, ρ => .ok d ρ
  | .err x, ρ => .err x ρ
  | .stuck, _ => .stuck
def dFn (g : List D → FR) (fs : Den (List D)) : Den D := fun ρ => (fs ρ).bind fun ds ρ1 => frR (g ds) ρ1
theorem Step.still {K : PySem.W.Frag} {σ : St} {ρ : En} {H F H' F' : Hp} (S : Sat K σ H F ρ) (a : Same H H') (b : Same F F') (c : Same F' H') (d : ∀ b o, H b = some o → F' b = F b) : Step K σ ρ H F ρ H' F' := by
  refine ⟨fun p o e _ => a p o e, b, fun p o e _ => d p o e, fun _ s e o => ⟨s, e, o⟩, fun p o e => ⟨o, a p o e⟩, c, S.len, fun i s e => ?_, S.dis⟩
  obtain ⟨x, e1, ok⟩ := S.sl i s e
  exact ⟨x, e1, ok.mono b (fun p u _ _ q => a p u q) fun p u _ _ q n => (d p u q).trans n⟩
theorem fn_of' {n : Nat} {g : List D → FR} {σ : St} {H F : Hp} {ρ : En} {ds : List D} {vs : List V} {Q : VK} (S : Sat X.K σ H F ρ) (rs : RepL X.K F ds vs) (hl : ds.length = n) (h : good X.K X.mg E σ ρ H F (frR (g ds) ρ) fun d _ H' F' => ∀ v, Rep X.K F' d v → Q v H') : spA X.K X.mg n g vs H Q E := by
  refine ⟨by rw [← rs.length]; exact hl, F, ds, S.sub, rs, ?_⟩
  cases e : g ds with
  | ok d => rw [e] at h; exact fun v H' F' a b c d rv => h H' F' (.still S a b c d) v rv
  | err x => rw [e] at h; exact fun c dd H' F' a b c' d rx => h c dd H' F' (.still S a b c' d) rx
  | stuck => rw [e] at h; exact h
/-- the defaults, by data -/
def RepAll (K : PySem.W.Frag) (dd : List D) (dvs : List V) : Prop := ∀ F, RepL K F dd dvs
theorem de_call {k : Nat} {f : Addr} {fd : FuncData} {ps : List Str} {g : List D → FR} {x : Str} {p : Pos} {dd : List D} {dvs : List V} {ds : List Value} {n : Nat} (F : FnOk X.prog X.w X.K X.mg X.base (CX X.prog X.w) k f fd ps (spA X.K X.mg n g)) (hr : Room k X.A) (hg : Gl X x) (hm : X.mg x = some (.ref f)) (hk : PySem.W.keepIn X.K (.ref f) = true)
    (hb : Binds X.K fd ps ds) (hd : Vals dvs ds) (rd : RepAll X.K dd dvs) (hx : Passes (CX X.prog X.w) X E) (ha : PA X (e :: es) (TA X E fs)) (hdb : (x == ("__debug__" : Str)) = false := by decide) (he : starEach (e :: es) X.env = (false, eval e X.env) :: starEach es X.env := by rfl)
    (hpl : (backTo pos (starEach es X.env)).any (·.1) = false := by rfl) : PE X (.Call (.Name x p) (e :: es) [] pos) (TD X E (dFn (fun l => if l.length + dd.length = n then g (l ++ dd) else .stuck) fs)) :=
  (pe_call F hr hg hm hk hb hd hx ha hdb he hpl).imp fun σ H Q ⟨F, ρ, S, h⟩ => ⟨F, ρ, S, h.bind.mono fun xs ρ1 H1 F1 S1 h1 vs rs => by
    dsimp only at h1
    by_cases hl : xs.length + dd.length = n
    · rw [if_pos hl] at h1
      exact fn_of' S1.sat (rs.append (rd F1)) (by rw [List.length_append]; exact hl) h1
    · rw [if_neg hl] at h1
      exact h1.elim⟩
end
end DL

namespace DL
open PySem PySem.Spec PyProof.Rows L2

/-! ### where a def stands -/
structure Zt where
  H0 : Hp
  F0 : Hp
  pa : Option Addr
structure Ent (K : PySem.W.Frag) (Z : Zt) (σ : St) (ρ : En) (H F : Hp) : Prop where
  same : ∀ b o, Z.H0 b = some o → Z.pa ≠ some b → H b = some o
  mono : Same Z.F0 F
  keep : ∀ b o, Z.H0 b = some o → Z.pa ≠ some b → F b = Z.F0 b
  own : ∀ a, OwnA σ ρ a → Z.pa = some a ∨ Z.H0 a = none
  prot : ∀ a, Z.pa = some a → σ[0]? = some (some (.ref a))
  there : ∀ b o, Z.H0 b = some o → ∃ o', H b = some o'
  sat : Sat K σ H F ρ
section
variable {K : PySem.W.Frag} {Z : Zt} {σ σ' : St} {ρ ρ' : En} {H F H' F' F1 : Hp}
theorem Ent.step (e : Ent K Z σ ρ H F) (S : Step K σ ρ H F ρ' H' F') : Ent K Z σ ρ' H' F' := by
  have no : ∀ b o, Z.H0 b = some o → Z.pa ≠ some b → ¬ OwnA σ ρ b := fun b o h n z => (e.own b z).elim n fun q => by
    rw [q] at h
    cases h
  refine ⟨fun b o h n => S.same b o (e.same b o h n) (no b o h n), e.mono.trans S.mono, fun b o h n => (S.keep b o (e.same b o h n) (no b o h n)).trans (e.keep b o h n), fun a z => e.own a (S.ownA z), e.prot, fun b o h => ?_, S.sat⟩
  obtain ⟨o', h'⟩ := e.there b o h
  exact S.there b o' h'
/-- from a later F on -/
theorem Ent.from_ (e : Ent K Z σ ρ H F) (e1 : ∀ b o, Z.H0 b = some o → Z.pa ≠ some b → F1 b = Z.F0 b) (m : Same F1 F) : Ent K { Z with F0 := F1 } σ ρ H F :=
  ⟨e.same, m, fun b o h n => (e.keep b o h n).trans (e1 b o h n).symm, e.own, e.prot, e.there, e.sat⟩
theorem Ent.back (e : Ent K { Z with F0 := F1 } σ ρ H F) (e1 : ∀ b o, Z.H0 b = some o → Z.pa ≠ some b → F1 b = Z.F0 b) (m : Same Z.F0 F1) : Ent K Z σ ρ H F :=
  ⟨e.same, m.trans e.mono, fun b o h n => (e.keep b o h n).trans (e1 b o h n), e.own, e.prot, e.there, e.sat⟩
/-! slots are stored -/
theorem Sat.setS {i : Nat} {s : Sl} {v : V} (S : Sat K σ H F ρ) (h : SlotOk K F H s (some v)) (fr : ownS s = true → ∀ a, v = .ref a → ¬ OwnA σ ρ a) : Sat K (σ.set i (some v)) H F (ρ.set i s) := by
  refine ⟨S.sub, by rw [List.length_set, List.length_set]; exact S.len, fun j t e => ?_, fun j k a t u e1 e2 o1 o2 q1 q2 => ?_⟩
  · by_cases hj : i = j
    · subst hj
      have hl : i < ρ.length := by
        have := (List.getElem?_eq_some_iff.mp e).1
        rwa [List.length_set] at this
      rw [List.getElem?_set_self hl] at e
      cases e
      exact ⟨some v, List.getElem?_set_self (by rw [← S.len]; exact hl), h⟩
    · rw [List.getElem?_set_ne hj] at e
      rw [List.getElem?_set_ne hj]
      exact S.sl j t e
  · have gj : ∀ j t, (ρ.set i s)[j]? = some t → i ≠ j → ρ[j]? = some t := fun j t e n => by rwa [List.getElem?_set_ne n] at e
    have gs : ∀ j (x : Option V), (σ.set i (some v))[j]? = some x → i ≠ j → σ[j]? = some x := fun j t e n => by rwa [List.getElem?_set_ne n] at e
    have ge : ∀ t, (ρ.set i s)[i]? = some t → t = s := fun t e => by
      have hl : i < ρ.length := by
        have := (List.getElem?_eq_some_iff.mp e).1
        rwa [List.length_set] at this
      rw [List.getElem?_set_self hl] at e
      exact (Option.some.inj e).symm
    have gv : ∀ x, (σ.set i (some v))[i]? = some (some x) → x = v := fun x e => by
      have hl : i < σ.length := by
        have := (List.getElem?_eq_some_iff.mp e).1
        rwa [List.length_set] at this
      rw [List.getElem?_set_self hl] at e
      exact (Option.some.inj (Option.some.inj e)).symm
    by_cases hj : i = j
    · by_cases hk : i = k
      · exact hj.symm.trans hk
      · subst hj
        have := ge t e1
        subst this
        have hv := gv _ q1
        exact absurd ⟨k, u, gj k u e2 hk, o2, gs k _ q2 hk⟩ (fr o1 a hv.symm)
    · by_cases hk : i = k
      · subst hk
        have := ge u e2
        subst this
        have hv := gv _ q2
        exact absurd ⟨j, t, gj j t e1 hj, o1, gs j _ q1 hj⟩ (fr o2 a hv.symm)
      · exact S.dis j k a t u (gj j t e1 hj) (gj k u e2 hk) o1 o2 (gs j _ q1 hj) (gs k _ q2 hk)
theorem OwnA.setS {i : Nat} {s : Sl} {v : V} {a : Addr} (h : OwnA (σ.set i (some v)) (ρ.set i s) a) : OwnA σ ρ a ∨ (ownS s = true ∧ v = .ref a) := by
  obtain ⟨j, t, e, o, q⟩ := h
  by_cases hj : i = j
  · subst hj
    have hl : i < ρ.length := by
      have := (List.getElem?_eq_some_iff.mp e).1
      rwa [List.length_set] at this
    have hl2 : i < σ.length := by
      have := (List.getElem?_eq_some_iff.mp q).1
      rwa [List.length_set] at this
    rw [List.getElem?_set_self hl] at e
    rw [List.getElem?_set_self hl2] at q
    cases e
    exact .inr ⟨o, Option.some.inj (Option.some.inj q)⟩
  · rw [List.getElem?_set_ne hj] at e q
    exact .inl ⟨j, t, e, o, q⟩
theorem Ent.setS {i : Nat} {s : Sl} {v : V} (e : Ent K Z σ ρ H F) (h : SlotOk K F H s (some v)) (fr : ownS s = true → ∀ a, v = .ref a → ¬ OwnA σ ρ a ∧ Z.H0 a = none) (hp : Z.pa.isSome = true → i ≠ 0) : Ent K Z (σ.set i (some v)) (ρ.set i s) H F := by
  refine ⟨e.same, e.mono, e.keep, fun a z => ?_, fun a q => ?_, e.there, e.sat.setS h fun o a q => (fr o a q).1⟩
  · rcases OwnA.setS z with z | ⟨o, z⟩
    · exact e.own a z
    · exact .inr (fr o a z).2
  · have : i ≠ 0 := hp (by rw [q]; rfl)
    rw [List.getElem?_set_ne this]
    exact e.prot a q
/-! slots are forgotten -/
def killE : List Nat → En → En
  | [], ρ => ρ
  | i :: r, ρ => (killE r ρ).set i .un
theorem Sat.kill1 {i : Nat} (S : Sat K σ H F ρ) : Sat K σ H F (ρ.set i .un) := by
  have gj : ∀ j t, (ρ.set i .un)[j]? = some t → (i = j ∧ t = .un ∧ j < ρ.length) ∨ ρ[j]? = some t := fun j t e => by
    by_cases hj : i = j
    · subst hj
      have hl : i < ρ.length := by
        have := (List.getElem?_eq_some_iff.mp e).1
        rwa [List.length_set] at this
      rw [List.getElem?_set_self hl] at e
      cases e
      exact .inl ⟨rfl, rfl, hl⟩
    · rw [List.getElem?_set_ne hj] at e
      exact .inr e
  refine ⟨S.sub, by rw [List.length_set]; exact S.len, fun j t e => ?_, fun j k a t u e1 e2 o1 o2 q1 q2 => ?_⟩
  · rcases gj j t e with ⟨_, rfl, hl⟩ | e
    · exact ⟨σ[j]'(by rw [← S.len]; exact hl), by simp, trivial⟩
    · exact S.sl j t e
  · rcases gj j t e1 with ⟨_, rfl, _⟩ | e1
    · cases o1
    · rcases gj k u e2 with ⟨_, rfl, _⟩ | e2
      · cases o2
      · exact S.dis j k a t u e1 e2 o1 o2 q1 q2
theorem OwnA.kill1 {i : Nat} {a : Addr} (h : OwnA σ (ρ.set i .un) a) : OwnA σ ρ a := by
  obtain ⟨j, t, e, o, q⟩ := h
  by_cases hj : i = j
  · subst hj
    have hl : i < ρ.length := by
      have := (List.getElem?_eq_some_iff.mp e).1
      rwa [List.length_set] at this
    rw [List.getElem?_set_self hl] at e
    cases e
    cases o
  · rw [List.getElem?_set_ne hj] at e
    exact ⟨j, t, e, o, q⟩
theorem Ent.kill (e : Ent K Z σ ρ H F) : ∀ l : List Nat, Ent K Z σ (killE l ρ) H F
  | [] => e
  | i :: r => by
    have h := e.kill r
    exact ⟨h.same, h.mono, h.keep, fun a z => h.own a z.kill1, h.prot, h.there, h.sat.kill1⟩
end

/-! ### what a statement does -/
inductive SR where
  | nx (ρ : En) | rt (d : D) (ρ : En) | rto (l : List D) (ρ : En) | bk (ρ : En) | ct (ρ : En) | er (x : Exn) (ρ : En) | stuck
abbrev Ds := En → SR
def sB {α : Type} (r : Res α) (k : α → En → SR) : SR := match r with
  | .ok a ρ => k a ρ
  | .err x ρ => .er x ρ
  | .stuck => .stuck
def post (K : PySem.W.Frag) (mg : MG) (E : XK) (Z : Zt) (Dn : Ends) (r : SR) : Prop := match r with
  | .nx ρ => ∀ σ H F, Ent K Z σ ρ H F → Dn.nx σ H
  | .bk ρ => ∀ σ H F, Ent K Z σ ρ H F → Dn.bk σ H
  | .ct ρ => ∀ σ H F, Ent K Z σ ρ H F → Dn.ct σ H
  | .rt d ρ => ∀ v σ H F, Ent K Z σ ρ H F → Rep K F d v → Dn.rt v H
  | .rto l ρ => ∀ a ws σ H F, Ent K Z σ ρ H F → H a = some (.lst ws) → F a = none → Z.H0 a = none → RepL K F l ws → Dn.rt (.ref a) H
  | .er x ρ => ∀ c dd σ H F, Ent K Z σ ρ H F → RepX K mg F H x c dd → E c dd H
  | .stuck => False
def tS (K : PySem.W.Frag) (mg : MG) (E : XK) (pr : Bool) (f : Ds) : TS := fun Dn σ H => ∃ Z F ρ, Z.pa.isSome = pr ∧ Ent K Z σ ρ H F ∧ post K mg E Z Dn (f ρ)
abbrev TSt (X : Cx) (E : XK) (pr : Bool) (f : Ds) : TS := tS X.K X.mg E pr f
theorem sB_good {K : PySem.W.Frag} {mg : MG} {E : XK} {Z : Zt} {Dn : Ends} {α : Type} {r : Res α} {k : α → En → SR} {σ : St} {ρ : En} {H F : Hp} (e : Ent K Z σ ρ H F) (h : post K mg E Z Dn (sB r k)) :
    good K mg E σ ρ H F r fun a ρ' H' F' => Ent K Z σ ρ' H' F' ∧ post K mg E Z Dn (k a ρ') := by
  cases r with
  | ok a ρ' => exact fun H' F' S => ⟨e.step S, h⟩
  | err x ρ' => exact fun c dd H' F' S rx => h c dd σ H' F' (e.step S) rx
  | stuck => exact h
def sNop : Ds := fun ρ => .nx ρ
def sSeq (f g : Ds) : Ds := fun ρ => match f ρ with
  | .nx ρ1 => g ρ1
  | r => r
def sRet (f : Den D) : Ds := fun ρ => sB (f ρ) fun d ρ1 => .rt d ρ1
def sIf (c : Den Bool) (f g : Ds) : Ds := fun ρ => sB (c ρ) fun b ρ1 => if b = true then f ρ1 else g ρ1
def sDrop (f : Den D) : Ds := fun ρ => sB (f ρ) fun _ ρ1 => .nx ρ1
def sSet (i : Nat) (f : Den Sl) : Ds := fun ρ => sB (f ρ) fun s ρ1 => .nx (ρ1.set i s)

section
variable {X : Cx} {E : XK} {pr : Bool} {a b e : Expr} {es : List Expr} {st : Stmt} {rest : List Stmt} {pos : Pos} {fa fb : Den D} {fs : Den (List D)} {fc : Den Bool} {f g : Ds}
theorem dss_nil : PSs X [] (TSt X E pr sNop) := pss_nil.imp fun Dn σ H ⟨Z, F, ρ, _, e, h⟩ => h σ H F e
theorem ds_pass : PS X (.Pass pos) (TSt X E pr sNop) := ps_pass.imp fun Dn σ H ⟨Z, F, ρ, _, e, h⟩ => h σ H F e
theorem ds_break : PS X (.Break pos) (TSt X E pr (fun ρ => .bk ρ)) := ps_break.imp fun Dn σ H ⟨Z, F, ρ, _, e, h⟩ => h σ H F e
theorem ds_continue : PS X (.Continue pos) (TSt X E pr (fun ρ => .ct ρ)) := ps_continue.imp fun Dn σ H ⟨Z, F, ρ, _, e, h⟩ => h σ H F e
theorem post_seq {K : PySem.W.Frag} {mg : MG} {Z : Zt} {Dn : Ends} {ρ : En} {u : TS} (h : post K mg E Z Dn (sSeq f g ρ)) (hp : Z.pa.isSome = pr) (hu : ∀ σ H, tS K mg E pr g Dn σ H → u Dn σ H) : post K mg E Z { Dn with nx := u Dn } (f ρ) := by
  unfold sSeq at h
  cases e : f ρ with
  | nx ρ1 => rw [e] at h; exact fun σ H F en => hu σ H ⟨Z, F, ρ1, hp, en, h⟩
  | rt d ρ1 => rw [e] at h; exact h
  | rto d ρ1 => rw [e] at h; exact h
  | bk ρ1 => rw [e] at h; exact h
  | ct ρ1 => rw [e] at h; exact h
  | er x ρ1 => rw [e] at h; exact h
  | stuck => rw [e] at h; exact h
theorem dss_cons (h1 : PS X st (TSt X E pr f)) (h2 : PSs X rest (TSt X E pr g)) : PSs X (st :: rest) (TSt X E pr (sSeq f g)) :=
  (pss_cons h1 h2).imp fun Dn σ H ⟨Z, F, ρ, hp, e, h⟩ => ⟨Z, F, ρ, hp, e, post_seq h hp fun _ _ q => q⟩
theorem dss_one (h1 : PS X st (TSt X E pr f)) : PSs X [st] (TSt X E pr f) := pss_one h1
theorem ds_ret (h : PE X e (TD X E fa)) : PS X (.Return (some e) pos) (TSt X E pr (sRet fa)) := (ps_ret h).imp fun Dn σ H ⟨Z, F, ρ, _, en, h⟩ =>
  ⟨F, ρ, en.sat, (sB_good en h).mono fun d ρ1 H1 F1 S h1 v rv => h1.2 v σ H1 F1 h1.1 rv⟩
def sRetO (f : Den (List D)) : Ds := fun ρ => sB (f ρ) fun l ρ1 => .rto l ρ1
theorem ds_retO {fl : Den (List D)} (h : PE X e (TSl X E (dOwn fl))) : PS X (.Return (some e) pos) (TSt X E pr (sRetO fl)) := (ps_ret h).imp fun Dn σ H ⟨Z, F, ρ, _, en, h⟩ => by
  refine ⟨F, ρ, en.sat, ?_⟩
  unfold sRetO at h
  unfold dOwn
  cases e : fl ρ with
  | stuck => rw [e] at h; exact h
  | err x ρ' =>
    rw [e] at h
    exact fun c dd H' F' S rx => h c dd σ H' F' (en.step S) rx
  | ok l ρ' =>
    rw [e] at h
    intro H' F' S v ok fr
    obtain ⟨a, ws, q, h1, h2, h3⟩ := ok
    cases q
    obtain ⟨n1, n2⟩ := fr rfl a rfl
    refine h a ws σ H' F' (en.step S) h1 h2 ?_ h3
    cases q : Z.H0 a with
    | none => rfl
    | some u =>
      obtain ⟨o', e'⟩ := en.there a u q
      rw [n2] at e'
      cases e'
theorem ds_retN : PS X (.Return none pos) (TSt X E pr (fun ρ => .rt .non ρ)) := ps_retN.imp fun Dn σ H ⟨Z, F, ρ, _, en, h⟩ => h .non σ H F en rfl
theorem ds_if {c : Expr} {A B : List Stmt} (hc : PT X c (TB X E fc)) (ha : PSs X A (TSt X E pr f)) (hb : PSs X B (TSt X E pr g)) : PS X (.If c A B pos) (TSt X E pr (sIf fc f g)) := (ps_if hc ha hb).imp fun Dn σ H ⟨Z, F, ρ, hp, en, h⟩ =>
  ⟨F, ρ, en.sat, (sB_good en h).mono fun d ρ1 H1 F1 S h1 => by
    cases d with
    | true => exact ⟨Z, F1, ρ1, hp, h1.1, h1.2⟩
    | false => exact ⟨Z, F1, ρ1, hp, h1.1, h1.2⟩⟩
theorem ds_expr (h : PE X e (TD X E fa)) (hs : swapsWith e none pos.line X.env = pure false := by rfl) : PS X (.Expr e pos) (TSt X E pr (sDrop fa)) := (ps_expr h hs).imp fun Dn σ H ⟨Z, F, ρ, _, en, h⟩ =>
  ⟨F, ρ, en.sat, (sB_good en h).mono fun d ρ1 H1 F1 S h1 v rv => h1.2 σ H1 F1 h1.1⟩
theorem set_of {i : Nat} {fs : Den Sl} {Dn : Ends} {σ : St} {H : Hp} (hp0 : pr = true → i ≠ 0) (h : TSt X E pr (sSet i fs) Dn σ H) : tAsg (TSl X E fs) (gName i) Dn σ H := by
  obtain ⟨Z, F, ρ, hp, en, h⟩ := h
  refine ⟨F, ρ, en.sat, (sB_good en h).mono fun s ρ1 H1 F1 S h1 v ok fr => h1.2 _ _ _ (h1.1.setS ok (fun o a e => ⟨(fr o a e).1, ?_⟩) fun q => hp0 (hp ▸ q))⟩
  cases q : Z.H0 a with
  | none => rfl
  | some u =>
    obtain ⟨o', e'⟩ := en.there a u q
    rw [(fr o a e).2] at e'
    cases e'
theorem ds_set {i : Nat} {x : Str} {fs : Den Sl} {pos' : Pos} (hN : X.N.Nodup) (hi : X.N[i]? = some x) (hx : Loc X.env.scope x) (he : PE X e (TSl X E fs)) (hp0 : pr = true → i ≠ 0 := by decide) (hs : swapsWith e (some (.Name x pos')) pos.line X.env = pure false := by rfl)
    (hf : X.fn x = true ∨ X.env.scope.names.lookup x = some .local := by first | exact .inl rfl | exact .inr rfl | assumption) : PS X (.Assign [.Name x pos'] e pos) (TSt X E pr (sSet i fs)) :=
  (ps_set hN hi hx he hs hf).imp fun Dn σ H h => set_of hp0 h
end

/-! ### targets -/
inductive Tg where
  | n (i : Nat)
  | t (ts : List Tg)
mutual
def Tg.slots : Tg → List Nat
  | .n i => [i]
  | .t ts => slotsL ts
def slotsL : List Tg → List Nat
  | [] => []
  | t :: ts => t.slots ++ slotsL ts
end
def seqD : D → Option (List D)
  | .tup l => some l
  | .lst l => some l
  | .kt l => some l
  | _ => none
mutual
def asgT : Tg → D → En → Option En
  | .n i, d, ρ => some (ρ.set i (.d d))
  | .t ts, d, ρ => match seqD d with
    | some l => asgL ts l ρ
    | none => none
def asgL : List Tg → List D → En → Option En
  | [], [], ρ => some ρ
  | t :: ts, d :: ds, ρ => match asgT t d ρ with
    | some ρ1 => asgL ts ds ρ1
    | none => none
  | _, _, _ => none
end
theorem asgL_len : ∀ {ts : List Tg} {l : List D} {ρ ρ' : En}, asgL ts l ρ = some ρ' → l.length = ts.length
  | [], [], _, _, _ => rfl
  | [], _ :: _, _, _, h => by unfold asgL at h; cases h
  | _ :: _, [], _, _, h => by unfold asgL at h; cases h
  | t :: ts, d :: ds, ρ, ρ', h => by
    unfold asgL at h
    split at h
    · rw [List.length_cons, List.length_cons, asgL_len h]
    · cases h
def SetOn (S : List Nat) (σ σ' : St) : Prop := σ'.length = σ.length ∧ ∀ i, i ∉ S → σ'[i]? = σ[i]?
theorem SetOn.refl {S : List Nat} {σ : St} : SetOn S σ σ := ⟨rfl, fun _ _ => rfl⟩
theorem SetOn.trans {S S' : List Nat} {σ σ1 σ2 : St} (a : SetOn S σ σ1) (b : SetOn S' σ1 σ2) : SetOn (S ++ S') σ σ2 :=
  ⟨b.1.trans a.1, fun i h => by
    rw [List.mem_append, not_or] at h
    exact (b.2 i h.2).trans (a.2 i h.1)⟩
def gD (K : PySem.W.Frag) (t : Tg) : TG := fun v σ H Q => ∃ F ρ d ρ', Sat K σ H F ρ ∧ Rep K F d v ∧ asgT t d ρ = some ρ' ∧ ∀ σ', SetOn t.slots σ σ' → Sat K σ' H F ρ' → (∀ a, OwnA σ' ρ' a → OwnA σ ρ a) → Q σ' H
def gDs (K : PySem.W.Frag) (ts : List Tg) : TGs := fun vs σ H Q => ∃ F ρ ds ρ', Sat K σ H F ρ ∧ RepL K F ds vs ∧ asgL ts ds ρ = some ρ' ∧ ∀ σ', SetOn (slotsL ts) σ σ' → Sat K σ' H F ρ' → (∀ a, OwnA σ' ρ' a → OwnA σ ρ a) → Q σ' H
theorem _root_.L2.PG.imp {X : Cx} {tg : Expr} {t t' : TG} (h : PG X tg t) (i : ∀ v σ H Q, t' v σ H Q → t v σ H Q) : PG X tg t' := ⟨fun pins s σ H v u Q I r hw => h.run pins s σ H v u Q I r (i v σ H Q hw)⟩
theorem _root_.L2.PG.or {X : Cx} {tg : Expr} {t t' : TG} (h : PG X tg t) (h' : PG X tg t') : PG X tg (fun v σ H Q => t v σ H Q ∨ t' v σ H Q) := ⟨fun pins s σ H v u Q I r hw => hw.elim (h.run pins s σ H v u Q I r) (h'.run pins s σ H v u Q I r)⟩
theorem _root_.L2.PGs.imp {X : Cx} {tg : List Expr} {t t' : TGs} (h : PGs X tg t) (i : ∀ v σ H Q, t' v σ H Q → t v σ H Q) : PGs X tg t' := ⟨fun pins s σ H v u Q I r hw => h.run pins s σ H v u Q I r (i v σ H Q hw)⟩
section
variable {X : Cx} {E : XK} {pr : Bool} {pos : Pos} {e : Expr} {es : List Expr}
theorem dg_name {i : Nat} {x : Str} (hN : X.N.Nodup) (hi : X.N[i]? = some x) (hx : Loc X.env.scope x) (hf : X.fn x = true ∨ X.env.scope.names.lookup x = some .local := by first | exact .inl rfl | exact .inr rfl | assumption) : PG X (.Name x pos) (gD X.K (.n i)) :=
  (pg_name hN hi hx hf).imp fun v σ H Q ⟨F, ρ, d, ρ', S, r, e, h⟩ => by
    unfold asgT at e
    cases e
    refine h _ ⟨by rw [List.length_set], fun j hj => ?_⟩ (S.setS ⟨v, rfl, r⟩ fun o => by cases o) fun a z => (OwnA.setS z).elim id fun q => by cases q.1
    have : i ≠ j := fun z => hj (by subst z; unfold Tg.slots; exact List.mem_singleton_self _)
    rw [List.getElem?_set_ne this]
theorem dgs_nil : PGs X [] (gDs X.K []) := pgs_nil.imp fun vs σ H Q ⟨F, ρ, ds, ρ', S, r, e, h⟩ => by
  cases ds with
  | nil =>
    unfold asgL at e
    cases e
    exact ⟨r, h σ SetOn.refl S fun _ z => z⟩
  | cons d ds => unfold asgL at e; cases e
theorem dgs_cons {t : Tg} {ts : List Tg} (h1 : PG X e (gD X.K t)) (h2 : PGs X es (gDs X.K ts)) (hs : (assignEach (e :: es) X.env).map (·.2) = assign e X.env :: (assignEach es X.env).map (·.2) := by rfl) : PGs X (e :: es) (gDs X.K (t :: ts)) :=
  (pgs_cons h1 h2 hs).imp fun vs σ H Q ⟨F, ρ, ds, ρ', S, r, e, h⟩ => by
    cases ds with
    | nil => unfold asgL at e; cases e
    | cons d ds =>
      unfold asgL at e
      split at e
      · rename_i ρ1 e1
        obtain ⟨v, w, rfl, rd, rr⟩ := r
        refine ⟨v, w, rfl, F, ρ, d, ρ1, S, rd, e1, fun σ1 s1 S1 o1 => ⟨F, ρ1, ds, ρ', S1, rr, e, fun σ2 s2 S2 o2 => h σ2 ?_ S2 fun a z => o1 a (o2 a z)⟩⟩
        unfold slotsL
        exact s1.trans s2
      · cases e
theorem dg_tup {k : Nat} {ts : List Tg} (hc : X.calm = true) (h : PGs X es (gDs X.K ts)) (hn : (assignEach es X.env).length = ts.length := by rfl) (hst : (assignEach es X.env).findIdx? (·.1) = none := by rfl) : PG X (.Tuple es k pos) (gD X.K (.t ts)) :=
  ((pg_tup hc h hn hst).or (pg_unl hc h hn hst)).imp fun v σ H Q ⟨F, ρ, d, ρ', S, r, e, h⟩ => by
    unfold asgT at e
    unfold Tg.slots at h
    cases d <;> simp only [seqD] at e <;> try cases e
    · obtain ⟨a, vs, rfl, ha, rv⟩ := r
      exact .inl ⟨a, vs, rfl, .of (S.sub _ _ ha), by rw [← rv.length]; exact asgL_len e, F, ρ, _, ρ', S, rv, e, h⟩
    · obtain ⟨a, vs, rfl, ha, rv⟩ := r
      exact .inr ⟨a, vs, rfl, .of (S.sub _ _ ha), by rw [← rv.length]; exact asgL_len e, F, ρ, _, ρ', S, rv, e, h⟩
    · obtain ⟨a, vs, rfl, ha, rv⟩ := r
      exact .inl ⟨a, vs, rfl, same_sqT S.sub ha, by rw [← rv.length]; exact asgL_len e, F, ρ, _, ρ', S, rv, e, h⟩
def sAsg (t : Tg) (f : Den D) : Ds := fun ρ => sB (f ρ) fun d ρ1 => match asgT t d ρ1 with
  | some ρ2 => .nx ρ2
  | none => .stuck
theorem Ent.setOn {K : PySem.W.Frag} {Z : Zt} {σ σ' : St} {ρ ρ' : En} {H F : Hp} {S : List Nat} (e : Ent K Z σ ρ H F) (s : SetOn S σ σ') (sat : Sat K σ' H F ρ') (o : ∀ a, OwnA σ' ρ' a → OwnA σ ρ a) (hp : Z.pa.isSome = true → 0 ∉ S) : Ent K Z σ' ρ' H F :=
  ⟨e.same, e.mono, e.keep, fun a z => e.own a (o a z), fun a q => (s.2 0 (hp (by rw [q]; rfl))).trans (e.prot a q), e.there, sat⟩
theorem ds_asg {tg e : Expr} {t : Tg} {fa : Den D} (he : PE X e (TD X E fa)) (hg : PG X tg (gD X.K t)) (hp0 : pr = true → 0 ∉ t.slots := by decide) (hs : swapsWithSole [tg] e pos.line X.env = pure false := by rfl) (hw : swappedStores [tg] e X.env = pure none := by rfl)
    (h1 : (assignEach [tg] X.env).map (·.2) = [assign tg X.env] := by rfl) : PS X (.Assign [tg] e pos) (TSt X E pr (sAsg t fa)) :=
  (ps_asg he hg hs hw h1).imp fun Dn σ H ⟨Z, F, ρ, hp, en, h⟩ => ⟨F, ρ, en.sat, (sB_good en h).mono fun d ρ1 H1 F1 S h1 v rv => by
    obtain ⟨en1, h1⟩ := h1
    split at h1
    · rename_i ρ2 e2
      exact ⟨F1, ρ1, d, ρ2, en1.sat, rv, e2, fun σ' s S' o => h1 σ' H1 F1 (en1.setOn s S' o fun q => hp0 (hp ▸ q))⟩
    · exact h1.elim⟩
end
end DL

namespace DL
open PySem PySem.Spec PyProof.Rows L2

/-! ### what is walked -/
structure IterOk (K : PySem.W.Frag) (J : It) (items : List D) (F1 : Hp) : Prop where
  go : ∀ i H F, i < items.length → Same F1 F → Same F H → J.go i H
  stop : ∀ H F, Same F1 F → Same F H → J.stop items.length H
  yld : ∀ i H F x H', i < items.length → Same F1 F → Same F H → J.yld i H x H' → ∃ F' d, items[i]? = some d ∧ Rep K F' d x ∧ Same H H' ∧ Same F F' ∧ Same F' H' ∧ ∀ b o, H b = some o → F' b = F b
def tIt (K : PySem.W.Frag) (mg : MG) (E : XK) (f : Den (List D)) : TI := fun σ H R => ∃ F ρ, Sat K σ H F ρ ∧ good K mg E σ ρ H F (f ρ) fun items _ H1 F1 => ∀ J, IterOk K J items F1 → items.length ≤ sizeLine → R J H1
abbrev TIt (X : Cx) (E : XK) (f : Den (List D)) : TI := tIt X.K X.mg E f
theorem _root_.L2.PI.imp {X : Cx} {tg iter : Expr} {t t' : TI} (h : PI X tg iter t) (i : ∀ σ H R, t' σ H R → t σ H R) : PI X tg iter t' := ⟨fun pins s σ H R I hw => h.run pins s σ H R I (i σ H R hw)⟩
def iSeq (K : PySem.W.Frag) (tl : TE) : TI := fun σ H R => tl σ H fun x H1 => ∃ a, x = .ref a ∧ ((∃ xs, SqL K H1 a xs ∧ (xs.length ≤ sizeLine → R (Itl K a) H1)) ∨ (∃ xs, SqT K H1 a xs ∧ (xs.length ≤ sizeLine → R (Itt K a) H1)))
theorem pi_seq {X : Cx} {tg l : Expr} {tl : TE} (hl : PE X l tl) : PI X tg l (iSeq X.K tl) := by
  refine ⟨fun pins s σ H R I h => ?_⟩
  refine thn (hl.run pins s σ H _ I h) fun v s1 ⟨x, H1, I1, r1, q1⟩ => ?_
  obtain ⟨a, e, q⟩ := q1
  subst e
  cases r1
  rcases q with ⟨xs, hq, q⟩ | ⟨xs, hq, q⟩
  · obtain ⟨its, rv, p, hz⟩ := I1.list hq
    refine wpAny_pyIter_list p.isList ?_
    refine ⟨s1.heap.objs.size, [s1.heap.objs.size], _, _, H1, rfl, I1.kept (t' := s1.toks) fun b o e => Heap.get?_push_of_some _ e, turn_list a _, ⟨_, Heap.get?_push_size _ rfl, rfl, rfl⟩, fun b hb => ?_, q hz⟩
    have e : b = s1.heap.objs.size := by simpa using hb
    subst e
    exact I1.fpOk (Nat.le_refl _) (I1.hok.fresh (Nat.le_refl _))
  · obtain ⟨its, rv, p, hz⟩ := I1.tuple hq
    refine wpAny_pyIter_tuple (show s1.heap.IsTuple a its.toArray from p) ?_
    refine ⟨s1.heap.objs.size, [s1.heap.objs.size], _, _, H1, rfl, I1.kept (t' := s1.toks) fun b o e => Heap.get?_push_of_some _ e, turn_tuple a _, ⟨_, Heap.get?_push_size _ rfl, rfl, rfl⟩, fun b hb => ?_, q hz⟩
    have e : b = s1.heap.objs.size := by simpa using hb
    subst e
    exact I1.fpOk (Nat.le_refl _) (I1.hok.fresh (Nat.le_refl _))
section
variable {K : PySem.W.Frag} {F1 : Hp}
theorem iter_walk {J : It} {n : Nat} {G : Hp → Prop} {vs : List V} {items : List D} (w : Walk J n G (YAt vs)) (hn : n = items.length) (hg : ∀ H F, Same F1 F → Same F H → G H) (r : RepL K F1 items vs) : IterOk K J items F1 := by
  subst hn
  refine ⟨fun i H F hi a b => w.goes i H hi (hg H F a b), fun H F a b => w.stops H (hg H F a b), fun i H F x H' hi a b y => ?_⟩
  obtain ⟨rfl, e⟩ := w.yields i H x H' hi (hg H F a b) y
  obtain ⟨d, e1, rd⟩ := r.get' e
  exact ⟨F, d, e1, rd.mono a, fun _ _ q => q, fun _ _ q => q, b, fun _ _ _ => rfl⟩
theorem iter_list {a : Addr} {vs : List V} {items : List D} (h : F1 a = some (.lst vs)) (r : RepL K F1 items vs) : IterOk K (Itl K a) items F1 :=
  iter_walk (walk_list (xs := vs)) r.length.symm (fun H F s t => .of (t _ _ (s _ _ h))) r
theorem iter_tup {a : Addr} {vs : List V} {items : List D} (h : SqT K F1 a vs) (r : RepL K F1 items vs) : IterOk K (Itt K a) items F1 :=
  iter_walk (walk_tup (xs := vs)) r.length.symm (fun H F s t => same_sqT (s.trans t) h) r
theorem iter_scr {a : Addr} {ns : List Int} (h : SqL K F1 a (ns.map V.int)) : IterOk K (Itl K a) (ns.map .int) F1 :=
  iter_walk (walk_list (xs := ns.map V.int)) (by rw [List.length_map, List.length_map]) (fun H F s t => same_sqL (s.trans t) h) (RepL.ints ns)
theorem iter_range {lo : Int} {n : Nat} : IterOk K (Itr lo n) ((List.range n).map fun i => .int (lo + (i : Nat))) F1 := by
  refine ⟨fun i H F hi a b => ?_, fun H F a b => ?_, fun i H F x H' hi a b y => ?_⟩
  · rw [List.length_map, List.length_range] at hi
    exact hi
  · rw [List.length_map, List.length_range]
    exact Nat.le_refl n
  · obtain ⟨rfl, rfl⟩ := y
    rw [List.length_map, List.length_range] at hi
    exact ⟨F, .int (lo + i), by simp [hi], rfl, fun _ _ q => q, fun _ _ q => q, b, fun _ _ _ => rfl⟩
end
def itemsD : D → Option (List D)
  | .lst l => some l
  | .tup l => some l
  | .kt l => some l
  | .scr ns => some (ns.map .int)
  | _ => none
def dItems (f : Den D) : Den (List D) := fun ρ => (f ρ).bind fun x ρ1 => Res.of (itemsD x) ρ1
section
variable {X : Cx} {E : XK} {pr : Bool} {tg e a b c : Expr} {es : List Expr} {pos : Pos} {fa fb fc : Den D}
theorem di_val (h : PE X e (TD X E fa)) : PI X tg e (TIt X E (dItems fa)) := (pi_seq h).imp fun σ H R ⟨F, ρ, S, h⟩ => ⟨F, ρ, S, h.bind.mono fun x ρ1 H1 F1 S1 h1 v rv => by
  obtain ⟨l, e, k⟩ := h1.of
  have k := k _ _ (.refl S1.sat)
  have S := S1.sat
  cases x <;> simp only [itemsD] at e <;> try cases e
  · obtain ⟨p, vs, rfl, hp, r⟩ := rv
    exact ⟨p, rfl, .inr ⟨vs, .of (S.sub _ _ hp), fun hz => k _ (iter_tup (.of hp) r) (by rw [r.length]; exact hz)⟩⟩
  · obtain ⟨p, vs, rfl, hp, r⟩ := rv
    exact ⟨p, rfl, .inl ⟨vs, .of (S.sub _ _ hp), fun hz => k _ (iter_list hp r) (by rw [r.length]; exact hz)⟩⟩
  · obtain ⟨p, rfl, hp⟩ := rv
    exact ⟨p, rfl, .inl ⟨_, same_sqL S.sub hp, fun hz => k _ (iter_scr hp) (by rw [List.length_map] at *; exact hz)⟩⟩
  · obtain ⟨p, vs, rfl, hp, r⟩ := rv
    exact ⟨p, rfl, .inr ⟨vs, same_sqT S.sub hp, fun hz => k _ (iter_tup hp r) (by rw [r.length]; exact hz)⟩⟩⟩
/-- range(n), range(i, j) -/
def rgD (lo : Int) (n : Nat) : List D := (List.range n).map fun i => .int (lo + (i : Nat))
def rgOk (j : Int) : Bool := decide (-(2 ^ 62) ≤ j ∧ j < 2 ^ 62)
def gRange1 : List D → Option (List D)
  | [.int j] => if (rgOk j && sz j.toNat) = true then some (rgD 0 j.toNat) else none
  | _ => none
def gRange2 : List D → Option (List D)
  | [.int i, .int j] => if (rgOk i && rgOk j && sz (j - i).toNat) = true then some (rgD i (j - i).toNat) else none
  | _ => none
def dRange (g : List D → Option (List D)) (fs : Den (List D)) : Den (List D) := fun ρ => (fs ρ).bind fun xs ρ1 => Res.of (g xs) ρ1
theorem rgD_length (lo : Int) (n : Nat) : (rgD lo n).length = n := by
  unfold rgD
  rw [List.length_map, List.length_range]
theorem di_range1 {fs : Den (List D)} {p : Pos} (hg : Gl X "range") (hm : X.mg "range" = none) (ha : PA X [a] (TA X E fs)) (hs : starEach [a] X.env = [(false, eval a X.env)] := by rfl) : PI X tg (.Call (.Name "range" p) [a] [] pos) (TIt X E (dRange gRange1 fs)) :=
  (pi_range1 hg hm ha hs).imp fun σ H R ⟨F, ρ, S, h⟩ => ⟨F, ρ, S, h.bind.mono fun xs ρ1 H1 F1 S1 h1 vs rv => by
    obtain ⟨l, e, k⟩ := h1.of
    have k := k _ _ (.refl S1.sat)
    unfold gRange1 at e
    split at e
    · rename_i j
      split at e
      · rename_i hb
        cases e
        rw [Bool.and_eq_true] at hb
        have hb1 := of_decide_eq_true hb.1
        obtain ⟨v, rfl, hv⟩ := rv.one
        cases (show v = V.int j from hv)
        exact ⟨j, rfl, hb1.1, hb1.2, k _ iter_range (by rw [rgD_length]; exact sz_line hb.2)⟩
      · cases e
    · cases e⟩
theorem di_range2 {fs : Den (List D)} {p : Pos} (hg : Gl X "range") (hm : X.mg "range" = none) (ha : PA X [a, b] (TA X E fs)) (hs : starEach [a, b] X.env = [(false, eval a X.env), (false, eval b X.env)] := by rfl) (hs2 : starEach [b] X.env = [(false, eval b X.env)] := by rfl) :
    PI X tg (.Call (.Name "range" p) [a, b] [] pos) (TIt X E (dRange gRange2 fs)) :=
  (pi_range2 hg hm ha hs hs2).imp fun σ H R ⟨F, ρ, S, h⟩ => ⟨F, ρ, S, h.bind.mono fun xs ρ1 H1 F1 S1 h1 vs rv => by
    obtain ⟨l, e, k⟩ := h1.of
    have k := k _ _ (.refl S1.sat)
    unfold gRange2 at e
    split at e
    · rename_i i j
      split at e
      · rename_i hb
        cases e
        rw [Bool.and_eq_true, Bool.and_eq_true] at hb
        have hb1 := of_decide_eq_true hb.1.1
        have hb2 := of_decide_eq_true hb.1.2
        obtain ⟨v, w, rfl, hv, hw⟩ := rv.two
        cases (show v = V.int i from hv)
        cases (show w = V.int j from hw)
        exact ⟨i, j, rfl, ⟨hb1.1, hb1.2, hb2.1, hb2.2⟩, k _ iter_range (by rw [rgD_length]; exact sz_line hb.2)⟩
      · cases e
    · cases e⟩

/-! ### for -/
def loopD (t : Tg) (kl : List Nat) (body : Ds) : List D → En → SR
  | [], ρ => .nx ρ
  | d :: r, ρ => match asgT t d ρ with
    | none => .stuck
    | some ρ1 => match body ρ1 with
      | .nx ρ2 => loopD t kl body r (killE kl ρ2)
      | .ct ρ2 => loopD t kl body r (killE kl ρ2)
      | .bk ρ2 => .nx ρ2
      | x => x
def sFor (t : Tg) (fi : Den (List D)) (kl : List Nat) (body : Ds) : Ds := fun ρ => sB (fi ρ) fun items ρ1 => loopD t kl body items (killE kl ρ1)
theorem ds_for {iter : Expr} {body : List Stmt} {t : Tg} {fi : Den (List D)} {f : Ds} (kl : List Nat) (hp : PassesOwn (model X.prog X.w) X.A X.env X.xe) (hc : X.calm = true) (hi : PI X tg iter (TIt X E fi)) (hg : PG X tg (gD X.K t)) (hb : PSs X body (TSt X E pr f))
    (hp0 : pr = true → 0 ∉ t.slots := by decide) (hs : ∀ x, foldedSetIterable iter X.env x = pure x := by intro _; rfl) : PS X (.For tg iter body [] pos) (TSt X E pr (sFor t fi kl f)) := by
  refine (ps_for hp hc hi hg hb hs).imp fun Dn σ H ⟨Z, F, ρ, hpr, en, h⟩ => ⟨F, ρ, en.sat, (sB_good en h).mono fun items ρ1 H1 F1 S h1 J it hz => ?_⟩
  obtain ⟨en1, h1⟩ := h1
  have keep1 : ∀ b o, Z.H0 b = some o → Z.pa ≠ some b → F1 b = Z.F0 b := en1.keep
  refine ⟨fun i m σ H => m = items.length - i ∧ i ≤ items.length ∧ ∃ F ρ, Ent X.K { Z with F0 := F1 } σ ρ H F ∧ post X.K X.mg E Z Dn (loopD t kl f (items.drop i) ρ), ⟨_, rfl, Nat.zero_le _, F1, killE kl ρ1, (en1.kill kl).from_ keep1 fun _ _ q => q, h1⟩, ?_⟩
  rintro i m σ2 H2 ⟨rfl, hi2, F2, ρ2, en2, h2⟩
  by_cases hlt : i < items.length
  · refine .inr ⟨it.go i H2 F2 hlt en2.mono en2.sat.sub, fun σ' H' => ∃ F ρ, Ent X.K { Z with F0 := F1 } σ' ρ H' F ∧ post X.K X.mg E Z Dn (loopD t kl f (items.drop (i + 1)) ρ), fun σ' H' hN => ⟨items.length - (i + 1), by omega, rfl, hlt, hN⟩, fun x H' hy => ?_⟩
    obtain ⟨F', d, e1, rd, s1, s2, s3, s4⟩ := it.yld i H2 F2 x H' hlt en2.mono en2.sat.sub hy
    have en3 := en2.step (.still en2.sat s1 s2 s3 s4)
    have ed : items.drop i = d :: items.drop (i + 1) := List.drop_eq_getElem?_toList_append.trans (by rw [e1]; rfl)
    rw [ed] at h2
    unfold loopD at h2
    cases ea : asgT t d ρ2 with
    | none => rw [ea] at h2; exact h2.elim
    | some ρ3 =>
      rw [ea] at h2
      refine ⟨F', ρ2, d, ρ3, en3.sat, rd, ea, fun σ' so S' ow => ⟨{ Z with F0 := F1 }, F', ρ3, hpr, en3.setOn so S' ow fun q => hp0 (hpr ▸ q), ?_⟩⟩
      dsimp only at h2
      cases eb : f ρ3 with
      | nx ρ4 =>
        rw [eb] at h2
        exact fun σ H F en => ⟨F, killE kl ρ4, en.kill kl, h2⟩
      | ct ρ4 =>
        rw [eb] at h2
        exact fun σ H F en => ⟨F, killE kl ρ4, en.kill kl, h2⟩
      | bk ρ4 =>
        rw [eb] at h2
        exact fun σ H F en => h2 σ H F (en.back keep1 en1.mono)
      | rt d ρ4 =>
        rw [eb] at h2
        exact fun v σ H F en => h2 v σ H F (en.back keep1 en1.mono)
      | rto d ρ4 =>
        rw [eb] at h2
        exact fun a ws σ H F en => h2 a ws σ H F (en.back keep1 en1.mono)
      | er x ρ4 =>
        rw [eb] at h2
        exact fun c dd σ H F en => h2 c dd σ H F (en.back keep1 en1.mono)
      | stuck => rw [eb] at h2; exact h2.elim
  · have ei : i = items.length := by omega
    subst ei
    rw [List.drop_length] at h2
    exact .inl ⟨it.stop H2 F2 en2.mono en2.sat.sub, h2 σ2 H2 F2 (en2.back keep1 en1.mono)⟩
end
end DL

namespace DL
open PySem PySem.Spec PyProof.Rows L2

/-! ### list comprehensions -/
def noErr {α : Type} : Res α → Res α
  | .ok a ρ => .ok a ρ
  | _ => .stuck
def compD (t : Tg) (vs : List Nat) (tt : Den Bool) (te : Den D) : List D → Den (List D)
  | [], ρ => .ok [] ρ
  | d :: r, ρ => match asgT t d ρ with
    | none => .stuck
    | some ρ1 => (tt ρ1).bind fun b ρ2 =>
      if b = true then (te ρ2).bind fun y ρ3 => (compD t vs tt te r (killE vs ρ3)).bind fun ys ρ4 => .ok (y :: ys) ρ4
      else compD t vs tt te r (killE vs ρ2)
/-- the slots at vs as they were -/
def backE (ρ0 : En) : List Nat → En → En
  | [], ρ => ρ
  | i :: r, ρ => match ρ0[i]? with
    | some s => (backE ρ0 r ρ).set i s
    | none => backE ρ0 r ρ
def noOwn (vs : List Nat) (ρ : En) : Bool := vs.all fun i => match ρ[i]? with
  | some s => !ownS s
  | none => true
def dComp (t : Tg) (vs : List Nat) (fi : Den (List D)) (tt : Den Bool) (te : Den D) : Den (List D) := fun ρ => (fi ρ).bind fun items ρ1 =>
  if noOwn vs ρ1 = true then (noErr (compD t vs tt te items (killE vs ρ1))).bind fun ys ρ2 => .ok ys (backE ρ1 vs ρ2) else .stuck
theorem killE_out {vs : List Nat} {i : Nat} {ρ : En} (h : i ∉ vs) : (killE vs ρ)[i]? = ρ[i]? := by
  induction vs with
  | nil => rfl
  | cons j r ih =>
    rw [List.mem_cons, not_or] at h
    unfold killE
    rw [List.getElem?_set_ne (fun e => h.1 e.symm), ih h.2]
theorem killE_len (vs : List Nat) (ρ : En) : (killE vs ρ).length = ρ.length := by
  induction vs with
  | nil => rfl
  | cons j r ih =>
    unfold killE
    rw [List.length_set, ih]
theorem killE_in {vs : List Nat} {i : Nat} {ρ : En} {s : Sl} (h : i ∈ vs) (e : (killE vs ρ)[i]? = some s) : s = .un := by
  induction vs with
  | nil => cases h
  | cons j r ih =>
    unfold killE at e
    by_cases hj : j = i
    · subst hj
      have hl : j < (killE r ρ).length := by
        have := (List.getElem?_eq_some_iff.mp e).1
        rwa [List.length_set] at this
      rw [List.getElem?_set_self hl] at e
      exact (Option.some.inj e).symm
    · rw [List.getElem?_set_ne hj] at e
      exact ih ((List.mem_cons.mp h).resolve_left fun z => hj z.symm) e
theorem backE_len (ρ0 : En) (vs : List Nat) (ρ : En) : (backE ρ0 vs ρ).length = ρ.length := by
  induction vs with
  | nil => rfl
  | cons j r ih =>
    unfold backE
    split
    · rw [List.length_set, ih]
    · exact ih
theorem backE_out {ρ0 : En} {vs : List Nat} {i : Nat} {ρ : En} (h : i ∉ vs) : (backE ρ0 vs ρ)[i]? = ρ[i]? := by
  induction vs with
  | nil => rfl
  | cons j r ih =>
    rw [List.mem_cons, not_or] at h
    unfold backE
    split
    · rw [List.getElem?_set_ne (fun e => h.1 e.symm), ih h.2]
    · exact ih h.2
theorem backE_in {ρ0 : En} {vs : List Nat} {i : Nat} {ρ : En} (hl : ρ.length = ρ0.length) (h : i ∈ vs) : (backE ρ0 vs ρ)[i]? = ρ0[i]? := by
  induction vs with
  | nil => cases h
  | cons j r ih =>
    unfold backE
    by_cases hj : j = i
    · subst hj
      split
      · rename_i s e
        have : j < ρ0.length := (List.getElem?_eq_some_iff.mp e).1
        rw [List.getElem?_set_self (by rw [backE_len, hl]; exact this), e]
      · rename_i e
        by_cases hr : j ∈ r
        · exact ih hr
        · rw [backE_out hr, e]
          have := List.getElem?_eq_none_iff.mp e
          exact List.getElem?_eq_none_iff.mpr (by omega)
    · have hr : i ∈ r := (List.mem_cons.mp h).resolve_left fun z => hj z.symm
      split
      · rw [List.getElem?_set_ne hj, ih hr]
      · exact ih hr
theorem wipe_in {σ : St} {vs : List Nat} {i : Nat} (h : i ∈ vs) : (wipe σ vs)[i]? = if i < σ.length then some none else none := by
  induction vs with
  | nil => cases h
  | cons j r ih =>
    unfold wipe
    by_cases hj : j = i
    · subst hj
      by_cases hl : j < σ.length
      · rw [if_pos hl, List.getElem?_set_self (by rw [wipe_length]; exact hl)]
      · rw [if_neg hl]
        exact List.getElem?_eq_none_iff.mpr (by rw [List.length_set, wipe_length]; omega)
    · rw [List.getElem?_set_ne hj]
      exact ih ((List.mem_cons.mp h).resolve_left fun z => hj z.symm)
theorem wipe_setOn {σ σ2 : St} {vs S : List Nat} (h : SetOn S (wipe σ vs) σ2) (hs : ∀ i ∈ S, i ∈ vs) : wipe σ2 vs = wipe σ vs := by
  refine List.ext_getElem? fun i => ?_
  by_cases hi : i ∈ vs
  · rw [wipe_in hi, wipe_in hi, h.1, wipe_length]
  · rw [wipe_out hi, h.2 i fun z => hi (hs i z)]
mutual
theorem asgT_out : ∀ {t : Tg} {d : D} {ρ ρ' : En}, asgT t d ρ = some ρ' → ∀ i, i ∉ t.slots → ρ'[i]? = ρ[i]?
  | .n j, d, ρ, ρ', h, i, hi => by
    unfold asgT at h
    cases h
    have : j ≠ i := fun z => hi (by subst z; unfold Tg.slots; exact List.mem_singleton_self _)
    rw [List.getElem?_set_ne this]
  | .t ts, d, ρ, ρ', h, i, hi => by
    unfold asgT at h
    unfold Tg.slots at hi
    split at h
    · exact asgL_out h i hi
    · cases h
theorem asgL_out : ∀ {ts : List Tg} {l : List D} {ρ ρ' : En}, asgL ts l ρ = some ρ' → ∀ i, i ∉ slotsL ts → ρ'[i]? = ρ[i]?
  | [], [], ρ, ρ', h, i, hi => by
    unfold asgL at h
    cases h
    rfl
  | [], _ :: _, _, _, h, _, _ => by unfold asgL at h; cases h
  | _ :: _, [], _, _, h, _, _ => by unfold asgL at h; cases h
  | t :: ts, d :: ds, ρ, ρ', h, i, hi => by
    unfold asgL at h
    unfold slotsL at hi
    rw [List.mem_append, not_or] at hi
    split at h
    · rename_i ρ1 e1
      rw [asgL_out h i hi.2, asgT_out e1 i hi.1]
    · cases h
end
mutual
theorem asgT_len : ∀ {t : Tg} {d : D} {ρ ρ' : En}, asgT t d ρ = some ρ' → ρ'.length = ρ.length
  | .n j, d, ρ, ρ', h => by
    unfold asgT at h
    cases h
    rw [List.length_set]
  | .t ts, d, ρ, ρ', h => by
    unfold asgT at h
    split at h
    · exact asgL_lenE h
    · cases h
theorem asgL_lenE : ∀ {ts : List Tg} {l : List D} {ρ ρ' : En}, asgL ts l ρ = some ρ' → ρ'.length = ρ.length
  | [], [], ρ, ρ', h => by
    unfold asgL at h
    cases h
    rfl
  | [], _ :: _, _, _, h => by unfold asgL at h; cases h
  | _ :: _, [], _, _, h => by unfold asgL at h; cases h
  | t :: ts, d :: ds, ρ, ρ', h => by
    unfold asgL at h
    split at h
    · rename_i ρ1 e1
      rw [asgL_lenE h, asgT_len e1]
    · cases h
end
section
variable {K : PySem.W.Frag} {mg : MG} {E : XK} {σ σb σ2 : St} {ρ ρ0 ρb ρa ρc ρ1 ρ2 : En} {H F H1 F1 H2 F2 H3 F3 H4 F4 : Hp} {vs S : List Nat}
/-- the block's slots forgotten, the others as they stood -/
theorem Sat.wipe (h : Sat K σ2 H F ρc) (hl : σb.length = σ2.length) (ho : ∀ i, i ∉ vs → σ2[i]? = σb[i]?) : Sat K σb H F (killE vs ρc) := by
  have gj : ∀ j t, (killE vs ρc)[j]? = some t → (j ∈ vs ∧ t = .un ∧ j < ρc.length) ∨ (j ∉ vs ∧ ρc[j]? = some t) := fun j t e => by
    by_cases hj : j ∈ vs
    · exact .inl ⟨hj, killE_in hj e, by have := (List.getElem?_eq_some_iff.mp e).1; rwa [killE_len] at this⟩
    · rw [killE_out hj] at e
      exact .inr ⟨hj, e⟩
  refine ⟨h.sub, by rw [killE_len, hl]; exact h.len, fun j t e => ?_, fun j k a t u e1 e2 o1 o2 q1 q2 => ?_⟩
  · rcases gj j t e with ⟨_, rfl, hj⟩ | ⟨hn, e⟩
    · exact ⟨σb[j]'(by rw [hl, ← h.len]; exact hj), by simp, trivial⟩
    · rw [← ho j hn]
      exact h.sl j t e
  · rcases gj j t e1 with ⟨_, rfl, _⟩ | ⟨n1, e1⟩
    · cases o1
    · rcases gj k u e2 with ⟨_, rfl, _⟩ | ⟨n2, e2⟩
      · cases o2
      · exact h.dis j k a t u e1 e2 o1 o2 (by rw [ho j n1]; exact q1) (by rw [ho k n2]; exact q2)
theorem OwnA.wipe (ho : ∀ i, i ∉ vs → σ2[i]? = σb[i]?) {a : Addr} (h : OwnA σb (killE vs ρc) a) : OwnA σ2 ρc a := by
  obtain ⟨j, t, e, o, q⟩ := h
  by_cases hj : j ∈ vs
  · rw [killE_in hj e] at o
    cases o
  · rw [killE_out hj] at e
    exact ⟨j, t, e, o, by rw [ho j hj]; exact q⟩
/-- a step of the block's body, seen from the block -/
theorem Step.wiped (S1 : Step K σ2 ρa H F ρc H1 F1) (hl : σb.length = σ2.length) (ho : ∀ i, i ∉ vs → σ2[i]? = σb[i]?) (oa : ∀ a, OwnA σ2 ρa a → OwnA σb ρb a) (ea : ∀ i, i ∉ vs → ρa[i]? = ρb[i]?) : Step K σb ρb H F (killE vs ρc) H1 F1 := by
  refine ⟨fun b o e n => S1.same b o e fun z => n (oa b z), S1.mono, fun b o e n => S1.keep b o e fun z => n (oa b z), fun i s e o => ?_, S1.there, S1.sat.wipe hl ho⟩
  by_cases hi : i ∈ vs
  · rw [killE_in hi e] at o
    cases o
  · rw [killE_out hi] at e
    obtain ⟨t, e', o'⟩ := S1.ownle i s e o
    exact ⟨t, by rw [← ea i hi]; exact e', o'⟩
theorem noOwn_at {i : Nat} {s : Sl} (h : noOwn vs ρ = true) (hi : i ∈ vs) (e : ρ[i]? = some s) : ownS s = false := by
  have := List.all_eq_true.mp h i hi
  rw [e] at this
  simpa using this
/-- .. and the whole block, seen from outside -/
theorem Step.block (hn : noOwn vs ρ = true) (S0 : Sat K σ H F ρ) (S1 : Step K (L2.wipe σ vs) (killE vs ρ) H F ρ2 H1 F1) : Step K σ ρ H F (backE ρ vs ρ2) H1 F1 := by
  have hl2 : ρ2.length = ρ.length := by rw [S1.sat.len, wipe_length, S0.len]
  have ho : ∀ i, i ∉ vs → (L2.wipe σ vs)[i]? = σ[i]? := fun i h => wipe_out h
  have oa : ∀ a, OwnA (L2.wipe σ vs) (killE vs ρ) a → OwnA σ ρ a := fun a ⟨j, t, e, o, q⟩ => by
    by_cases hj : j ∈ vs
    · rw [killE_in hj e] at o
      cases o
    · rw [killE_out hj] at e
      exact ⟨j, t, e, o, by rw [← ho j hj]; exact q⟩
  have gj : ∀ j t, (backE ρ vs ρ2)[j]? = some t → (j ∈ vs ∧ ρ[j]? = some t) ∨ (j ∉ vs ∧ ρ2[j]? = some t) := fun j t e => by
    by_cases hj : j ∈ vs
    · rw [backE_in hl2 hj] at e
      exact .inl ⟨hj, e⟩
    · rw [backE_out hj] at e
      exact .inr ⟨hj, e⟩
  refine ⟨fun b o e n => S1.same b o e fun z => n (oa b z), S1.mono, fun b o e n => S1.keep b o e fun z => n (oa b z), fun i s e o => ?_, S1.there, S1.sat.sub, by rw [backE_len, hl2]; exact S0.len, fun j t e => ?_, fun j k a t u e1 e2 o1 o2 q1 q2 => ?_⟩
  · rcases gj i s e with ⟨hi, e⟩ | ⟨hi, e⟩
    · rw [noOwn_at hn hi e] at o
      cases o
    · obtain ⟨t, e', o'⟩ := S1.ownle i s e o
      rw [killE_out hi] at e'
      exact ⟨t, e', o'⟩
  · rcases gj j t e with ⟨hj, e⟩ | ⟨hj, e⟩
    · obtain ⟨x, e1, ok⟩ := S0.sl j t e
      refine ⟨x, e1, ?_⟩
      have := noOwn_at hn hj e
      exact ok.mono S1.mono (fun b u _ z => by rw [this] at z; cases z) fun b u _ z => by rw [this] at z; cases z
    · rw [← ho j hj]
      exact S1.sat.sl j t e
  · rcases gj j t e1 with ⟨hj, e1⟩ | ⟨hj, e1⟩
    · rw [noOwn_at hn hj e1] at o1
      cases o1
    · rcases gj k u e2 with ⟨hk, e2⟩ | ⟨hk, e2⟩
      · rw [noOwn_at hn hk e2] at o2
        cases o2
      · exact S1.sat.dis j k a t u e1 e2 o1 o2 (by rw [ho j hj]; exact q1) (by rw [ho k hk]; exact q2)
theorem Res.bind_ok {α β : Type} {r : Res α} {g : α → En → Res β} {b : β} {ρ' : En} (h : r.bind g = .ok b ρ') : ∃ a ρ1, r = .ok a ρ1 ∧ g a ρ1 = .ok b ρ' := by
  cases r with
  | ok a ρ1 => exact ⟨a, ρ1, rfl, h⟩
  | err x ρ1 => cases h
  | stuck => cases h
/-- no exception -/
abbrev EN : XK := fun _ _ _ => False
theorem lc_of {t : Tg} {fi : Den (List D)} {tt : Den Bool} {te : Den D} {Q : VK} (ht : t.slots.all (fun i => decide (i ∈ vs)) = true) (S0 : Sat K σ H F ρ)
    (h : good K mg E σ ρ H F (dComp t vs fi tt te ρ) fun l ρ' H' F' => ∀ D ws, H' D = some (.lst ws) → F' D = none → ¬ OwnA σ ρ' D → H D = none → RepL K F' l ws → Q (.ref D) H') :
    tLc (tIt K mg E fi) (gD K t) (tDB K mg EN tt) (tD K mg EN te) vs σ H Q := by
  have hts : ∀ i ∈ t.slots, i ∈ vs := fun i hi => of_decide_eq_true (List.all_eq_true.mp ht i hi)
  refine ⟨F, ρ, S0, h.bind.mono fun items ρ1 H1 F1 S1 h1 J it hz D hD => ?_⟩
  by_cases hn : noOwn vs ρ1 = true
  rotate_left
  · rw [if_neg hn] at h1
    exact h1.elim
  rw [if_pos hn] at h1
  cases ec : compD t vs tt te items (killE vs ρ1) with
  | err x ρ2 => rw [ec] at h1; exact h1.elim
  | stuck => rw [ec] at h1; exact h1.elim
  | ok l ρ2 =>
    rw [ec] at h1
    have hk : ∀ H' F', Step K σ ρ1 H1 F1 (backE ρ1 vs ρ2) H' F' → ∀ D ws, H' D = some (.lst ws) → F' D = none → ¬ OwnA σ (backE ρ1 vs ρ2) D → H D = none → RepL K F' l ws → Q (.ref D) H' := h1
    have hDF : F1 D = none := S1.sat.sub.free hD
    have nD : ¬ OwnA (L2.wipe σ vs) (killE vs ρ1) D := fun ⟨j, u, e, o, q⟩ => by
      by_cases hj : j ∈ vs
      · rw [killE_in hj e] at o
        cases o
      · rw [killE_out hj] at e
        rw [wipe_out hj] at q
        obtain ⟨⟨o', e'⟩, _⟩ := S1.sat.own_some ⟨j, u, e, o, q⟩
        rw [hD] at e'
        cases e'
    have satB : Sat K (L2.wipe σ vs) H1 F1 (killE vs ρ1) := S1.sat.wipe (by rw [wipe_length]) fun i hi => (wipe_out hi).symm
    refine ⟨fun i m Hc => m = items.length - i ∧ i ≤ items.length ∧ ∃ Fc ρb acc wacc ys, Step K (L2.wipe σ vs) (killE vs ρ1) H1 F1 ρb Hc Fc ∧ Hc D = some (.lst wacc) ∧ Fc D = none ∧ RepL K Fc acc wacc ∧ acc.length ≤ i ∧ compD t vs tt te (items.drop i) ρb = .ok ys ρ2 ∧ acc ++ ys = l,
      ⟨items.length, by simp, Nat.zero_le _, F1, killE vs ρ1, [], [], l, .allocOwn satB hD, upd_same, hDF, .nil, Nat.le_refl _, ec, rfl⟩, ?_⟩
    rintro i m Hc ⟨rfl, hi, Fc, ρb, acc, wacc, ys, Sc, hDc, hFc, racc, hacc, ecy, eys⟩
    by_cases hlt : i < items.length
    · refine .inr ⟨it.go i Hc Fc hlt Sc.mono Sc.sat.sub, fun H' => ∃ Fc ρb acc wacc ys, Step K (L2.wipe σ vs) (killE vs ρ1) H1 F1 ρb H' Fc ∧ H' D = some (.lst wacc) ∧ Fc D = none ∧ RepL K Fc acc wacc ∧ acc.length ≤ i + 1 ∧ compD t vs tt te (items.drop (i + 1)) ρb = .ok ys ρ2 ∧ acc ++ ys = l,
        fun H' hN => ⟨items.length - (i + 1), by omega, rfl, hlt, hN⟩, fun x H' hy => ?_⟩
      obtain ⟨F', d, e1, rd, s1, s2, s3, s4⟩ := it.yld i Hc Fc x H' hlt Sc.mono Sc.sat.sub hy
      have Sy : Step K (L2.wipe σ vs) ρb Hc Fc ρb H' F' := .still Sc.sat s1 s2 s3 s4
      have ed : items.drop i = d :: items.drop (i + 1) := List.drop_eq_getElem?_toList_append.trans (by rw [e1]; rfl)
      rw [ed] at ecy
      unfold compD at ecy
      cases ea : asgT t d ρb with
      | none => rw [ea] at ecy; cases ecy
      | some ρa =>
        rw [ea] at ecy
        dsimp only at ecy
        refine ⟨F', ρb, d, ρa, Sy.sat, rd, ea, fun σ2 so Sa oa => ?_⟩
        have hoa : ∀ i, i ∉ vs → σ2[i]? = (L2.wipe σ vs)[i]? := fun i h => so.2 i fun z => h (hts i z)
        have hea : ∀ i, i ∉ vs → ρa[i]? = ρb[i]? := fun i h => asgT_out ea i fun z => h (hts i z)
        have hDy : H' D = some (.lst wacc) := s1 _ _ hDc
        have hFy : F' D = none := (s4 _ _ hDc).trans hFc
        have nDb : ¬ OwnA (L2.wipe σ vs) ρb D := fun z => nD (Sc.ownA z)
        have nDa : ¬ OwnA σ2 ρa D := fun z => nDb (oa D z)
        refine ⟨wipe_setOn so hts, ?_⟩
        obtain ⟨b, ρt, etb, ecy⟩ := Res.bind_ok ecy
        refine ⟨F', ρa, Sa, ?_⟩
        rw [etb]
        intro H3 F3 S3
        have hD3 : H3 D = some (.lst wacc) := S3.same _ _ hDy nDa
        have hF3 : F3 D = none := (S3.keep _ _ hDy nDa).trans hFy
        by_cases hb : b = true
        · rw [if_pos hb] at ecy
          dsimp only
          rw [if_pos hb]
          obtain ⟨y, ρe, ete, ecy⟩ := Res.bind_ok ecy
          obtain ⟨ys', ρr, eco, ecy⟩ := Res.bind_ok ecy
          cases ecy
          refine ⟨F3, ρt, S3.sat, ?_⟩
          rw [ete]
          intro H4 F4 S4 vy ry
          have nDt : ¬ OwnA σ2 ρt D := fun z => nDa (S3.ownA z)
          have hD4 : H4 D = some (.lst wacc) := S4.same _ _ hD3 nDt
          have hF4 : F4 D = none := (S4.keep _ _ hD3 nDt).trans hF3
          have Sb := ((Sc.trans Sy).trans ((S3.trans S4).wiped (vs := vs) (by rw [so.1]) hoa oa hea))
          refine ⟨wacc, hD4, ?_, F4, killE vs ρe, acc ++ [y], wacc ++ [vy], ys', ?_, upd_same, hF4, ((racc.mono (s2.trans (S3.mono.trans S4.mono))).append (.cons ry .nil)), ?_, eco, ?_⟩
          · rw [← racc.length]
            omega
          · have nDe : ∀ b u, H1 b = some u → b ≠ D := fun b u e z => by
              subst z
              rw [hD] at e
              cases e
            refine ⟨fun b u e n => by rw [upd_ne (nDe b u e)]; exact Sb.same b u e n, Sb.mono, Sb.keep, Sb.ownle, fun b u e => ?_, ?_⟩
            · obtain ⟨o', e'⟩ := Sb.there b u e
              exact ⟨o', by rw [upd_ne (nDe b u e)]; exact e'⟩
            · have T := Sb.sat
              refine ⟨fun b u e => ?_, T.len, fun j u e => ?_, T.dis⟩
              · have : b ≠ D := fun z => by
                  subst z
                  rw [hF4] at e
                  cases e
                rw [upd_ne this]
                exact T.sub b u e
              · obtain ⟨o, e1, ok⟩ := T.sl j u e
                refine ⟨o, e1, ok.mono (fun _ _ q => q) (fun b w eo os q => ?_) fun _ _ _ _ _ q => q⟩
                have : b ≠ D := fun z => by
                  subst z
                  subst eo
                  exact nD (Sb.ownA ⟨j, u, e, os, e1⟩)
                rw [upd_ne this]
                exact q
          · rw [List.length_append]
            show acc.length + 1 ≤ i + 1
            omega
          · rw [← eys, List.append_assoc]
            rfl
        · rw [if_neg hb] at ecy
          dsimp only
          rw [if_neg hb]
          refine ⟨F3, killE vs ρt, acc, wacc, ys, ((Sc.trans Sy).trans (S3.wiped (vs := vs) (by rw [so.1]) hoa oa hea)), hD3, hF3, racc.mono (s2.trans S3.mono), by omega, ecy, eys⟩
    · have ei : i = items.length := by omega
      subst ei
      rw [List.drop_length] at ecy
      unfold compD at ecy
      cases ecy
      rw [List.append_nil] at eys
      subst eys
      have SB := Sc.block hn S1.sat
      refine .inl ⟨it.stop Hc Fc Sc.mono Sc.sat.sub, hk Hc Fc SB D wacc hDc hFc (fun z => ?_) ?_ racc⟩
      · obtain ⟨⟨o, e⟩, _⟩ := S1.sat.own_some (SB.ownA z)
        rw [hD] at e
        cases e
      · cases q : H D with
        | none => rfl
        | some o =>
          obtain ⟨o', e⟩ := S1.there D o q
          rw [hD] at e
          cases e
end
def dLstOf (f : Den (List D)) : Den D := fun ρ => (f ρ).bind fun l ρ1 => .ok (.lst l) ρ1
theorem good.bindOk {K : PySem.W.Frag} {mg : MG} {E : XK} {σ : St} {ρ : En} {H F : Hp} {α β : Type} {r : Res α} {g : α → β} {k : β → En → Hp → Hp → Prop} (h : good K mg E σ ρ H F (r.bind fun a ρ1 => .ok (g a) ρ1) k) :
    good K mg E σ ρ H F r fun a ρ' _ _ => ∀ H' F', Step K σ ρ H F ρ' H' F' → k (g a) ρ' H' F' := by
  cases r with
  | ok a ρ' => exact fun _ _ _ => h
  | err x ρ' => exact h
  | stuck => exact h
/-- what is new and nobody's is frozen -/
theorem Step.freezeNew {K : PySem.W.Frag} {σ : St} {ρ ρ' : En} {H F H' F' : Hp} {p : Addr} {o : HO} (S : Step K σ ρ H F ρ' H' F') (hp : H' p = some o) (hf : F' p = none) (hn : ¬ OwnA σ ρ' p) (h0 : H p = none) : Same F' (upd F' p o) ∧ Step K σ ρ H F ρ' H' (upd F' p o) := by
  obtain ⟨m, S'⟩ := Step.freeze S.sat hp hn
  refine ⟨m, S.same, S.mono.trans m, fun b u e n => ?_, S.ownle, S.there, S'⟩
  have : b ≠ p := fun z => by
    subst z
    rw [h0] at e
    cases e
  rw [upd_ne this]
  exact S.keep b u e n
section
variable {X : Cx} {E : XK} {pr : Bool} {tg iter elt : Expr} {ifs : List Expr} {scope : Scope} {own : List (Str × Nat)} {pos spos : Pos} {t : Tg} {fi : Den (List D)} {tt : Den Bool} {te : Den D}
theorem dts_nil : PTs X [] (TB X E (fun ρ => .ok true ρ)) := ⟨fun pins s σ H Q I ⟨F, ρ, S, h⟩ => pts_nil.run pins s σ H Q I (h _ _ (.refl S))⟩
theorem dts_one {c : Expr} {fc : Den Bool} (h : PT X c (TB X E fc)) : PTs X [c] (TB X E fc) := pts_one h
theorem lc_val {vs : List Nat} {Q : VK} {σ : St} {H : Hp} (ht : t.slots.all (fun i => decide (i ∈ vs)) = true) (h : TD X E (dLstOf (dComp t vs fi tt te)) σ H Q) : tLc (TIt X E fi) (gD X.K t) (TB X EN tt) (TD X EN te) vs σ H Q := by
  obtain ⟨F, ρ, S, h⟩ := h
  refine lc_of ht S (h.bindOk.mono fun l ρ1 H1 F1 S1 h1 D ws hD hF nD h0 r => ?_)
  obtain ⟨m, S'⟩ := S1.freezeNew hD hF nD h0
  exact h1 H1 _ S' _ ⟨D, ws, rfl, upd_same, r.mono m⟩
theorem lc_own {vs : List Nat} {Q : VK} {σ : St} {H : Hp} (ht : t.slots.all (fun i => decide (i ∈ vs)) = true) (h : TSl X E (dOwn (dComp t vs fi tt te)) σ H Q) : tLc (TIt X E fi) (gD X.K t) (TB X EN tt) (TD X EN te) vs σ H Q := by
  obtain ⟨F, ρ, S, h⟩ := h
  refine lc_of ht S (h.bindOk.mono fun l ρ1 H1 F1 S1 h1 D ws hD hF nD h0 r => ?_)
  exact h1 H1 F1 S1 _ ⟨D, ws, rfl, hD, hF, r⟩ fun _ a e => by
    cases e
    exact ⟨nD, h0⟩
section
variable {i : Nat} {y : Str} {py : Pos} (hc : X.calm = true) (hN : X.N.Nodup) (hi : PI X tg iter (TIt X E fi)) (ok : BlkOk X.N X.env.scope scope own)
    (hg : ∀ (s : Shared) (H : Hp) (C : Addr) (cl : List (Str × Addr)) (fp : List Addr), PG (X.blk s H scope (compEnvC scope cl C X.env) fp) tg (gD X.K t)) (ht : ∀ (s : Shared) (H : Hp) (C : Addr) (cl : List (Str × Addr)) (fp : List Addr), PTs (X.blk s H scope (compEnvC scope cl C X.env) fp) ifs (TB X EN tt))
    (he : ∀ (s : Shared) (H : Hp) (C : Addr) (cl : List (Str × Addr)) (fp : List Addr), PE (X.blk s H scope (compEnvC scope cl C X.env) fp) elt (TD X EN te))
include hc hN hi ok hg ht he
theorem de_lc (hs : ∀ x, foldedSetIterable iter X.env x = pure x := by intro _; rfl) (hv : t.slots.all (fun i => decide (i ∈ own.map (·.2))) = true := by decide) : PE X (.ListComp elt [⟨tg, iter, ifs, 0⟩] scope pos) (TD X E (dLstOf (dComp t (own.map (·.2)) fi tt te))) :=
  (pe_lc hc hN hi ok hg ht he hs).imp fun σ H Q h => lc_val hv h
theorem dsl_lc (hs : ∀ x, foldedSetIterable iter X.env x = pure x := by intro _; rfl) (hv : t.slots.all (fun i => decide (i ∈ own.map (·.2))) = true := by decide) : PE X (.ListComp elt [⟨tg, iter, ifs, 0⟩] scope pos) (TSl X E (dOwn (dComp t (own.map (·.2)) fi tt te))) :=
  (pe_lc hc hN hi ok hg ht he hs).imp fun σ H Q h => lc_own hv h
/-- name = [..] on one line -/
theorem ds_setLc (hy : X.N[i]? = some y) (hyl : X.env.scope.names.lookup y = some .local) (hsw : swapsWith (.ListComp elt [⟨tg, iter, ifs, 0⟩] scope pos) (some (.Name y py)) spos.line X.env = pure true) (hp0 : pr = true → i ≠ 0 := by decide)
    (hs : ∀ x, foldedSetIterable iter X.env x = pure x := by intro _; rfl) (hv : t.slots.all (fun i => decide (i ∈ own.map (·.2))) = true := by decide) : PS X (.Assign [.Name y py] (.ListComp elt [⟨tg, iter, ifs, 0⟩] scope pos) spos) (TSt X E pr (sSet i (dD (dLstOf (dComp t (own.map (·.2)) fi tt te))))) :=
  (ps_setLc hc hN hy hyl hsw hi ok hg ht he hs).imp fun Dn σ H h => by
    have h1 := set_of hp0 h
    have : ∀ σ H Q, TSl X E (dD (dLstOf (dComp t (own.map (·.2)) fi tt te))) σ H Q → tLc (TIt X E fi) (gD X.K t) (TB X EN tt) (TD X EN te) (own.map (·.2)) σ H Q := fun σ H Q ⟨F, ρ, S, h⟩ => lc_val hv ⟨F, ρ, S, h.bind.mono fun x ρ1 H1 F1 S1 h1 v rv => h1 _ _ (.refl S1.sat) v ⟨v, rfl, rv⟩ fun o => by cases o⟩
    exact this _ _ _ h1
theorem ds_setLcO (hy : X.N[i]? = some y) (hyl : X.env.scope.names.lookup y = some .local) (hsw : swapsWith (.ListComp elt [⟨tg, iter, ifs, 0⟩] scope pos) (some (.Name y py)) spos.line X.env = pure true) (hp0 : pr = true → i ≠ 0 := by decide)
    (hs : ∀ x, foldedSetIterable iter X.env x = pure x := by intro _; rfl) (hv : t.slots.all (fun i => decide (i ∈ own.map (·.2))) = true := by decide) : PS X (.Assign [.Name y py] (.ListComp elt [⟨tg, iter, ifs, 0⟩] scope pos) spos) (TSt X E pr (sSet i (dOwn (dComp t (own.map (·.2)) fi tt te)))) :=
  (ps_setLc hc hN hy hyl hsw hi ok hg ht he hs).imp fun Dn σ H h => lc_own hv (set_of hp0 h)
end
end
end DL

namespace DL
open PySem PySem.Spec PyProof.Rows L2

/-! ### lists that a def owns -/
theorem Ent.write {K : PySem.W.Frag} {Z : Zt} {σ : St} {ρ : En} {H F : Hp} {i : Nat} {s t : Sl} {a : Addr} {o : HO} (e : Ent K Z σ ρ H F) (hs : ρ[i]? = some s) (os : ownS s = true) (hv : σ[i]? = some (some (.ref a))) (ot : ownS t = true) (ok : SlotOk K F (upd H a o) t (some (.ref a))) :
    Ent K Z σ (ρ.set i t) (upd H a o) F := by
  have S := e.sat
  have hil : i < ρ.length := (List.getElem?_eq_some_iff.mp hs).1
  have own_a : OwnA σ ρ a := ⟨i, s, hs, os, hv⟩
  have ne : ∀ b u, Z.H0 b = some u → Z.pa ≠ some b → b ≠ a := fun b u h n z => by
    subst z
    rcases e.own b own_a with q | q
    · exact n q
    · rw [h] at q; cases q
  have oa : ∀ b, OwnA σ (ρ.set i t) b → OwnA σ ρ b := fun b ⟨j, u, e1, o1, q⟩ => by
    by_cases hj : i = j
    · subst hj
      exact ⟨i, s, hs, os, q⟩
    · rw [List.getElem?_set_ne hj] at e1
      exact ⟨j, u, e1, o1, q⟩
  refine ⟨fun b u h n => by rw [upd_ne (ne b u h n)]; exact e.same b u h n, e.mono, e.keep, fun b z => e.own b (oa b z), e.prot, fun b u h => ?_, ?_, by rw [List.length_set]; exact S.len, fun j u e1 => ?_, fun j k b u w e1 e2 o1 o2 q1 q2 => ?_⟩
  · by_cases hb : b = a
    · exact ⟨o, by rw [hb, upd_same]⟩
    · rw [upd_ne hb]
      exact e.there b u h
  · intro b u h
    have : b ≠ a := fun z => by
      subst z
      have := (S.own_some own_a).2
      rw [h] at this
      cases this
    rw [upd_ne this]
    exact S.sub b u h
  · by_cases hj : i = j
    · subst hj
      rw [List.getElem?_set_self hil] at e1
      cases e1
      exact ⟨_, hv, ok⟩
    · rw [List.getElem?_set_ne hj] at e1
      obtain ⟨x, e2, ok2⟩ := S.sl j u e1
      refine ⟨x, e2, ok2.mono (fun _ _ q => q) (fun b w eo ou q => ?_) fun _ _ _ _ _ q => q⟩
      have : b ≠ a := fun z => by
        subst z
        subst eo
        exact hj (S.dis i j b s u hs e1 os ou hv e2)
      rw [upd_ne this]
      exact q
  · have g : ∀ j u, (ρ.set i t)[j]? = some u → ownS u = true → ∃ u', ρ[j]? = some u' ∧ ownS u' = true := fun j u e1 o1 => by
      by_cases hj : i = j
      · subst hj
        exact ⟨s, hs, os⟩
      · rw [List.getElem?_set_ne hj] at e1
        exact ⟨u, e1, o1⟩
    obtain ⟨u', a1, b1⟩ := g j u e1 o1
    obtain ⟨w', a2, b2⟩ := g k w e2 o2
    exact S.dis j k b u' w' a1 a2 b1 b2 q1 q2
def ownL : Option Sl → Option (List D)
  | some (.own l) => some l
  | _ => none
theorem ownL_some {o : Option Sl} {l : List D} (h : ownL o = some l) : o = some (.own l) := by
  unfold ownL at h
  split at h
  · cases h; rfl
  · cases h
/-- x.append(e) -/
def sApp (i : Nat) (f : Den D) : Ds := fun ρ => match ownL ρ[i]? with
  | none => .stuck
  | some _ => sB (f ρ) fun d ρ1 => match ownL ρ1[i]? with
    | some l => if sz (l.length + 1) = true then .nx (ρ1.set i (.own (l ++ [d]))) else .stuck
    | none => .stuck
/-- x[k] = e -/
def putL (i : Nat) (d k : D) (ρ2 : En) : SR := match k, ownL ρ2[i]? with
  | .int n, some l => match ixN l.length n with
    | some j => .nx (ρ2.set i (.own (l.set j d)))
    | none => .stuck
  | _, _ => .stuck
def sPutL (i : Nat) (fk : Den D) (f : Den D) : Ds := fun ρ => sB (f ρ) fun d ρ1 => match ownL ρ1[i]? with
  | none => .stuck
  | some _ => sB (fk ρ1) fun k ρ2 => putL i d k ρ2
/-- x[k] += e -/
def asI : D → Option Int
  | .int i => some i
  | _ => none
def sAugL (i : Nat) (fk : Den D) (f : Den D) : Ds := fun ρ => match ownL ρ[i]? with
  | none => .stuck
  | some _ => sB (fk ρ) fun k ρ1 => match asI k, ownL ρ1[i]? with
    | some n, some l0 => match (atI l0 n).bind asI with
      | some x => sB (f ρ1) fun y ρ2 => match asI y with
        | some z => putL i (.int (x + z)) (.int n) ρ2
        | none => .stuck
      | none => .stuck
    | _, _ => .stuck
/-- len(x), x[k] of an owned list -/
def dLenO (i : Nat) : Den D := fun ρ => match ρ[i]? with
  | some (.own l) => .ok (.int l.length) ρ
  | some (.d x) => Res.of (gLen [x]) ρ
  | _ => .stuck
def isVal : Option Sl → Bool
  | some (.own _) => true
  | some (.d _) => true
  | _ => false
def dIxO (i : Nat) (fk : Den D) : Den D := fun ρ => if isVal ρ[i]? = true then (fk ρ).bind fun k ρ1 => match ρ1[i]? with
  | some (.own l) => Res.of (gIxS (.lst l) k) ρ1
  | some (.d x) => Res.of (gIxS x k) ρ1
  | _ => .stuck else .stuck
section
variable {X : Cx} {E : XK} {pr : Bool} {a b e ek : Expr} {es : List Expr} {pos : Pos} {fa fk : Den D} {fs : Den (List D)}
theorem Ent.at_own {K : PySem.W.Frag} {σ : St} {ρ : En} {H F : Hp} {i : Nat} {l : List D} (S : Sat K σ H F ρ) (h : ownL ρ[i]? = some l) : ∃ p vs, ρ[i]? = some (.own l) ∧ σ[i]? = some (some (.ref p)) ∧ H p = some (.lst vs) ∧ F p = none ∧ RepL K F l vs := by
  have h := ownL_some h
  obtain ⟨o, e1, p, vs, rfl, hp, fp, r⟩ := S.sl i _ h
  exact ⟨p, vs, h, e1, hp, fp, r⟩
theorem ds_app {i : Nat} {o : Expr} {apos cpos : Pos} (ho : PE X o (tVar i)) (he : PE X e (TD X E fa)) (hbase : attributeBase o "append" X.env (eval o X.env) = eval o X.env := by rfl)
    (hfew : ((backTo cpos (starEach [e] X.env)).all (fun x => !x.1) && (backToKw cpos (keywordEach [] X.env)).all (fun x => x.1.isSome) && decide ([e].length + ([] : List Keyword).length + (if ([] : List Keyword).isEmpty then 0 else 1) < 30)) = true := by rfl)
    (hline : (apos.endLine == cpos.line) = true := by rfl) (hs : starEach [e] X.env = (false, eval e X.env) :: starEach [] X.env := by rfl) (hplain : (backTo cpos (starEach [] X.env)).any (·.1) = false := by rfl)
    (hsw : swapsWith (.Call (.Attribute o "append" apos) [e] [] cpos) none pos.line X.env = pure false := by rfl) : PS X (.Expr (.Call (.Attribute o "append" apos) [e] [] cpos) pos) (TSt X E pr (sApp i fa)) :=
  (ps_expr (pe_bm PySem.F.plainAttrs_list PySem.F.slot_list_append PySem.F.type_list_append mt_append ho (pa_cons he pa_nil hs) hbase hfew hline hs hplain) hsw).imp fun Dn σ H ⟨Z, F, ρ, hp, en, h⟩ => by
    unfold sApp at h
    split at h
    · exact h.elim
    · rename_i l0 e0
      obtain ⟨p, vs, e1, ev, hp', fp, r⟩ := Ent.at_own en.sat e0
      refine ⟨.ref p, ev, .inl ⟨rfl, vs, .of hp'⟩, F, ρ, en.sat, (sB_good en h).mono fun d ρ1 H1 F1 S h1 v rv => ?_⟩
      obtain ⟨en1, h1⟩ := h1
      split at h1
      · rename_i l e2
        split at h1
        · rename_i hz
          obtain ⟨q, ws, e3, ev2, hq, fq, r2⟩ := Ent.at_own en1.sat e2
          rw [ev] at ev2
          cases ev2
          have hz := of_decide_eq_true hz
          refine ⟨p, ws, v, rfl, rfl, hq, by rw [← r2.length, sizeLine_eq]; omega, h1 _ _ F1 (en1.write e3 rfl ev rfl ⟨p, _, rfl, upd_same, fq, r2.append (.cons rv .nil)⟩)⟩
        · exact h1.elim
      · exact h1.elim
theorem put_of {Z : Zt} {Dn : Ends} {σ : St} {ρ : En} {H F : Hp} {i : Nat} {d k : D} {p : Addr} {v w : V} (en : Ent X.K Z σ ρ H F) (ev : σ[i]? = some (some (.ref p))) (rd : Rep X.K F d v) (rk : Rep X.K F k w) (h : post X.K X.mg E Z Dn (putL i d k ρ)) : rSetL (.ref p) w v H fun H' => Dn.nx σ H' := by
  unfold putL at h
  split at h
  · rename_i n l e2
    split at h
    · rename_i j ej
      obtain ⟨q, ws, e3, ev2, hq, fq, r2⟩ := Ent.at_own en.sat e2
      rw [ev] at ev2
      cases ev2
      cases (show w = V.int n from rk)
      exact ⟨p, ws, n, j, rfl, rfl, hq, by rw [← r2.length]; exact ej, h _ _ F (en.write e3 rfl ev rfl ⟨p, _, rfl, upd_same, fq, r2.set j rd⟩)⟩
    · exact h.elim
  · exact h.elim
theorem ds_putL {i : Nat} {o : Expr} {spos : Pos} (ho : PE X o (tVar i)) (hk : PE X ek (TD X E fk)) (he : PE X e (TD X E fa)) (ha : ∀ v, assign (.Subscript o ek spos) X.env v = (do
      let ov ← holding [v] (eval o X.env)
      let iv ← holding [v, ov] (eval ek X.env)
      standAt spos
      holding [v, ov, iv] (setItem ov iv v)
      release [v, ov, iv] []) := by intro _; rfl) (hs : swapsWithSole [.Subscript o ek spos] e pos.line X.env = pure false := by rfl) (hw : swappedStores [.Subscript o ek spos] e X.env = pure none := by rfl)
    (h1 : (assignEach [.Subscript o ek spos] X.env).map (·.2) = [assign (.Subscript o ek spos) X.env] := by rfl) : PS X (.Assign [.Subscript o ek spos] e pos) (TSt X E pr (sPutL i fk fa)) :=
  (ps_asg he (pg_sub ho hk set_list ha) hs hw h1).imp fun Dn σ H ⟨Z, F, ρ, hp, en, h⟩ => ⟨F, ρ, en.sat, (sB_good en h).mono fun d ρ1 H1 F1 S h1 v rv => by
    obtain ⟨en1, h1⟩ := h1
    split at h1
    · exact h1.elim
    · rename_i l0 e0
      obtain ⟨p, vs, e1, ev, hp', fp, r⟩ := Ent.at_own en1.sat e0
      refine ⟨.ref p, ev, F1, ρ1, en1.sat, (sB_good en1 h1).mono fun k ρ2 H2 F2 S2 h2 w rw' => ?_⟩
      exact put_of h2.1 ev (rv.mono S2.mono) rw' h2.2⟩
theorem asI_some {x : D} {z : Int} (h : asI x = some z) : x = .int z := by
  unfold asI at h
  split at h
  · cases h; rfl
  · cases h
def rGetL : V → V → Hp → VK → Prop := fun o i H Q => ∃ p xs k v, o = .ref p ∧ i = .int k ∧ H p = some (.lst xs) ∧ atI xs k = some v ∧ Q v H
theorem get_list : PGet X rGetL := by
  intro pins s σ H o i ov iv Q I ro ri h
  obtain ⟨p, xs, k, v, rfl, rfl, hp, he, q⟩ := h
  cases ro
  obtain ⟨t, rfl⟩ := ri
  obtain ⟨its, r, pl, hz⟩ := I.list (.of hp)
  obtain ⟨j, h1, h2, h3, h4, h5⟩ := atI_get he
  obtain ⟨w, ew, rw'⟩ := r.get h2
  have hl := r.length
  have hn := line63
  have fin : EP X pins σ Q w s := ⟨v, H, I, rw', q⟩
  by_cases h0 : 0 ≤ k
  · have hj : k.toNat = j := by
      rw [seqIndex_of h0 h5] at h1
      exact Option.some.inj h1
    exact wpAny_getItem_list pl.isList h0 (by omega) (by rw [hj]; simpa using ew) fin
  · have hj : (k + (its.toArray.size : Int)).toNat = j := by
      rw [seqIndex_neg (by omega) h4] at h1
      rw [List.size_toArray, ← hl]
      exact Option.some.inj h1
    exact wpAny_getItem_list_neg pl.isList (by omega) (by rw [List.size_toArray] <;> omega) (by omega) (by rw [hj]; simpa using ew) fin
theorem ds_augL {i : Nat} {o : Expr} {tpos : Pos} (ho : PE X o (tVar i)) (hk : PE X ek (TD X E fk)) (he : PE X e (TD X E fa)) (ha : ∀ ov iv new, augStore ek ov iv new = (do holding [new, ov, iv] (setItem ov iv new); release [new, ov, iv] []; pure .next) := by intros; rfl) :
    PS X (.AugAssign (.Subscript o ek tpos) .Add e pos) (TSt X E pr (sAugL i fk fa)) :=
  (ps_augS ho hk get_list he ip_add set_list ha).imp fun Dn σ H ⟨Z, F, ρ, hp, en, h⟩ => by
    unfold sAugL at h
    split at h
    · exact h.elim
    · rename_i l0 e0
      obtain ⟨p, vs, e1, ev, hp', fp, r⟩ := Ent.at_own en.sat e0
      refine ⟨.ref p, ev, F, ρ, en.sat, (sB_good en h).mono fun k ρ1 H1 F1 S1 h1 w rk => ?_⟩
      obtain ⟨en1, h1⟩ := h1
      split at h1
      · rename_i n l1 ek el
        have := asI_some ek
        subst this
        split at h1
        · rename_i x ex
          cases ea : atI l1 n with
          | none => rw [ea] at ex; cases ex
          | some dx =>
            rw [ea] at ex
            have := asI_some (show asI dx = some x from ex)
            subst this
            obtain ⟨q, ws, e3, ev2, hq, fq, r2⟩ := Ent.at_own en1.sat el
            rw [ev] at ev2
            cases ev2
            obtain ⟨vx, evx, rx⟩ := r2.atI ea
            cases (show vx = V.int x from rx)
            cases (show w = V.int n from rk)
            refine ⟨p, ws, n, .int x, rfl, rfl, hq, evx, F1, ρ1, en1.sat, (sB_good en1 h1).mono fun y ρ2 H2 F2 S2 h2 vy ry => ?_⟩
            obtain ⟨en2, h2⟩ := h2
            split at h2
            · rename_i z ez
              have := asI_some ez
              subst this
              cases (show vy = V.int z from ry)
              exact ⟨x, z, rfl, rfl, put_of en2 ev (show Rep X.K F2 (.int (x + z)) (.int (x + z)) from rfl) (show Rep X.K F2 (.int n) (.int n) from rfl) h2⟩
            · exact h2.elim
        · exact h1.elim
      · exact h1.elim
theorem de_lenO {i : Nat} {o : Expr} {p : Pos} (ho : PE X o (tVar i)) (hg : Gl X "len") (hm : X.mg "len" = none) (hs : starEach [o] X.env = (false, eval o X.env) :: starEach [] X.env := by rfl) (hpl : (backTo pos (starEach [] X.env)).any (·.1) = false := by rfl) :
    PE X (.Call (.Name "len" p) [o] [] pos) (TD X E (dLenO i)) := by
  obtain ⟨r, hr, q⟩ := (cd_len (X := X))
  refine (pe_callB (call_len (X := X)) hg hm PySem.boot_len (pa_cons ho pa_nil hs) (by decide) (by decide) hs hpl).imp fun σ H Q ⟨F, ρ, S, h⟩ => ?_
  unfold dLenO at h
  split at h
  · rename_i l e
    obtain ⟨p, vs, e1, ev, hp', fp, r⟩ := Ent.at_own S (by rw [e]; rfl)
    exact ⟨.ref p, ev, .ref p, _, rfl, .inl ⟨vs, .of hp', r.length⟩, h _ _ (.refl S) _ rfl⟩
  · rename_i x e
    obtain ⟨o, e1, v, rfl, rv⟩ := S.sl i _ e
    obtain ⟨z, ez, k⟩ := h.of
    refine ⟨v, e1, ?_⟩
    have hx : ∃ n : Nat, z = .int n ∧ LenV X.K v H n := by
      unfold gLen at ez
      split at ez
      · rename_i l hl
        cases hl
        cases ez
        obtain ⟨p, vs, rfl, hp, r⟩ := rv
        exact ⟨_, rfl, .inl ⟨vs, .of (S.sub _ _ hp), r.length⟩⟩
      · rename_i l hl
        cases hl
        cases ez
        obtain ⟨p, vs, rfl, hp, r⟩ := rv
        exact ⟨_, rfl, .inr ⟨vs, .of (S.sub _ _ hp), r.length⟩⟩
      · rename_i l hl
        cases hl
        cases ez
        obtain ⟨p, vs, rfl, hp, r⟩ := rv
        exact ⟨_, rfl, .inr ⟨vs, same_sqT S.sub hp, r.length⟩⟩
      · rename_i l hl
        cases hl
        cases ez
        obtain ⟨p, rfl, hp⟩ := rv
        exact ⟨_, rfl, .inl ⟨_, same_sqL S.sub hp, by rw [List.length_map]⟩⟩
      · rename_i y hl
        cases hl
        split at ez
        · rename_i hz
          cases ez
          cases (show v = V.str y from rv)
          exact ⟨_, rfl, sz_line hz, rfl⟩
        · cases ez
      · cases ez
    obtain ⟨n, rfl, hn⟩ := hx
    exact ⟨v, n, rfl, hn, k _ _ (.refl S) _ rfl⟩
  · exact h.elim
theorem de_ixO {i : Nat} {o : Expr} (ho : PE X o (tVar i)) (hk : PE X ek (TD X E fk)) (hs : PlainIx ek := by intro _ _; rfl) :
    PE X (.Subscript o ek pos) (TD X E (dIxO i fk)) := by
  obtain ⟨r, hr, q⟩ := (ixd_seq (X := X))
  refine (pe_ix (ix_list.or hr) ho hk hs).imp fun σ H Q ⟨F, ρ, S, h⟩ => ?_
  unfold dIxO at h
  by_cases hv : isVal ρ[i]? = true
  rotate_left
  · rw [if_neg hv] at h
    exact h.elim
  rw [if_pos hv] at h
  have start : ∃ v, σ[i]? = some (some v) := by
    unfold isVal at hv
    split at hv
    · rename_i l e
      obtain ⟨p, vs, e1, ev, _⟩ := Ent.at_own S (l := l) (by rw [e]; rfl)
      exact ⟨_, ev⟩
    · rename_i x e
      obtain ⟨o, e1, v, rfl, rv⟩ := S.sl i _ e
      exact ⟨v, e1⟩
    · cases hv
  obtain ⟨v, ev⟩ := start
  refine ⟨v, ev, F, ρ, S, h.bind.mono fun k ρ1 H1 F1 S1 h1 w rk => ?_⟩
  split at h1
  · rename_i l e
    obtain ⟨p, vs, e1, ev2, hp', fp, r2⟩ := Ent.at_own S1.sat (l := l) (by rw [e]; rfl)
    rw [ev] at ev2
    cases ev2
    obtain ⟨z, ez, kk⟩ := h1.of
    unfold gIxS at ez
    cases k <;> simp only at ez <;> try cases ez
    rename_i n
    obtain ⟨u, eu, ru⟩ := r2.atI ez
    cases (show w = V.int n from rk)
    exact .inl ⟨p, vs, n, u, rfl, rfl, .of hp', eu, kk _ _ (.refl S1.sat) _ ru⟩
  · rename_i x e
    obtain ⟨o, e1, v', rfl, rv⟩ := S1.sat.sl i _ e
    rw [ev] at e1
    cases e1
    obtain ⟨z, ez, kk⟩ := h1.of
    exact .inr (q x k z v w σ H1 F1 ρ1 Q S1.sat rv rk ez fun v' H' F' S' rz => kk H' F' S' v' rz)
  · exact h1.elim
/-- x += e, x -= e (ints) -/
def sAug (i : Nat) (g : Int → Int → Int) (f : Den D) : Ds := fun ρ => match ρ[i]? with
  | some (.d (.int x)) => sB (f ρ) fun y ρ1 => match y with
    | .int z => .nx (ρ1.set i (.d (.int (g x z))))
    | _ => .stuck
  | _ => .stuck
theorem aug_of {i : Nat} {g : Int → Int → Int} {Dn : Ends} {σ : St} {H : Hp} (hp0 : pr = true → i ≠ 0) (h : TSt X E pr (sAug i g fa) Dn σ H) : tAug i (TD X E fa) (ipI g) Dn σ H := by
  obtain ⟨Z, F, ρ, hp, en, h⟩ := h
  unfold sAug at h
  split at h
  · rename_i x e
    obtain ⟨o, e1, v, rfl, rv⟩ := en.sat.sl i _ e
    cases (show v = V.int x from rv)
    refine ⟨_, e1, F, ρ, en.sat, (sB_good en h).mono fun y ρ1 H1 F1 S1 h1 w ry => ?_⟩
    obtain ⟨en1, h1⟩ := h1
    split at h1
    · rename_i z
      cases (show w = V.int z from ry)
      exact ⟨x, z, rfl, rfl, h1 _ _ F1 (en1.setS ⟨_, rfl, rfl⟩ (fun o => by cases o) fun q => hp0 (hp ▸ q))⟩
    · exact h1.elim
  · exact h.elim
theorem ds_augAdd {i : Nat} {x : Str} {pos' : Pos} (hN : X.N.Nodup) (hi : X.N[i]? = some x) (hx : Loc X.env.scope x) (he : PE X e (TD X E fa)) (hp0 : pr = true → i ≠ 0 := by decide) (hf : X.fn x = true ∨ X.env.scope.names.lookup x = some .local := by first | exact .inl rfl | exact .inr rfl | assumption) :
    PS X (.AugAssign (.Name x pos') .Add e pos) (TSt X E pr (sAug i (fun i j => i + j) fa)) := (ps_aug hN hi hx he ip_add hf).imp fun Dn σ H h => aug_of hp0 h
theorem ds_augSub {i : Nat} {x : Str} {pos' : Pos} (hN : X.N.Nodup) (hi : X.N[i]? = some x) (hx : Loc X.env.scope x) (he : PE X e (TD X E fa)) (hp0 : pr = true → i ≠ 0 := by decide) (hf : X.fn x = true ∨ X.env.scope.names.lookup x = some .local := by first | exact .inl rfl | exact .inr rfl | assumption) :
    PS X (.AugAssign (.Name x pos') .Sub e pos) (TSt X E pr (sAug i (fun i j => i - j) fa)) := (ps_aug hN hi hx he ip_sub hf).imp fun Dn σ H h => aug_of hp0 h
end
end DL

namespace DL
open PySem PySem.Spec PyProof.Rows L2

/-! ### defs by their bodies -/
def un (n : Nat) : En := List.replicate n .un
def endA : SR → FR
  | .nx _ => .ok .non
  | .rt d _ => .ok d
  | .er x _ => .err x
  | _ => .stuck
/-- a def of n parameters and m names, that leaves no trace -/
def runA (n m : Nat) (f : Ds) (ds : List D) : FR := if ds.length = n then endA (f (ds.map .d ++ un (m - n))) else .stuck
inductive FM where
  | ok (d : D) (l : List D)
  | err (x : Exn) (l : List D)
  | stuck
def endM : SR → FM
  | .nx ρ => match ownL ρ[0]? with
    | some l => .ok .non l
    | none => .stuck
  | .rt d ρ => match ownL ρ[0]? with
    | some l => .ok d l
    | none => .stuck
  | .er x ρ => match ownL ρ[0]? with
    | some l => .err x l
    | none => .stuck
  | _ => .stuck
/-- .. that changes the list that is its first argument, and leaves no other trace -/
def runM (n m : Nat) (f : Ds) (l : List D) (ds : List D) : FM := if ds.length + 1 = n then endM (f (.own l :: (ds.map .d ++ un (m - n)))) else .stuck
inductive FO where
  | ok (l : List D)
  | err (x : Exn)
  | stuck
def endO : SR → FO
  | .rto d _ => .ok d
  | .er x _ => .err x
  | _ => .stuck
/-- .. that hands out a list nobody else has -/
def runO (n m : Nat) (f : Ds) (ds : List D) : FO := if ds.length = n then endO (f (ds.map .d ++ un (m - n))) else .stuck
def spM (K : PySem.W.Frag) (mg : MG) (n : Nat) (g : List D → List D → FM) : Sp := fun vs H Q E => vs.length = n ∧ ∃ F a ws l ds vs', vs = .ref a :: vs' ∧ Same F H ∧ H a = some (.lst ws) ∧ F a = none ∧ RepL K F l ws ∧ RepL K F ds vs' ∧ match g l ds with
  | .ok d l' => ∀ v H' F' ws', (∀ b o, H b = some o → b ≠ a → H' b = some o) → H' a = some (.lst ws') → Same F F' → Same F' H' → (∀ b o, H b = some o → F' b = F b) → RepL K F' l' ws' → Rep K F' d v → Q v H'
  | .err x l' => ∀ c dd H' F' ws', (∀ b o, H b = some o → b ≠ a → H' b = some o) → H' a = some (.lst ws') → Same F F' → Same F' H' → (∀ b o, H b = some o → F' b = F b) → RepL K F' l' ws' → RepX K mg F' H' x c dd → E c dd H'
  | .stuck => False
def spO (K : PySem.W.Frag) (mg : MG) (n : Nat) (g : List D → FO) : Sp := fun vs H Q E => vs.length = n ∧ ∃ F ds, Same F H ∧ RepL K F ds vs ∧ match g ds with
  | .ok l => ∀ a ws H' F', Same H H' → Same F F' → Same F' H' → (∀ b o, H b = some o → F' b = F b) → H' a = some (.lst ws) → F' a = none → H a = none → RepL K F' l ws → Q (.ref a) H'
  | .err x => ∀ c dd H' F', Same H H' → Same F F' → Same F' H' → (∀ b o, H b = some o → F' b = F b) → RepX K mg F' H' x c dd → E c dd H'
  | .stuck => False
section
variable {K : PySem.W.Frag} {mg : MG} {F H : Hp}
theorem start_get {N : List Str} {vs : List V} {i : Nat} (hi : i < N.length) (hl : vs.length ≤ N.length) : ∃ o, (L2.start N vs)[i]? = some o := by
  have : (L2.start N vs).length = N.length := by
    unfold L2.start
    rw [List.length_append, List.length_map, List.length_replicate]
    omega
  exact ⟨(L2.start N vs)[i]'(by omega), by simp⟩
theorem start_len {N : List Str} {vs : List V} (hl : vs.length ≤ N.length) : (L2.start N vs).length = N.length := by
  unfold L2.start
  rw [List.length_append, List.length_map, List.length_replicate]
  omega
theorem slots_at {ds : List D} {m i : Nat} {s : Sl} (e : (ds.map Sl.d ++ un m)[i]? = some s) : (∃ d, ds[i]? = some d ∧ s = .d d) ∨ (ds.length ≤ i ∧ s = .un) := by
  by_cases h : i < ds.length
  · rw [List.getElem?_append_left (by rw [List.length_map]; exact h), List.getElem?_map] at e
    cases q : ds[i]? with
    | none => rw [q] at e; cases e
    | some d =>
      rw [q] at e
      exact .inl ⟨d, rfl, (Option.some.inj e).symm⟩
  · rw [List.getElem?_append_right (by rw [List.length_map]; omega)] at e
    unfold un at e
    rw [List.getElem?_replicate] at e
    split at e
    · exact .inr ⟨by omega, (Option.some.inj e).symm⟩
    · cases e
theorem start_at {N : List Str} {vs : List V} {i : Nat} {v : V} (e : vs[i]? = some v) : (L2.start N vs)[i]? = some (some v) := by
  have h := (List.getElem?_eq_some_iff.mp e).1
  unfold L2.start
  rw [List.getElem?_append_left (by rw [List.length_map]; exact h), List.getElem?_map, e]
  rfl
theorem sat_start {N : List Str} {vs : List V} {ds : List D} (hF : Same F H) (r : RepL K F ds vs) (hl : ds.length ≤ N.length) : Sat K (L2.start N vs) H F (ds.map .d ++ un (N.length - ds.length)) := by
  have hvl := r.length
  refine ⟨hF, by rw [start_len (by omega)]; simp [un]; omega, fun i s e => ?_, fun i j a s t e1 e2 o1 => ?_⟩
  · rcases slots_at e with ⟨d, ed, rfl⟩ | ⟨hi, rfl⟩
    · obtain ⟨v, ev, rv⟩ := r.get ed
      exact ⟨some v, start_at ev, v, rfl, rv⟩
    · have := (List.getElem?_eq_some_iff.mp e).1
      obtain ⟨o, eo⟩ := start_get (N := N) (vs := vs) (i := i) (by simp [un] at this; omega) (by omega)
      exact ⟨o, eo, trivial⟩
  · rcases slots_at e1 with ⟨d, ed, rfl⟩ | ⟨hi, rfl⟩ <;> cases o1
theorem noOwn_start {N : List Str} {vs : List V} {ds : List D} {m : Nat} {a : Addr} (z : OwnA (L2.start N vs) (ds.map .d ++ un m) a) : False := by
  obtain ⟨i, s, e, o, _⟩ := z
  rcases slots_at e with ⟨d, ed, rfl⟩ | ⟨hi, rfl⟩ <;> cases o
end
section
variable {P : Program} {w : World} {K : PySem.W.Frag} {mg : MG} {base : Heap} {x qual : Str} {params : Arguments} {body : List Stmt} {scope : Scope} {dvs : List V} {kws : List (Str × V)} {f : Addr} {fd : FuncData}
/-- the context of a def's body -/
abbrev BX (P : Program) (w : World) (K : PySem.W.Frag) (mg : MG) (base : Heap) (N : List Str) (qual : Str) (scope : Scope) (f : Addr) (cdv : Value) (A : Around) (outer : List Env) (s : Shared) (H : Hp) (E : XK) : Cx := cxOf (CX P w) P w K mg base N qual scope f cdv A outer s H E
theorem passes_bx {N : List Str} {cdv : Value} {A : Around} {outer : List Env} {s : Shared} {H : Hp} {E : XK} : Passes (CX P w) (BX P w K mg base N qual scope f cdv A outer s H E) E :=
  passes_call (X := BX P w K mg base N qual scope f cdv A outer s H E) (W := fun c d _ H => E c d H) (takes_of rfl rfl rfl rfl) fun _ _ _ _ h => h
theorem fn_A {N ps : List Str} {k : Nat} {fb : Ds} {n : Nat} (F : FunD K x qual params body scope dvs kws f fd) (S : FnScope N ps scope) (hn : ps.length = n) (hN : n ≤ N.length)
    (hb : ∀ (cdv : Value) (A : Around) (outer : List Env) (s : Shared) (H : Hp) (E : XK), Room k (BX P w K mg base N qual scope f cdv A outer s H E).A → Passes (CX P w) (BX P w K mg base N qual scope f cdv A outer s H E) E → PassesOwn (model P w) (BX P w K mg base N qual scope f cdv A outer s H E).A (BX P w K mg base N qual scope f cdv A outer s H E).env (BX P w K mg base N qual scope f cdv A outer s H E).xe →
      PSs (BX P w K mg base N qual scope f cdv A outer s H E) body (TSt (BX P w K mg base N qual scope f cdv A outer s H E) E false fb)) : FnOk P w K mg base (CX P w) (k + 1) f fd ps (spA K mg n (runA n N.length fb)) := by
  refine F.ok S (fun vs H Q E h => h.1.trans hn.symm) fun cdv A outer s H vs Q E hr h => ?_
  refine ⟨_, hb cdv A outer s H E hr passes_bx (passes_of rfl), ?_⟩
  obtain ⟨hl, F0, ds, hF, r, h⟩ := h
  have hdl : ds.length = n := r.length.trans hl
  unfold runA at h
  rw [if_pos hdl] at h
  refine ⟨⟨H, F0, none⟩, F0, ds.map .d ++ un (N.length - n), rfl, ⟨fun _ _ e _ => e, fun _ _ e => e, fun _ _ _ _ => rfl, fun a z => (noOwn_start z).elim, fun a q => (by cases q), fun _ o e => ⟨o, e⟩, ?_⟩, ?_⟩
  · rw [← hdl]
    exact sat_start hF r (by omega)
  · have nn : ∀ b : Addr, (none : Option Addr) ≠ some b := fun b q => by cases q
    cases e : fb (ds.map .d ++ un (N.length - n)) with
    | nx ρ => rw [e] at h; exact fun σ H' F' en => h .non H' F' (fun b o q => en.same b o q (nn b)) en.mono en.sat.sub (fun b o q => en.keep b o q (nn b)) rfl
    | rt d ρ => rw [e] at h; exact fun v σ H' F' en rv => h v H' F' (fun b o q => en.same b o q (nn b)) en.mono en.sat.sub (fun b o q => en.keep b o q (nn b)) rv
    | er x ρ => rw [e] at h; exact fun c dd σ H' F' en rx => h c dd H' F' (fun b o q => en.same b o q (nn b)) en.mono en.sat.sub (fun b o q => en.keep b o q (nn b)) rx
    | rto d ρ => rw [e] at h; exact h.elim
    | bk ρ => rw [e] at h; exact h.elim
    | ct ρ => rw [e] at h; exact h.elim
    | stuck => rw [e] at h; exact h.elim
theorem fn_O {N ps : List Str} {k : Nat} {fb : Ds} {n : Nat} (F : FunD K x qual params body scope dvs kws f fd) (S : FnScope N ps scope) (hn : ps.length = n) (hN : n ≤ N.length)
    (hb : ∀ (cdv : Value) (A : Around) (outer : List Env) (s : Shared) (H : Hp) (E : XK), Room k (BX P w K mg base N qual scope f cdv A outer s H E).A → Passes (CX P w) (BX P w K mg base N qual scope f cdv A outer s H E) E → PassesOwn (model P w) (BX P w K mg base N qual scope f cdv A outer s H E).A (BX P w K mg base N qual scope f cdv A outer s H E).env (BX P w K mg base N qual scope f cdv A outer s H E).xe →
      PSs (BX P w K mg base N qual scope f cdv A outer s H E) body (TSt (BX P w K mg base N qual scope f cdv A outer s H E) E false fb)) : FnOk P w K mg base (CX P w) (k + 1) f fd ps (spO K mg n (runO n N.length fb)) := by
  refine F.ok S (fun vs H Q E h => h.1.trans hn.symm) fun cdv A outer s H vs Q E hr h => ?_
  refine ⟨_, hb cdv A outer s H E hr passes_bx (passes_of rfl), ?_⟩
  obtain ⟨hl, F0, ds, hF, r, h⟩ := h
  have hdl : ds.length = n := r.length.trans hl
  unfold runO at h
  rw [if_pos hdl] at h
  refine ⟨⟨H, F0, none⟩, F0, ds.map .d ++ un (N.length - n), rfl, ⟨fun _ _ e _ => e, fun _ _ e => e, fun _ _ _ _ => rfl, fun a z => (noOwn_start z).elim, fun a q => (by cases q), fun _ o e => ⟨o, e⟩, ?_⟩, ?_⟩
  · rw [← hdl]
    exact sat_start hF r (by omega)
  · have nn : ∀ b : Addr, (none : Option Addr) ≠ some b := fun b q => by cases q
    cases e : fb (ds.map .d ++ un (N.length - n)) with
    | rto d ρ => rw [e] at h; exact fun a ws σ H' F' en h1 h2 h3 rv => h a ws H' F' (fun b o q => en.same b o q (nn b)) en.mono en.sat.sub (fun b o q => en.keep b o q (nn b)) h1 h2 h3 rv
    | er x ρ => rw [e] at h; exact fun c dd σ H' F' en rx => h c dd H' F' (fun b o q => en.same b o q (nn b)) en.mono en.sat.sub (fun b o q => en.keep b o q (nn b)) rx
    | nx ρ => rw [e] at h; exact h.elim
    | rt d ρ => rw [e] at h; exact h.elim
    | bk ρ => rw [e] at h; exact h.elim
    | ct ρ => rw [e] at h; exact h.elim
    | stuck => rw [e] at h; exact h.elim
theorem fn_M {N ps : List Str} {k : Nat} {fb : Ds} {n : Nat} (F : FunD K x qual params body scope dvs kws f fd) (S : FnScope N ps scope) (hn : ps.length = n) (hN : n ≤ N.length)
    (hb : ∀ (cdv : Value) (A : Around) (outer : List Env) (s : Shared) (H : Hp) (E : XK), Room k (BX P w K mg base N qual scope f cdv A outer s H E).A → Passes (CX P w) (BX P w K mg base N qual scope f cdv A outer s H E) E → PassesOwn (model P w) (BX P w K mg base N qual scope f cdv A outer s H E).A (BX P w K mg base N qual scope f cdv A outer s H E).env (BX P w K mg base N qual scope f cdv A outer s H E).xe →
      PSs (BX P w K mg base N qual scope f cdv A outer s H E) body (TSt (BX P w K mg base N qual scope f cdv A outer s H E) E true fb)) : FnOk P w K mg base (CX P w) (k + 1) f fd ps (spM K mg n (runM n N.length fb)) := by
  refine F.ok S (fun vs H Q E h => h.1.trans hn.symm) fun cdv A outer s H vs Q E hr h => ?_
  refine ⟨_, hb cdv A outer s H E hr passes_bx (passes_of rfl), ?_⟩
  obtain ⟨hl, F0, a, ws, l, ds, vs', rfl, hF, ha, hfa, rl, r, h⟩ := h
  have hdl : ds.length + 1 = n := by rw [r.length]; exact hl
  unfold runM at h
  rw [if_pos hdl] at h
  have hvl := r.length
  have hs0 : (L2.start N (.ref a :: vs'))[0]? = some (some (.ref a)) := start_at rfl
  have hsl : (L2.start N (.ref a :: vs')).length = N.length := start_len (by rw [List.length_cons]; omega)
  have slot : ∀ (i : Nat) s, ((Sl.own l :: (ds.map Sl.d ++ un (N.length - n))))[i]? = some s → (i = 0 ∧ s = .own l) ∨ ∃ j, i = j + 1 ∧ ((∃ d, ds[j]? = some d ∧ s = .d d) ∨ (ds.length ≤ j ∧ s = .un)) := fun i s e => by
    cases i with
    | zero => exact .inl ⟨rfl, (Option.some.inj e).symm⟩
    | succ j => exact .inr ⟨j, rfl, slots_at e⟩
  refine ⟨⟨H, F0, some a⟩, F0, .own l :: (ds.map .d ++ un (N.length - n)), rfl, ⟨fun _ _ e _ => e, fun _ _ e => e, fun _ _ _ _ => rfl, fun b z => ?_, fun b q => ?_, fun _ o e => ⟨o, e⟩, ⟨hF, ?_, fun i s e => ?_, fun i j b s t e1 e2 o1 o2 q1 q2 => ?_⟩⟩, ?_⟩
  · obtain ⟨i, s, e, o, q⟩ := z
    rcases slot i s e with ⟨rfl, rfl⟩ | ⟨j, rfl, ⟨d, _, rfl⟩ | ⟨_, rfl⟩⟩
    · rw [hs0] at q
      cases q
      exact .inl rfl
    · cases o
    · cases o
  · cases q
    exact hs0
  · rw [hsl]
    simp [un]
    omega
  · rcases slot i s e with ⟨rfl, rfl⟩ | ⟨j, rfl, ⟨d, ed, rfl⟩ | ⟨hj, rfl⟩⟩
    · exact ⟨_, hs0, a, ws, rfl, ha, hfa, rl⟩
    · obtain ⟨v, ev, rv⟩ := r.get ed
      exact ⟨some v, start_at (show (V.ref a :: vs')[j + 1]? = some v from ev), v, rfl, rv⟩
    · have h1 := (List.getElem?_eq_some_iff.mp e).1
      exact ⟨(L2.start N (.ref a :: vs'))[j + 1]'(by rw [hsl]; simp [un] at h1; omega), by simp, trivial⟩
  · rcases slot i s e1 with ⟨rfl, rfl⟩ | ⟨j', rfl, ⟨d, ed, rfl⟩ | ⟨hj, rfl⟩⟩
    · rcases slot j t e2 with ⟨rfl, rfl⟩ | ⟨j', rfl, ⟨d, ed, rfl⟩ | ⟨hj, rfl⟩⟩
      · rfl
      · cases o2
      · cases o2
    · cases o1
    · cases o1
  · have fin : ∀ {σ : St} {ρ : En} {H' F' : Hp} {l' : List D}, Ent K ⟨H, F0, some a⟩ σ ρ H' F' → ownL ρ[0]? = some l' → ∃ ws', (∀ b o, H b = some o → b ≠ a → H' b = some o) ∧ H' a = some (.lst ws') ∧ Same F0 F' ∧ Same F' H' ∧ (∀ b o, H b = some o → F' b = F0 b) ∧ RepL K F' l' ws' := fun {σ ρ H' F' l'} en e => by
      obtain ⟨p, vs, e3, ev, hp, fp, r⟩ := Ent.at_own en.sat e
      have := en.prot a rfl
      rw [this] at ev
      cases ev
      refine ⟨vs, fun b o q n => en.same b o q fun z => n (Option.some.inj z).symm, hp, en.mono, en.sat.sub, fun b o q => ?_, r⟩
      by_cases hb : b = a
      · subst hb
        exact fp.trans hfa.symm
      · exact en.keep b o q fun z => hb (Option.some.inj z).symm
    cases e : fb (.own l :: (ds.map .d ++ un (N.length - n))) with
    | nx ρ =>
      rw [e] at h
      unfold endM at h
      dsimp only at h
      intro σ H' F' en
      cases q : ownL ρ[0]? with
      | none => rw [q] at h; exact h.elim
      | some l' =>
        rw [q] at h
        obtain ⟨ws', h1, h2, h3, h4, h5, h6⟩ := fin en q
        exact h .non H' F' ws' h1 h2 h3 h4 h5 h6 rfl
    | rt d ρ =>
      rw [e] at h
      unfold endM at h
      dsimp only at h
      intro v σ H' F' en rv
      cases q : ownL ρ[0]? with
      | none => rw [q] at h; exact h.elim
      | some l' =>
        rw [q] at h
        obtain ⟨ws', h1, h2, h3, h4, h5, h6⟩ := fin en q
        exact h v H' F' ws' h1 h2 h3 h4 h5 h6 rv
    | er x ρ =>
      rw [e] at h
      unfold endM at h
      dsimp only at h
      intro c dd σ H' F' en rx
      cases q : ownL ρ[0]? with
      | none => rw [q] at h; exact h.elim
      | some l' =>
        rw [q] at h
        obtain ⟨ws', h1, h2, h3, h4, h5, h6⟩ := fin en q
        exact h c dd H' F' ws' h1 h2 h3 h4 h5 h6 rx
    | rto d ρ => rw [e] at h; exact h.elim
    | bk ρ => rw [e] at h; exact h.elim
    | ct ρ => rw [e] at h; exact h.elim
    | stuck => rw [e] at h; exact h.elim
end
end DL

namespace DL
open PySem PySem.Spec PyProof.Rows L2
/-! ### calls that change their first list, and such that hand out a list -/
def fmR (i : Nat) : FM → En → Res D
  | .ok d l, ρ => .ok d (ρ.set i (.own l))
  | .err x l, ρ => .err x (ρ.set i (.own l))
  | .stuck, _ => .stuck
/-- f(x, ..), x the list at slot i -/
def dFnM (i : Nat) (g : List D → List D → FM) (fs : Den (List D)) : Den D := fun ρ => if (ownL ρ[i]?).isSome = true then (fs ρ).bind fun ds ρ1 => match ownL ρ1[i]? with
  | some l => fmR i (g l ds) ρ1
  | none => .stuck else .stuck
/-- f(e), e a new list that is let go -/
def dFnT (g : List D → List D → FM) (f : Den (List D)) : Den D := fun ρ => (f ρ).bind fun l ρ1 => match g l [] with
  | .ok d _ => .ok d ρ1
  | .err x _ => .err x ρ1
  | .stuck => .stuck
def foR : FO → En → Res (List D)
  | .ok l, ρ => .ok l ρ
  | .err x, ρ => .err x ρ
  | .stuck, _ => .stuck
def dFnO (g : List D → FO) (fs : Den (List D)) : Den (List D) := fun ρ => (fs ρ).bind fun ds ρ1 => foR (g ds) ρ1
section
variable {K : PySem.W.Frag} {mg : MG} {E : XK} {σ : St} {ρ ρ1 : En} {H F H1 F1 : Hp}
theorem Step.write {i : Nat} {a : Addr} {l l' : List D} {ws' : List V} (S : Sat K σ H F ρ) (hs : ρ[i]? = some (.own l)) (hv : σ[i]? = some (some (.ref a))) (h1 : ∀ b o, H b = some o → b ≠ a → H1 b = some o) (h2 : H1 a = some (.lst ws')) (h3 : Same F F1) (h4 : Same F1 H1) (h5 : ∀ b o, H b = some o → F1 b = F b) (h6 : RepL K F1 l' ws') :
    Step K σ ρ H F (ρ.set i (.own l')) H1 F1 := by
  have hil : i < ρ.length := (List.getElem?_eq_some_iff.mp hs).1
  have own_a : OwnA σ ρ a := ⟨i, _, hs, rfl, hv⟩
  obtain ⟨⟨oa, hoa⟩, hfa⟩ := S.own_some own_a
  have g : ∀ j u, (ρ.set i (.own l'))[j]? = some u → ownS u = true → ∃ u', ρ[j]? = some u' ∧ ownS u' = true := fun j u e1 o1 => by
    by_cases hj : i = j
    · subst hj
      exact ⟨_, hs, rfl⟩
    · rw [List.getElem?_set_ne hj] at e1
      exact ⟨u, e1, o1⟩
  refine ⟨fun b o e n => h1 b o e fun z => n (z ▸ own_a), h3, fun b o e n => h5 b o e, g, fun b o e => ?_, h4, by rw [List.length_set]; exact S.len, fun j u e1 => ?_, fun j k b u w e1 e2 o1 o2 q1 q2 => ?_⟩
  · by_cases hb : b = a
    · exact ⟨_, by rw [hb]; exact h2⟩
    · exact ⟨o, h1 b o e hb⟩
  · by_cases hj : i = j
    · subst hj
      rw [List.getElem?_set_self hil] at e1
      cases e1
      exact ⟨_, hv, a, ws', rfl, h2, (h5 _ _ hoa).trans hfa, h6⟩
    · rw [List.getElem?_set_ne hj] at e1
      obtain ⟨x, e2, ok2⟩ := S.sl j u e1
      refine ⟨x, e2, ok2.mono h3 (fun b w eo ou q => h1 b w q fun z => ?_) fun b w eo ou q n => (h5 b w q).trans n⟩
      subst z
      subst eo
      exact hj (S.dis i j b _ u hs e1 rfl ou hv e2)
  · obtain ⟨u', a1, b1⟩ := g j u e1 o1
    obtain ⟨w', a2, b2⟩ := g k w e2 o2
    exact S.dis j k b u' w' a1 a2 b1 b2 q1 q2
end
section
variable {X : Cx} {E : XK} {pr : Bool} {a b e o : Expr} {es rest : List Expr} {pos : Pos} {fa fb : Den D} {fs : Den (List D)} {fl fm : Den (List D)} {k : Nat} {f : Addr} {fd : FuncData} {ps : List Str} {x : Str} {p : Pos} {n : Nat}
theorem de_callM {i : Nat} {g : List D → List D → FM} (F : FnOk X.prog X.w X.K X.mg X.base (CX X.prog X.w) k f fd ps (spM X.K X.mg n g)) (hr : Room k X.A) (hg : Gl X x) (hm : X.mg x = some (.ref f)) (hk : PySem.W.keepIn X.K (.ref f) = true) (hb : Binds X.K fd ps [])
    (hx : Passes (CX X.prog X.w) X E) (ho : PE X o (tVar i)) (ha : PA X es (TA X E fs)) (hdb : (x == ("__debug__" : Str)) = false := by decide) (he : starEach (o :: es) X.env = (false, eval o X.env) :: starEach es X.env := by rfl)
    (hpl : (backTo pos (starEach es X.env)).any (·.1) = false := by rfl) : PE X (.Call (.Name x p) (o :: es) [] pos) (TD X E (dFnM i (fun l ds => if ds.length + 1 = n then g l ds else .stuck) fs)) :=
  (pe_call F hr hg hm hk hb .nil hx (pa_cons ho ha he) hdb he hpl).imp fun σ H Q ⟨F, ρ, S, h⟩ => by
    unfold dFnM at h
    by_cases h0 : (ownL ρ[i]?).isSome = true
    rotate_left
    · rw [if_neg h0] at h
      exact h.elim
    rw [if_pos h0] at h
    obtain ⟨l0, e0⟩ := Option.isSome_iff_exists.mp h0
    obtain ⟨p, vs0, e1, ev, hp0, fp0, r0⟩ := Ent.at_own S e0
    refine ⟨.ref p, ev, F, ρ, S, h.bind.mono fun ds ρ1 H1 F1 S1 h1 vs rs => ?_⟩
    cases q : ownL ρ1[i]? with
    | none => rw [q] at h1; exact h1.elim
    | some l =>
      rw [q] at h1
      dsimp only at h1
      by_cases hl : ds.length + 1 = n
      rotate_left
      · rw [if_neg hl] at h1
        exact h1.elim
      rw [if_pos hl] at h1
      obtain ⟨p', ws, e2, ev2, hp, fp, rl⟩ := Ent.at_own S1.sat q
      rw [ev] at ev2
      cases ev2
      refine ⟨by rw [List.append_nil, List.length_cons, ← rs.length]; exact hl, F1, p, ws, l, ds, vs, by rw [List.append_nil], S1.sat.sub, hp, fp, rl, rs, ?_⟩
      cases eg : g l ds with
      | ok d l' => rw [eg] at h1; exact fun v H' F' ws' a1 a2 a3 a4 a5 a6 rv => h1 H' F' (.write S1.sat e2 ev a1 a2 a3 a4 a5 a6) v rv
      | err x l' => rw [eg] at h1; exact fun c dd H' F' ws' a1 a2 a3 a4 a5 a6 rx => h1 c dd H' F' (.write S1.sat e2 ev a1 a2 a3 a4 a5 a6) rx
      | stuck => rw [eg] at h1; exact h1.elim
theorem de_callT {g : List D → List D → FM} (F : FnOk X.prog X.w X.K X.mg X.base (CX X.prog X.w) k f fd ps (spM X.K X.mg 1 g)) (hr : Room k X.A) (hg : Gl X x) (hm : X.mg x = some (.ref f)) (hk : PySem.W.keepIn X.K (.ref f) = true) (hb : Binds X.K fd ps [])
    (hx : Passes (CX X.prog X.w) X E) (ho : PE X o (TSl X E (dOwn fl))) (hdb : (x == ("__debug__" : Str)) = false := by decide) (he : starEach [o] X.env = (false, eval o X.env) :: starEach [] X.env := by rfl)
    (hpl : (backTo pos (starEach [] X.env)).any (·.1) = false := by rfl) : PE X (.Call (.Name x p) [o] [] pos) (TD X E (dFnT g fl)) :=
  (pe_call F hr hg hm hk hb .nil hx (pa_cons ho pa_nil he) hdb he hpl).imp fun σ H Q ⟨F, ρ, S, h⟩ => by
    refine ⟨F, ρ, S, ?_⟩
    unfold dFnT at h
    unfold dOwn
    cases e : fl ρ with
    | stuck => rw [e] at h; exact h
    | err x ρ' => rw [e] at h; exact h
    | ok l ρ' =>
      rw [e, Res.ok_bind] at h
      intro H1 F1 S1 v ok fr
      obtain ⟨q, ws, ee, hq, fq, rl⟩ := ok
      cases ee
      obtain ⟨nq, q0⟩ := fr rfl q rfl
      refine ⟨rfl, F1, q, ws, l, [], [], rfl, S1.sat.sub, hq, fq, rl, rfl, ?_⟩
      have stp : ∀ {H' F' : Hp}, (∀ b o, H1 b = some o → b ≠ q → H' b = some o) → (∃ ws', H' q = some (.lst ws')) → Same F1 F' → Same F' H' → (∀ b o, H1 b = some o → F' b = F1 b) → Step X.K σ ρ H F ρ' H' F' := fun {H' F'} a1 a2 a3 a4 a5 => by
        have ne : ∀ b u, H b = some u → b ≠ q := fun b u e z => by
          subst z
          rw [q0] at e
          cases e
        have no : ∀ {b : Addr}, OwnA σ ρ' b → b ≠ q := fun z y => nq (y ▸ z)
        refine ⟨fun b u e n => a1 b u (S1.same b u e n) (ne b u e), S1.mono.trans a3, fun b u e n => (a5 b u (S1.same b u e n)).trans (S1.keep b u e n), S1.ownle, fun b u e => ?_, a4, S1.sat.len, fun j s e => ?_, S1.sat.dis⟩
        · obtain ⟨o', e'⟩ := S1.there b u e
          exact ⟨o', a1 b o' e' (ne b u e)⟩
        · obtain ⟨y, e1, ok2⟩ := S1.sat.sl j s e
          refine ⟨y, e1, ok2.mono a3 (fun b u eo ou z => a1 b u z (no ⟨j, s, e, ou, by rw [e1, eo]⟩)) fun b u eo ou z n => (a5 b u z).trans n⟩
      cases eg : g l [] with
      | ok d l' => rw [eg] at h; exact fun v H' F' ws' a1 a2 a3 a4 a5 a6 rv => h H' F' (stp a1 ⟨_, a2⟩ a3 a4 a5) v rv
      | err x l' => rw [eg] at h; exact fun c dd H' F' ws' a1 a2 a3 a4 a5 a6 rx => h c dd H' F' (stp a1 ⟨_, a2⟩ a3 a4 a5) rx
      | stuck => rw [eg] at h; exact h.elim
theorem dsl_callO {g : List D → FO} (F : FnOk X.prog X.w X.K X.mg X.base (CX X.prog X.w) k f fd ps (spO X.K X.mg n g)) (hr : Room k X.A) (hg : Gl X x) (hm : X.mg x = some (.ref f)) (hk : PySem.W.keepIn X.K (.ref f) = true) (hb : Binds X.K fd ps [])
    (hx : Passes (CX X.prog X.w) X E) (ha : PA X (e :: es) (TA X E fs)) (hdb : (x == ("__debug__" : Str)) = false := by decide) (he : starEach (e :: es) X.env = (false, eval e X.env) :: starEach es X.env := by rfl)
    (hpl : (backTo pos (starEach es X.env)).any (·.1) = false := by rfl) : PE X (.Call (.Name x p) (e :: es) [] pos) (TSl X E (dOwn (dFnO (fun l => if l.length = n then g l else .stuck) fs))) :=
  (pe_call F hr hg hm hk hb .nil hx ha hdb he hpl).imp fun σ H Q ⟨F, ρ, S, h⟩ => by
    refine ⟨F, ρ, S, h.bind.bind.mono fun ds ρ1 H1 F1 S1 h1 vs rs => ?_⟩
    dsimp only at h1
    by_cases hl : ds.length = n
    rotate_left
    · rw [if_neg hl] at h1
      exact h1.elim
    rw [if_pos hl] at h1
    refine ⟨by rw [List.append_nil, ← rs.length]; exact hl, F1, ds, S1.sat.sub, by rw [List.append_nil]; exact rs, ?_⟩
    cases eg : g ds with
    | ok l =>
      rw [eg] at h1
      intro q ws H' F' a1 a2 a3 a4 hq fq q0 rl
      have S2 : Step X.K σ ρ1 H1 F1 ρ1 H' F' := .still S1.sat a1 a2 a3 a4
      refine h1 _ _ S2 _ _ (.refl S2.sat) (.ref q) ⟨q, ws, rfl, hq, fq, rl⟩ ?_
      intro _ c ec
      cases ec
      refine ⟨fun z => ?_, ?_⟩
      · obtain ⟨⟨o', e'⟩, _⟩ := S1.sat.own_some z
        rw [q0] at e'
        cases e'
      · cases w : H q with
        | none => rfl
        | some u =>
          obtain ⟨o', e'⟩ := S1.there q u w
          rw [q0] at e'
          cases e'
    | err y => rw [eg] at h1; exact fun c dd H' F' a1 a2 a3 a4 rx => h1 c dd H' F' (.still S1.sat a1 a2 a3 a4) rx
    | stuck => rw [eg] at h1; exact h1.elim

/-! ### calls with keywords -/
theorem dk_nil : PK X [] (TA X E dNil) := ⟨fun pos pins s σ H Q I ⟨F, ρ, S, h⟩ => pk_nil.run pos pins s σ H Q I (h _ _ (.refl S) _ rfl)⟩
theorem dk_cons {nm : Option Str} {kpos : Pos} {kws : List Keyword} (ha : PE X e (TD X E fa)) (hr : PK X kws (TA X E fs)) : PK X (⟨nm, e, kpos⟩ :: kws) (TA X E (dCons fa fs)) :=
  ⟨fun pos pins s σ H Q I ⟨F, ρ, S, h⟩ => (pk_cons ha hr).run pos pins s σ H Q I ⟨F, ρ, S, h.bind.mono fun x ρ1 H1 F1 S1 h1 vx rx => ⟨F1, ρ1, S1.sat, h1.bind.mono fun xs ρ2 H2 F2 S2 h2 vs rs => h2 _ _ (.refl S2.sat) _ (.cons (rx.mono S2.mono) rs)⟩⟩⟩
/-- the items at some places -/
def pick {α : Type} (l : List α) : List Nat → List α
  | [] => []
  | i :: r => match l[i]? with
    | some x => x :: pick l r
    | none => pick l r
theorem pick_vals {vs : List V} {us : List Value} (r : Vals vs us) : ∀ ix : List Nat, Vals (pick vs ix) (pick us ix)
  | [] => .nil
  | i :: ix => by
    unfold pick
    cases e : vs[i]? with
    | none => rw [r.none_of e]; exact pick_vals r ix
    | some v =>
      obtain ⟨u, e2, rv⟩ := r.get e
      rw [e2]
      exact .cons rv (pick_vals r ix)
theorem RepL.pick {K : PySem.W.Frag} {F : Hp} {l : List D} {vs : List V} (r : RepL K F l vs) : ∀ ix : List Nat, RepL K F (pick l ix) (pick vs ix)
  | [] => rfl
  | i :: ix => by
    unfold DL.pick
    cases e : l[i]? with
    | none =>
      have h := List.getElem?_eq_none_iff.mp e
      have : vs[i]? = none := List.getElem?_eq_none_iff.mpr (by rw [← r.length]; exact h)
      rw [this]
      exact r.pick ix
    | some d =>
      obtain ⟨v, e2, rv⟩ := r.get e
      rw [e2]
      exact .cons rv (r.pick ix)
theorem kbn_of {K : PySem.W.Frag} {qual : Str} {params : Arguments} {body : List Stmt} {scope : Scope} {kws : List (Str × V)} (F : FunD K x qual params body scope [] kws f fd) (j : Nat) (ks : List Str) (ix : List Nat)
    (h : ∀ (kV doc pm : Value) (an : Option Addr) (cdv ct : Value) (us ws : List Value), us.length = j → ws.length = ks.length → bindArgs (PySem.W.fnOf x qual params body scope .none kV doc pm an cdv ct) ⟨us, ks.zip ws⟩ = pure (ps.zip (pick (us ++ ws) ix))) :
    KBn K fd ps j ks (fun us ws => pick (us ++ ws) ix) (fun vs zs => pick (vs ++ zs) ix) := by
  obtain ⟨oc, od, dV, kV, doc, pm, an, cdv, ct, osl, rfl, lk, hcd, hD, hK⟩ := F.ex
  rcases hD with ⟨_, rfl⟩ | ⟨e, _⟩
  · exact ⟨fun s us ws _ h1 h2 => .of_eq (h kV doc pm an cdv ct us ws h1 h2), fun r1 r2 => pick_vals (r1.append r2) ix⟩
  · exact absurd rfl e
def dFnK (j m n : Nat) (ix : List Nat) (g : List D → FR) (fs fk : Den (List D)) : Den D := fun ρ => (fs ρ).bind fun ds ρ1 => (fk ρ1).bind fun es ρ2 => if ds.length = j ∧ es.length = m ∧ (pick (ds ++ es) ix).length = n then frR (g (pick (ds ++ es) ix)) ρ2 else .stuck
theorem kw_of {j m : Nat} {ix : List Nat} {g : List D → FR} {fk : Den (List D)} {σ : St} {H : Hp} {Q : VK} (h : TD X E (dFnK j m n ix g fs fk) σ H Q) : tCallN j m (spA X.K X.mg n g) (fun vs zs => pick (vs ++ zs) ix) E (TA X E fs) (TA X E fk) σ H Q := by
  obtain ⟨F, ρ, S, h⟩ := h
  refine ⟨F, ρ, S, h.bind.mono fun ds ρ1 H1 F1 S1 h1 vs rs => ⟨F1, ρ1, S1.sat, h1.bind.mono fun es ρ2 H2 F2 S2 h2 ws rz => ?_⟩⟩
  by_cases hl : ds.length = j ∧ es.length = m ∧ (pick (ds ++ es) ix).length = n
  rotate_left
  · rw [if_neg hl] at h2
    exact h2.elim
  rw [if_pos hl] at h2
  exact ⟨by rw [← rs.length]; exact hl.1, by rw [← rz.length]; exact hl.2.1, fn_of' S2.sat (((rs.mono S2.mono).append rz).pick ix) hl.2.2 h2⟩
theorem de_callK {j : Nat} {ks : List Str} {kws : List Keyword} {ix : List Nat} {g : List D → FR} {fk : Den (List D)} (F : FnOk X.prog X.w X.K X.mg X.base (CX X.prog X.w) k f fd ps (spA X.K X.mg n g)) (hr : Room k X.A) (hg : Gl X x) (hm : X.mg x = some (.ref f)) (hk : PySem.W.keepIn X.K (.ref f) = true)
    (hb : KBn X.K fd ps j ks (fun us ws => pick (us ++ ws) ix) (fun vs zs => pick (vs ++ zs) ix)) (hx : Passes (CX X.prog X.w) X E) (ha : PA X (e :: es) (TA X E fs)) (hkw : PK X kws (TA X E fk))
    (hall : (backToKw pos (keywordEach kws X.env)).all (·.1.isSome) = true := by rfl) (hks : (backToKw pos (keywordEach kws X.env)).filterMap (·.1) = ks := by rfl)
    (hdb : (x == ("__debug__" : Str)) = false := by decide) (he : starEach (e :: es) X.env = (false, eval e X.env) :: starEach es X.env := by rfl)
    (hpl : ((backTo pos (starEach (e :: es) X.env)).any (·.1) || (backToKw pos (keywordEach kws X.env)).any (·.1.isNone)) = false := by rfl) : PE X (.Call (.Name x p) (e :: es) kws pos) (TD X E (dFnK j ks.length n ix g fs fk)) :=
  (pe_callN F hr hg hm hk hb hx ha hkw hall hks hdb he hpl).imp fun σ H Q h => kw_of h
theorem de_callK0 {ks : List Str} {kws : List Keyword} {ix : List Nat} {g : List D → FR} {fk : Den (List D)} (F : FnOk X.prog X.w X.K X.mg X.base (CX X.prog X.w) k f fd ps (spA X.K X.mg n g)) (hr : Room k X.A) (hg : Gl X x) (hm : X.mg x = some (.ref f)) (hk : PySem.W.keepIn X.K (.ref f) = true)
    (hb : KBn X.K fd ps 0 ks (fun us ws => pick (us ++ ws) ix) (fun vs zs => pick (vs ++ zs) ix)) (hx : Passes (CX X.prog X.w) X E) (hkw : PK X kws (TA X E fk))
    (hall : (backToKw pos (keywordEach kws X.env)).all (·.1.isSome) = true := by rfl) (hks : (backToKw pos (keywordEach kws X.env)).filterMap (·.1) = ks := by rfl)
    (hdb : (x == ("__debug__" : Str)) = false := by decide)
    (hpl : ((backTo pos (starEach [] X.env)).any (·.1) || (backToKw pos (keywordEach kws X.env)).any (·.1.isNone)) = false := by rfl) : PE X (.Call (.Name x p) [] kws pos) (TD X E (dFnK 0 ks.length n ix g dNil fk)) := by
  refine ⟨fun pins s σ H Q I h => ?_⟩
  obtain ⟨F0, ρ0, S0, h0⟩ := kw_of (fs := dNil) h
  obtain h1 := h0 H F0 (.refl S0) [] rfl
  refine wpAny_Call_Name_kw (ld_glob I hg hm ?_ hdb)
  refine PySem.W.callWith_KW0 (h₀ := X.base) I.ok.mod.kin hk hall (thn (hkw.run pos pins s σ H _ I h1) fun ws s2 ⟨zs, H2, I2, rz, l1, l2, q2⟩ => ⟨I2.kIn, ?_⟩) hpl
  rw [hks]
  exact run_fnN F hr hb hx I2 .nil rz l1 l2 q2

/-! ### isinstance -/
def tyD : D → Option String
  | .non => some "NoneType"
  | .bl _ => some "bool"
  | .int _ => some "int"
  | .str _ => some "str"
  | .tup _ => some "tuple"
  | .lst _ => some "list"
  | .dct _ _ => some "dict"
  | .dck _ _ => some "dict"
  | _ => none
def isiAny (t : String) : List String → Option Bool
  | [] => some false
  | c :: r => match kitB t c with
    | some true => some true
    | some false => isiAny t r
    | none => none
def tyNames : List D → Option (List String)
  | [] => some []
  | .ty n :: r => (tyNames r).map (n :: ·)
  | _ => none
def gIsi : List D → Option D
  | [d, .ty n] => match tyD d with
    | some t => (kitB t n).map .bl
    | none => none
  | _ => none
def gIsiT : List D → Option D
  | [d, .tup l] => match tyD d, tyNames l with
    | some t, some ns => (isiAny t ns).map .bl
    | _, _ => none
  | _ => none
theorem Rep.tyX {K : PySem.W.Frag} {F H : Hp} {d : D} {v : V} {t : String} (hs : Same F H) (r : Rep K F d v) (e : tyD d = some t) : TyX K H v (.type t) := by
  cases d <;> simp only [tyD] at e <;> cases e <;> simp only [Rep] at r
  · subst r; exact .base .non
  · subst r; exact .base (.bl _)
  · subst r; exact .base (.int _)
  · subst r; exact .base (.str _)
  · obtain ⟨a, vs, rfl, h, _⟩ := r
    exact .base (.tup (hs _ _ h))
  · obtain ⟨a, vs, rfl, h, _⟩ := r
    exact .base (.lst (hs _ _ h))
  · obtain ⟨a, vs, rfl, h, _⟩ := r
    exact .base (.dT (hs _ _ h))
  · obtain ⟨a, vs, rfl, h, _⟩ := r
    exact .base (.dK (hs _ _ h))
theorem isi_any {K : PySem.W.Frag} {t : String} : ∀ {ns : List String} {b : Bool}, isiAny t ns = some b → PySem.W.kitAny K (.type t) (ns.map .type) = some b
  | [], b, h => by cases h; rfl
  | c :: r, b, h => by
    unfold isiAny at h
    split at h
    · rename_i e
      cases h
      rw [List.map_cons]
      exact kitAny_cons (kit_ty e) (fun z => by cases z) fun _ => rfl
    · rename_i e
      rw [List.map_cons]
      exact kitAny_cons (kit_ty e) (fun _ => isi_any h) fun z => by cases z
    · cases h
theorem cd_isi : CallD X (.builtin "isinstance") gIsi := by
  refine ⟨_, call_isi, fun xs z vs σ H F ρ Q S rx e kk => ?_⟩
  unfold gIsi at e
  split at e
  · rename_i d n
    cases et : tyD d with
    | none => rw [et] at e; cases e
    | some t =>
      rw [et] at e
      dsimp only at e
      cases ek : kitB t n with
      | none => rw [ek] at e; cases e
      | some b =>
        rw [ek] at e
        cases e
        obtain ⟨v, w, rfl, rd, rw'⟩ := rx.two
        cases (show w = V.ty n from rw')
        exact ⟨v, .ty n, _, _, b, rfl, .ty n, rd.tyX S.sub et, kit_ty ek, kk _ _ _ (.refl S) rfl⟩
  · cases e
theorem tyNames_rep {K : PySem.W.Frag} {F : Hp} : ∀ {l : List D} {ns : List String} {vs : List V}, tyNames l = some ns → RepL K F l vs → Paired ClsV vs (ns.map .type)
  | [], ns, vs, h, r => by
    cases h
    cases (show vs = [] from r)
    exact .nil
  | .ty n :: l, ns, _, h, ⟨v, w, rfl, hv, hr⟩ => by
    unfold tyNames at h
    cases e : tyNames l with
    | none => rw [e] at h; cases h
    | some ms =>
      rw [e] at h
      cases h
      cases (show v = V.ty n from hv)
      exact .cons (.ty n) (tyNames_rep e hr)
  | .non :: _, _, _, h, _ => by cases h
  | .bl _ :: _, _, _, h, _ => by cases h
  | .int _ :: _, _, _, h, _ => by cases h
  | .str _ :: _, _, _, h, _ => by cases h
  | .tup _ :: _, _, _, h, _ => by cases h
  | .lst _ :: _, _, _, h, _ => by cases h
  | .dct _ _ :: _, _, _, h, _ => by cases h
  | .dck _ _ :: _, _, _, h, _ => by cases h
  | .scr _ :: _, _, _, h, _ => by cases h
  | .kt _ :: _, _, _, h, _ => by cases h
  | .exc _ _ _ :: _, _, _, h, _ => by cases h
theorem cd_isiT : CallD X (.builtin "isinstance") gIsiT := by
  refine ⟨_, call_isiT, fun xs z vs σ H F ρ Q S rx e kk => ?_⟩
  unfold gIsiT at e
  split at e
  · rename_i d l
    cases et : tyD d with
    | none => rw [et] at e; cases e
    | some t =>
      cases en : tyNames l with
      | none => rw [et, en] at e; cases e
      | some ns =>
        rw [et, en] at e
        dsimp only at e
        cases ek : isiAny t ns with
        | none => rw [ek] at e; cases e
        | some b =>
          rw [ek] at e
          cases e
          obtain ⟨v, w, rfl, rd, rw'⟩ := rx.two
          obtain ⟨p, ws, rfl, hp, r⟩ := rw'
          exact ⟨v, p, ws, _, _, b, rfl, S.sub _ _ hp, tyNames_rep en r, rd.tyX S.sub et, isi_any ek, kk _ _ _ (.refl S) rfl⟩
  · cases e
theorem de_ty {n : String} (hg : Gl X x) (hm : X.mg x = none) (hv : bootBuiltins x = some (.type n)) (hn : x ≠ "__name__" := by decide) (hdb : (x == ("__debug__" : Str)) = false := by decide) : PE X (.Name x pos) (TD X E (dC (.ty n))) :=
  de_const (pe_bltn (v := .ty n) hg hm hv rfl hn hdb) rfl

/-! ### new lists -/
def gFL : List D → Option (List D)
  | [.lst l] => some l
  | [.tup l] => some l
  | [.kt l] => some l
  | [.scr l] => some (l.map .int)
  | _ => none
def dCallF (g : List D → Option (List D)) (fs : Den (List D)) : Den (List D) := fun ρ => (fs ρ).bind fun xs ρ1 => Res.of (g xs) ρ1
/-- list(..) -/
theorem dsl_list (hg : Gl X "list") (hm : X.mg "list" = none) (ha : PA X (e :: es) (TA X E fs)) (he : starEach (e :: es) X.env = (false, eval e X.env) :: starEach es X.env := by rfl) (hpl : (backTo pos (starEach es X.env)).any (·.1) = false := by rfl) :
    PE X (.Call (.Name "list" p) (e :: es) [] pos) (TSl X E (dOwn (dCallF gFL fs))) :=
  (pe_callTy (call_list_of (X := X)) hg hm boot_list ha (by decide) (by decide) he hpl).imp fun σ H Q ⟨F, ρ, S, h⟩ => ⟨F, ρ, S, h.bind.bind.mono fun xs ρ1 H1 F1 S1 h1 vs rs => by
    obtain ⟨l, el, kk⟩ := h1.of
    have fin : ∀ q ws, H1 q = none → RepL X.K F1 l ws → Q (.ref q) (upd H1 q (.lst ws)) := fun q ws hq r =>
      kk _ _ (.allocOwn S1.sat hq) _ _ (.refl (Step.allocOwn S1.sat hq).sat) (.ref q) ⟨q, ws, rfl, upd_same, S1.sat.sub.free hq, r⟩ (fresh_of S1 hq)
    unfold gFL at el
    split at el
    · cases el
      obtain ⟨v, rfl, q, ws, rfl, hp, r⟩ := rs.one
      exact ⟨q, ws, rfl, .inl (.of (S1.sat.sub _ _ hp)), fun q' hq => fin q' ws hq r⟩
    · cases el
      obtain ⟨v, rfl, q, ws, rfl, hp, r⟩ := rs.one
      exact ⟨q, ws, rfl, .inr (.of (S1.sat.sub _ _ hp)), fun q' hq => fin q' ws hq r⟩
    · cases el
      obtain ⟨v, rfl, q, ws, rfl, hp, r⟩ := rs.one
      exact ⟨q, ws, rfl, .inr (same_sqT S1.sat.sub hp), fun q' hq => fin q' ws hq r⟩
    · cases el
      obtain ⟨v, rfl, q, rfl, hp⟩ := rs.one
      exact ⟨q, _, rfl, .inl (same_sqL S1.sat.sub hp), fun q' hq => fin q' _ hq (RepL.ints _)⟩
    · cases el⟩
/-- a or b, of new lists -/
def dOrF (fl fm : Den (List D)) : Den (List D) := fun ρ => (fl ρ).bind fun l ρ1 => if l.isEmpty = true then fm ρ1 else .ok l ρ1
theorem dsl_one {op : BoolOp} {f : Den Sl} (h : PE X a (TSl X E f)) : PE X (.BoolOp op [a] pos) (TSl X E f) := pe_one h
theorem FreshS.back {σ : St} {ρ1 : En} {H H1 : Hp} {s : Sl} {v : V} (f : FreshS σ ρ1 H1 s v) (h : ∀ b o, H b = some o → ∃ o', H1 b = some o') : FreshS σ ρ1 H s v := fun o c e => by
  obtain ⟨n, z⟩ := f o c e
  refine ⟨n, ?_⟩
  cases q : H c with
  | none => rfl
  | some u =>
    obtain ⟨o', e'⟩ := h c u q
    rw [z] at e'
    cases e'
theorem dsl_or (ha : PE X a (TSl X E (dOwn fl))) (hb : PE X (.BoolOp .Or (b :: rest) pos) (TSl X E (dOwn fm))) : PE X (.BoolOp .Or (a :: b :: rest) pos) (TSl X E (dOwn (dOrF fl fm))) :=
  (pe_orT ha hb).imp fun σ H Q ⟨F, ρ, S, h⟩ => by
    refine ⟨F, ρ, S, ?_⟩
    unfold dOwn dOrF at h
    unfold dOwn
    cases e : fl ρ with
    | stuck => rw [e] at h; exact h
    | err x ρ' => rw [e] at h; exact h
    | ok l ρ' =>
      rw [e] at h
      intro H1 F1 S1 v ok fr
      obtain ⟨q, ws, ee, hq, fq, rl⟩ := ok
      cases ee
      refine ⟨!ws.isEmpty, .inl ⟨ws, .of hq, rfl⟩, ?_⟩
      have hem : ws.isEmpty = l.isEmpty := by
        have := rl.length
        cases l with
        | nil => cases ws <;> first | rfl | simp at this
        | cons _ _ => cases ws <;> first | rfl | simp at this
      rw [hem]
      rw [Res.ok_bind] at h
      by_cases hl : l.isEmpty = true
      · rw [if_pos hl] at h
        rw [hl]
        rw [if_neg (by decide)]
        have h2 : good X.K X.mg E σ ρ' H1 F1 ((fm ρ').bind fun x ρ1 => .ok (Sl.own x) ρ1) fun s ρ'' H' F' => ∀ v, SlotOk X.K F' H' s (some v) → FreshS σ ρ'' H s v → Q v H' := by
          cases em : fm ρ' with
          | stuck => rw [em] at h; exact h
          | err x ρ'' => rw [em] at h; exact fun c dd H' F' S' => h c dd H' F' (S1.trans S')
          | ok l2 ρ'' => rw [em] at h; exact fun H' F' S' => h H' F' (S1.trans S')
        exact ⟨F1, ρ', S1.sat, h2.mono fun s ρ2 H2 F2 S2 k v ok fr => k v ok (fr.back S1.there)⟩
      · rw [if_neg hl] at h
        have : l.isEmpty = false := by simpa using hl
        rw [this]
        rw [if_pos (by rfl)]
        exact h H1 F1 S1 _ ⟨q, ws, rfl, hq, fq, rl⟩ fr
/-- [..] * n -/
def gRepF : D → D → Option (List D) := fun x y => match gRepL x y with
  | some (.lst l) => some l
  | _ => none
def dBinF (g : D → D → Option (List D)) (fa fb : Den D) : Den (List D) := fun ρ => (fa ρ).bind fun x ρ1 => (fb ρ1).bind fun y ρ2 => Res.of (g x y) ρ2
theorem dsl_rep (ha : PE X a (TD X E fa)) (hb : PE X b (TD X E fb)) : PE X (.BinOp a .Mult b pos) (TSl X E (dOwn (dBinF gRepF fa fb))) :=
  (pe_op op_rep ha hb).imp fun σ H Q ⟨F, ρ, S, h⟩ => ⟨F, ρ, S, h.bind.bind.mono fun x ρ1 H1 F1 S1 h1 vx rx => ⟨F1, ρ1, S1.sat, h1.bind.mono fun y ρ2 H2 F2 S2 h2 vy ry => by
    obtain ⟨l, el, kk⟩ := h2.of
    unfold gRepF gRepL at el
    have rx := rx.mono S2.mono
    cases x <;> cases y <;> simp only at el <;> try cases el
    rename_i l0 n
    split at el
    · rename_i l1 e1
      cases el
      split at e1
      · rename_i hz
        cases e1
        rw [Bool.and_eq_true] at hz
        have hz1 := of_decide_eq_true hz.1
        obtain ⟨q, ws, rfl, hq, rl⟩ := rx
        cases (show vy = V.int n from ry)
        refine ⟨q, n, ws, rfl, rfl, S2.sat.sub _ _ hq, hz1.1, hz1.2, by rw [← rl.length]; exact sz_line hz.2, fun q' hq' => ?_⟩
        have S12 := S1.trans S2
        exact kk _ _ (.allocOwn S2.sat hq') _ _ (.refl (Step.allocOwn S2.sat hq').sat) (.ref q') ⟨q', _, rfl, upd_same, S2.sat.sub.free hq', rl.rep _⟩ (fresh_of S12 hq')
      · cases e1
    · cases el⟩⟩
/-- *e among the items -/
def dStar (fa : Den D) (fr : Den (List D)) : Den (List D) := fun ρ => (fa ρ).bind fun x ρ1 => match seqD x with
  | some l => (fr ρ1).bind fun xs ρ2 => .ok (l ++ xs) ρ2
  | none => .stuck
theorem da_star {sp : Pos} (he : PE X e (TD X E fa)) (hr : PA X es (TA X E fs)) (hs : starEach (.Starred e sp :: es) X.env = (true, eval e X.env) :: starEach es X.env := by rfl) : PA X (.Starred e sp :: es) (TA X E (dStar fa fs)) :=
  (StX.pa_star he hr hs).imp fun σ H Q ⟨F, ρ, S, h⟩ => ⟨F, ρ, S, h.bind.mono fun x ρ1 H1 F1 S1 h1 vx rx => by
    cases el : seqD x with
    | none => rw [el] at h1; exact h1.elim
    | some l =>
      rw [el] at h1
      have fin : ∀ ws, RepL X.K F1 l ws → TA X E fs σ H1 fun ys H2 => Q (ws ++ ys) H2 := fun ws r => ⟨F1, ρ1, S1.sat, h1.bind.mono fun xs ρ2 H2 F2 S2 h2 vs rs => h2 _ _ (.refl S2.sat) _ ((r.mono S2.mono).append rs)⟩
      cases x <;> simp only [seqD] at el <;> cases el
      · obtain ⟨q, ws, rfl, hq, r⟩ := rx
        exact ⟨q, ws, rfl, .inl (.of (S1.sat.sub _ _ hq)), fin ws r⟩
      · obtain ⟨q, ws, rfl, hq, r⟩ := rx
        exact ⟨q, ws, rfl, .inr (.of (S1.sat.sub _ _ hq)), fin ws r⟩
      · obtain ⟨q, ws, rfl, hq, r⟩ := rx
        exact ⟨q, ws, rfl, .inl (same_sqT S1.sat.sub hq), fin ws r⟩⟩
end
end DL

namespace DL
open PySem PySem.Spec PyProof.Rows L2

/-! ### zip, enumerate -/
def Sd (K : PySem.W.Frag) (k : Bool) (H : Hp) (a : Addr) (xs : List V) : Prop := match k with | true => SqL K H a xs | false => SqT K H a xs
def StI (k : Bool) (it a : Addr) (i : Nat) (h : Heap) : Prop := match k with | true => h.IsListIter it a i | false => h.IsTupleIter it a i
def CtI (k : Bool) (h : Heap) (a : Addr) (its : Array Value) : Prop := match k with | true => h.IsList a its | false => h.IsTuple a its
def itObj (k : Bool) (a : Addr) : Obj := match k with | true => { cls := .type "list_iterator", data := .fields #[.ref a, .int 0 0] } | false => { cls := .type "tuple_iterator", data := .fields #[.ref a, .int 0 0] }
section
variable {X : Cx} {pins : List (Addr × Obj)} {σ : St} {H : Hp} {s : Shared} {k : Bool} {a it : Addr} {xs ys : List V} {i : Nat} {h h' : Heap}
theorem Sd.mono {K : PySem.W.Frag} {F F' : Hp} (e : Same F F') (q : Sd K k F a xs) : Sd K k F' a xs := by
  cases k
  · exact same_sqT e q
  · exact same_sqL e q
theorem Sd.held (q : Sd X.K k H a xs) (I : Inv X pins σ H s) : ∃ its : List Value, Vals xs its ∧ CtI k s.heap a its.toArray ∧ xs.length ≤ sizeLine := by
  cases k
  · exact I.tuple q
  · obtain ⟨its, r, p, z⟩ := I.list q
    exact ⟨its, r, p.isList, z⟩
theorem Sd.inj (q : Sd X.K k H a xs) (r : Sd X.K k H a ys) (I : Inv X pins σ H s) : xs = ys := by
  cases k
  · exact I.tuple_inj q r
  · exact I.list_inj q r
theorem StI.lt (q : StI k it a i h) : it < h.objs.size := by
  cases k <;> (obtain ⟨o, e, _⟩ := q; exact Heap.lt_size e)
theorem CtI.lt {its : Array Value} (q : CtI k h a its) : a < h.objs.size := by
  cases k <;> (obtain ⟨o, e, _⟩ := q; exact Heap.lt_size e)
theorem CtI.keeps {its : Array Value} (q : CtI k h a its) (kp : ∀ b o, h.get? b = some o → h'.get? b = some o) : CtI k h' a its := by
  cases k <;> (obtain ⟨o, e, r⟩ := q; exact ⟨o, kp _ _ e, r⟩)
theorem CtI.ne {its : Array Value} (q : CtI k h a its) {k' : Bool} {b : Addr} (r : StI k' it b i h) : a ≠ it := by
  rintro rfl
  cases k <;> cases k' <;> (obtain ⟨o, e, c, _⟩ := q; obtain ⟨o', e', c', _⟩ := r; rw [e] at e'; cases e'; rw [c] at c'; injection c' with c'; exact absurd c' (by decide))
theorem StI.obj (q : StI k it a i h) : ∃ o, h.get? it = some o ∧ ∀ v, o.data ≠ .cell v := by
  cases k <;> (obtain ⟨o, e, _, d⟩ := q; exact ⟨o, e, fun v z => by rw [d] at z; cases z⟩)
theorem StI.at (q : StI k it a i h) (kp : ∀ o, h.get? it = some o → h'.get? it = some o) : StI k it a i h' := by
  cases k <;> (obtain ⟨o, e, r⟩ := q; exact ⟨o, kp _ e, r⟩)
theorem draws_sd {prog : Program} {w : World} {A : Around} (k : Bool) (hh : A.handled = none) (it a : Addr) (hne : a ≠ it) (items : Array Value) :
    Draws prog w A it [it, a] items.size (fun i v => items[i]? = some v) (fun i h => StI k it a i h ∧ CtI k h a items) := by
  cases k
  · exact .tuple hh it a hne items
  · exact .list hh it a hne items
theorem begins_sd (k : Bool) (a : Addr) (items : Array Value) : Begins (.ref a) (itObj k a) fun h => CtI k h a items := by
  cases k
  · exact begins_tuple a items
  · exact begins_list a items
theorem stI_obj (e : h.get? it = some (itObj k a)) : StI k it a 0 h := by
  cases k <;> exact ⟨_, e, rfl, rfl⟩
end
def Jt (g : Nat → Hp → Prop) (c : Nat → Hp → List V → Prop) (e : Nat → Hp → Prop) : It :=
  ⟨g, fun i H v H' => ∃ T xs, v = .ref T ∧ H T = none ∧ c i H xs ∧ H' = upd H T (.tup xs), e⟩
structure GoOf (X : Cx) (s : Shared) (tg : Expr) (it : Addr) (fp : List Addr) (tn : Nat → Heap → Prop) (i : Nat) (C : List V → Prop) : Prop where
  go : ∃ (xs : List V) (fpG wr : List Addr) (n : Nat) (Y : Nat → Heap → Value → Heap → Prop) (St : Nat → Heap → Prop), C xs ∧ GoesN X.prog X.w X.A tg it fpG wr n Y St ∧ (∀ b ∈ wr, b ∈ fp) ∧ i < n ∧ St i s.heap ∧ xs.length ≤ sizeLine ∧
    (∀ v h', Y i s.heap v h' → ∃ T us, v = .ref T ∧ s.heap.objs.size ≤ T ∧ h'.IsTuple T us ∧ Vals xs us.toList) ∧ ∀ h', St (i + 1) h' → tn (i + 1) h'
structure StopOf (X : Cx) (s : Shared) (tg : Expr) (it : Addr) (fp : List Addr) (i : Nat) : Prop where
  go : ∃ (fpG wr : List Addr) (Y : Nat → Heap → Value → Heap → Prop) (St : Nat → Heap → Prop), GoesN X.prog X.w X.A tg it fpG wr i Y St ∧ (∀ b ∈ wr, b ∈ fp) ∧ St i s.heap
theorem turn_of {P : Program} {w : World} {K : PySem.W.Frag} {tg : Expr} {g : Nat → Hp → Prop} {c : Nat → Hp → List V → Prop} {e : Nat → Hp → Prop} {fp : List Addr} {it : Addr} {tn : Nat → Heap → Prop} (mem : it ∈ fp)
    (obj : ∀ i h, tn i h → ∀ b ∈ fp, ∃ o, h.get? b = some o ∧ ∀ v, o.data ≠ .cell v) (keep : ∀ i h h', tn i h → (∀ b ∈ fp, ∀ o, h.get? b = some o → h'.get? b = some o) → tn i h')
    (self : ∀ (A : Around) (i : Nat) (s : Shared) (Q : Value → Shared → Prop) (E : Value → Shared → Prop), tn i s.heap → Q (.ref it) s → wpAny (model P w) A (pyIter (.ref it)) Q E s)
    (go : ∀ (X : Cx) (i : Nat) (pins : List (Addr × Obj)) (s : Shared) (σ : St) (H : Hp), X.prog = P → X.w = w → X.K = K → X.A.handled = none → Inv X pins σ H s → tn i s.heap → g i H → GoOf X s tg it fp tn i (c i H))
    (stop : ∀ (X : Cx) (i : Nat) (pins : List (Addr × Obj)) (s : Shared) (σ : St) (H : Hp), X.prog = P → X.w = w → X.K = K → X.A.handled = none → Inv X pins σ H s → tn i s.heap → e i H → StopOf X s tg it fp i) :
    Turn P w K tg (Jt g c e) fp it tn where
  mem := mem
  obj := obj
  keep := keep
  item := by
    intro X hP hw hK hc i pins s σ H E I hf st hg
    obtain ⟨xs, fpG, wr, n, Y, St, hC, G, hwr, hi, hst, hz, hY, hn⟩ := (go X i pins s σ H hP hw hK (I.ok.hd hc) I st hg).go
    subst hP hw hK
    refine (G.goes i s (fun u s2 => ∃ x H', Inv X pins σ H' s2 ∧ RelV x u ∧ (Jt g c e).yld i H x H' ∧ tn (i + 1) s2.heap ∧ ∀ b ∈ fp, H' b = none) E hi hst fun v h' tk hv hs' hk htk => ?_)
    obtain ⟨T, us, rfl, hT, tp, hus⟩ := hY v h' hv
    have new : ObjOk X.prog X.w (upd H T (.tup xs)) h' T (.tup xs) := ⟨hz, us.toList, hus, by rw [show us.toList.toArray = us from Array.toArray_toList]; exact tp⟩
    refine ⟨.ref T, _, I.turnedNew (t' := tk) (ch := fp) (fun b o hb q => hk b o (fun z => hb (hwr b z)) q) hf hT new, rfl, ⟨T, xs, rfl, I.hok.fresh hT, hC, rfl⟩, hn _ hs', fun b hb => ?_⟩
    obtain ⟨o, ho, _⟩ := obj i _ st b hb
    rw [upd_ne (Nat.ne_of_lt (Nat.lt_of_lt_of_le (Heap.lt_size ho) hT))]
    exact (hf b hb).1
  done := by
    intro X hP hw hK hc i pins s σ H E I hf st hg
    obtain ⟨fpG, wr, Y, St, G, hwr, hst⟩ := (stop X i pins s σ H hP hw hK (I.ok.hd hc) I st hg).go
    subst hP hw hK
    exact G.stops s (fun s1 => Inv X pins σ H s1) E hst fun h' tk hk htk => I.turnedL (t' := tk) (ch := fp) (fun b o hb q => hk b o (fun z => hb (hwr b z)) q) hf
  self := self

/-- zip of two -/
def Jz2 (K : PySem.W.Frag) (k1 k2 : Bool) (a b : Addr) : It :=
  Jt (fun i H => ∃ (xs ys : List V) (x y : V), Sd K k1 H a xs ∧ Sd K k2 H b ys ∧ xs[i]? = some x ∧ ys[i]? = some y)
    (fun i H vs => ∃ x y, vs = [x, y] ∧ (∀ xs, Sd K k1 H a xs → xs[i]? = some x) ∧ ∀ ys, Sd K k2 H b ys → ys[i]? = some y)
    fun i H => ∃ xs ys : List V, Sd K k1 H a xs ∧ Sd K k2 H b ys ∧ min xs.length ys.length = i
theorem turn_zip2 {P : Program} {w : World} {K : PySem.W.Frag} {elts : List Expr} {kk : Nat} {tpos : Pos} {k1 k2 : Bool} {a b z TI TO i1 i2 : Addr} (D : ZipSep2 z TI TO i1 i2 [i1, a] [i2, b]) :
    Turn P w K (.Tuple elts kk tpos) (Jz2 K k1 k2 a b) [z, TI, TO, i1, i2] z (fun i h => IsZip h z TI TO .none ∧ IsTupOf2 h TI (.ref i1) (.ref i2) ∧ (∃ x y, IsTupOf2 h TO x y) ∧ StI k1 i1 a i h ∧ StI k2 i2 b i h) := by
  refine turn_of (by simp) (fun i h st c hc => ?_) (fun i h h' st k => ?_) (fun A i s Q E st h => wpAny_pyIter_zip st.1 h) (fun X i pins s σ H hP hw hK hh I st hg => ?_) fun X i pins s σ H hP hw hK hh I st hg => ?_
  · obtain ⟨hz, hTI, ⟨x, y, hTO⟩, h1, h2⟩ := st
    have e' : c = z ∨ c = TI ∨ c = TO ∨ c = i1 ∨ c = i2 := by simpa using hc
    rcases e' with q | q | q | q | q
    · rw [q]; exact ⟨_, hz, fun v q => nomatch q⟩
    · rw [q]; exact ⟨_, hTI, fun v q => nomatch q⟩
    · rw [q]; exact ⟨_, hTO, fun v q => nomatch q⟩
    · rw [q]; exact h1.obj
    · rw [q]; exact h2.obj
  · obtain ⟨hz, hTI, ⟨x, y, hTO⟩, h1, h2⟩ := st
    exact ⟨k z (by simp) _ hz, k TI (by simp) _ hTI, ⟨x, y, k TO (by simp) _ hTO⟩, h1.at fun o q => k i1 (by simp) o q, h2.at fun o q => k i2 (by simp) o q⟩
  · subst hP hw hK
    obtain ⟨hz, hTI, hTO, h1, h2⟩ := st
    obtain ⟨xs, ys, x, y, q1, q2, e1, e2⟩ := hg
    obtain ⟨us, r1, c1, _⟩ := q1.held I
    obtain ⟨ws, r2, c2, _⟩ := q2.held I
    obtain ⟨u, hu, ru⟩ := r1.get e1
    obtain ⟨u2, hu2, ru2⟩ := r2.get e2
    refine ⟨⟨[x, y], _, _, _, _, _, ⟨x, y, rfl, fun l hl => by rw [hl.inj q1 I]; exact e1, fun l hl => by rw [hl.inj q2 I]; exact e2⟩, GoesN.zip2 D (draws_sd (prog := X.prog) (w := X.w) (A := X.A.in1) k1 hh i1 a (c1.ne h1) us.toArray) (draws_sd (prog := X.prog) (w := X.w) (A := X.A.in1) k2 hh i2 b (c2.ne h2) ws.toArray), by simp, ?_, ⟨hz, hTI, hTO, ⟨h1, c1⟩, ⟨h2, c2⟩⟩, by show 2 ≤ sizeLine; decide, ?_, fun h' st' => ?_⟩⟩
    · have := (List.getElem?_eq_some_iff.mp hu).1
      have := (List.getElem?_eq_some_iff.mp hu2).1
      simp only [List.size_toArray]
      omega
    · rintro v h' ⟨T, p, q, rfl, hT, hp, hq, tp⟩
      have hp : us[i]? = some p := by simpa using hp
      have hq : ws[i]? = some q := by simpa using hq
      rw [hu] at hp
      rw [hu2] at hq
      cases hp
      cases hq
      exact ⟨T, _, rfl, hT, tp, .cons ru (.cons ru2 .nil)⟩
    · exact ⟨st'.1, st'.2.1, st'.2.2.1, st'.2.2.2.1.1, st'.2.2.2.2.1⟩
  · subst hP hw hK
    obtain ⟨hz, hTI, hTO, h1, h2⟩ := st
    obtain ⟨xs, ys, q1, q2, e⟩ := hg
    obtain ⟨us, r1, c1, _⟩ := q1.held I
    obtain ⟨ws, r2, c2, _⟩ := q2.held I
    have l1 := r1.length
    have l2 := r2.length
    have e' : min us.toArray.size ws.toArray.size = i := by
      simp only [List.size_toArray]
      omega
    subst e'
    exact ⟨⟨_, _, _, _, GoesN.zip2 D (draws_sd (prog := X.prog) (w := X.w) (A := X.A.in1) k1 hh i1 a (c1.ne h1) us.toArray) (draws_sd (prog := X.prog) (w := X.w) (A := X.A.in1) k2 hh i2 b (c2.ne h2) ws.toArray), by simp, ⟨hz, hTI, hTO, ⟨h1, c1⟩, ⟨h2, c2⟩⟩⟩⟩
/-- zip of three -/
def Jz3 (K : PySem.W.Frag) (k1 k2 k3 : Bool) (a b c : Addr) : It :=
  Jt (fun i H => ∃ (xs ys zs : List V) (x y z : V), Sd K k1 H a xs ∧ Sd K k2 H b ys ∧ Sd K k3 H c zs ∧ xs[i]? = some x ∧ ys[i]? = some y ∧ zs[i]? = some z)
    (fun i H vs => ∃ x y z, vs = [x, y, z] ∧ (∀ xs, Sd K k1 H a xs → xs[i]? = some x) ∧ (∀ ys, Sd K k2 H b ys → ys[i]? = some y) ∧ ∀ ys, Sd K k3 H c ys → ys[i]? = some z)
    fun i H => ∃ xs ys zs : List V, Sd K k1 H a xs ∧ Sd K k2 H b ys ∧ Sd K k3 H c zs ∧ min (min xs.length ys.length) zs.length = i
theorem turn_zip3 {P : Program} {w : World} {K : PySem.W.Frag} {elts : List Expr} {kk : Nat} {tpos : Pos} {k1 k2 k3 : Bool} {a b c z TI TO i1 i2 i3 : Addr} (D : ZipSep3 z TI TO i1 i2 i3 [i1, a] [i2, b] [i3, c]) :
    Turn P w K (.Tuple elts kk tpos) (Jz3 K k1 k2 k3 a b c) [z, TI, TO, i1, i2, i3] z (fun i h => IsZip h z TI TO .none ∧ IsTupOf3 h TI (.ref i1) (.ref i2) (.ref i3) ∧ (∃ x y u, IsTupOf3 h TO x y u) ∧ StI k1 i1 a i h ∧ StI k2 i2 b i h ∧ StI k3 i3 c i h) := by
  refine turn_of (by simp) (fun i h st c hc => ?_) (fun i h h' st k => ?_) (fun A i s Q E st h => wpAny_pyIter_zip st.1 h) (fun X i pins s σ H hP hw hK hh I st hg => ?_) fun X i pins s σ H hP hw hK hh I st hg => ?_
  · obtain ⟨hz, hTI, ⟨x, y, u, hTO⟩, h1, h2, h3⟩ := st
    have e' : c = z ∨ c = TI ∨ c = TO ∨ c = i1 ∨ c = i2 ∨ c = i3 := by simpa using hc
    rcases e' with q | q | q | q | q | q
    · rw [q]; exact ⟨_, hz, fun v q => nomatch q⟩
    · rw [q]; exact ⟨_, hTI, fun v q => nomatch q⟩
    · rw [q]; exact ⟨_, hTO, fun v q => nomatch q⟩
    · rw [q]; exact h1.obj
    · rw [q]; exact h2.obj
    · rw [q]; exact h3.obj
  · obtain ⟨hz, hTI, ⟨x, y, u, hTO⟩, h1, h2, h3⟩ := st
    exact ⟨k z (by simp) _ hz, k TI (by simp) _ hTI, ⟨x, y, u, k TO (by simp) _ hTO⟩, h1.at fun o q => k i1 (by simp) o q, h2.at fun o q => k i2 (by simp) o q, h3.at fun o q => k i3 (by simp) o q⟩
  · subst hP hw hK
    obtain ⟨hz, hTI, hTO, h1, h2, h3⟩ := st
    obtain ⟨xs, ys, zs, x, y, z', q1, q2, q3, e1, e2, e3⟩ := hg
    obtain ⟨us, r1, c1, _⟩ := q1.held I
    obtain ⟨ws, r2, c2, _⟩ := q2.held I
    obtain ⟨ws3, r3, c3, _⟩ := q3.held I
    obtain ⟨u, hu, ru⟩ := r1.get e1
    obtain ⟨u2, hu2, ru2⟩ := r2.get e2
    obtain ⟨u3, hu3, ru3⟩ := r3.get e3
    refine ⟨⟨[x, y, z'], _, _, _, _, _, ⟨x, y, z', rfl, fun l hl => by rw [hl.inj q1 I]; exact e1, fun l hl => by rw [hl.inj q2 I]; exact e2, fun l hl => by rw [hl.inj q3 I]; exact e3⟩, GoesN.zip3 D (draws_sd (prog := X.prog) (w := X.w) (A := X.A.in1) k1 hh i1 a (c1.ne h1) us.toArray) (draws_sd (prog := X.prog) (w := X.w) (A := X.A.in1) k2 hh i2 b (c2.ne h2) ws.toArray) (draws_sd (prog := X.prog) (w := X.w) (A := X.A.in1) k3 hh i3 c (c3.ne h3) ws3.toArray), by simp, ?_, ⟨hz, hTI, hTO, ⟨h1, c1⟩, ⟨h2, c2⟩, ⟨h3, c3⟩⟩, by show 3 ≤ sizeLine; decide, ?_, fun h' st' => ?_⟩⟩
    · have := (List.getElem?_eq_some_iff.mp hu).1
      have := (List.getElem?_eq_some_iff.mp hu2).1
      have := (List.getElem?_eq_some_iff.mp hu3).1
      simp only [List.size_toArray]
      omega
    · rintro v h' ⟨T, p, q, r, rfl, hT, hp, hq, hr, tp⟩
      have hp : us[i]? = some p := by simpa using hp
      have hq : ws[i]? = some q := by simpa using hq
      have hr : ws3[i]? = some r := by simpa using hr
      rw [hu] at hp
      rw [hu2] at hq
      rw [hu3] at hr
      cases hp
      cases hq
      cases hr
      exact ⟨T, _, rfl, hT, tp, .cons ru (.cons ru2 (.cons ru3 .nil))⟩
    · exact ⟨st'.1, st'.2.1, st'.2.2.1, st'.2.2.2.1.1, st'.2.2.2.2.1.1, st'.2.2.2.2.2.1⟩
  · subst hP hw hK
    obtain ⟨hz, hTI, hTO, h1, h2, h3⟩ := st
    obtain ⟨xs, ys, zs, q1, q2, q3, e⟩ := hg
    obtain ⟨us, r1, c1, _⟩ := q1.held I
    obtain ⟨ws, r2, c2, _⟩ := q2.held I
    obtain ⟨ws3, r3, c3, _⟩ := q3.held I
    have l1 := r1.length
    have l2 := r2.length
    have l3 := r3.length
    have e' : min (min us.toArray.size ws.toArray.size) ws3.toArray.size = i := by
      simp only [List.size_toArray]
      omega
    subst e'
    exact ⟨⟨_, _, _, _, GoesN.zip3 D (draws_sd (prog := X.prog) (w := X.w) (A := X.A.in1) k1 hh i1 a (c1.ne h1) us.toArray) (draws_sd (prog := X.prog) (w := X.w) (A := X.A.in1) k2 hh i2 b (c2.ne h2) ws.toArray) (draws_sd (prog := X.prog) (w := X.w) (A := X.A.in1) k3 hh i3 c (c3.ne h3) ws3.toArray), by simp, ⟨hz, hTI, hTO, ⟨h1, c1⟩, ⟨h2, c2⟩, ⟨h3, c3⟩⟩⟩⟩
/-- enumerate -/
def Jen (K : PySem.W.Frag) (k : Bool) (a : Addr) : It :=
  Jt (fun i H => ∃ (xs : List V) (x : V), Sd K k H a xs ∧ xs[i]? = some x)
    (fun i H vs => ∃ x, vs = [.int (i : Nat), x] ∧ ∀ xs, Sd K k H a xs → xs[i]? = some x)
    fun i H => ∃ xs : List V, Sd K k H a xs ∧ xs.length = i
theorem turn_en {P : Program} {w : World} {K : PySem.W.Frag} {elts : List Expr} {kk : Nat} {tpos : Pos} {k : Bool} {a e it : Addr} (hei : e ≠ it) (hea : e ≠ a) :
    Turn P w K (.Tuple elts kk tpos) (Jen K k a) [e, it] e (fun i h => (∃ old, IsEnum h e it (0 + (i : Int)) old) ∧ StI k it a i h) := by
  have hef : e ∉ [it, a] := by simp [hei, hea]
  refine turn_of (by simp) (fun i h st c hc => ?_) (fun i h h' st k => ?_) (fun A i s Q E st h => st.1.elim fun _ he => wpAny_pyIter_enum he h) (fun X i pins s σ H hP hw hK hh I st hg => ?_) fun X i pins s σ H hP hw hK hh I st hg => ?_
  · obtain ⟨⟨old, he⟩, h1⟩ := st
    have e' : c = e ∨ c = it := by simpa using hc
    rcases e' with q | q
    · rw [q]; exact ⟨_, he, fun v q => nomatch q⟩
    · rw [q]; exact h1.obj
  · obtain ⟨⟨old, he⟩, h1⟩ := st
    exact ⟨⟨old, k e (by simp) _ he⟩, h1.at fun o q => k it (by simp) o q⟩
  · subst hP hw hK
    obtain ⟨he, h1⟩ := st
    obtain ⟨xs, x, q1, e1⟩ := hg
    obtain ⟨us, r1, c1, _⟩ := q1.held I
    obtain ⟨u, hu, ru⟩ := r1.get e1
    refine ⟨⟨[.int (i : Nat), x], _, _, _, _, _, ⟨x, rfl, fun l hl => by rw [hl.inj q1 I]; exact e1⟩, GoesN.enumFrom 0 (draws_sd (prog := X.prog) (w := X.w) (A := X.A.in1) k hh it a (c1.ne h1) us.toArray) e hei hef (by simp), by simp, ?_, ⟨he, h1, c1⟩, by show 2 ≤ sizeLine; decide, ?_, fun h' st' => ?_⟩⟩
    · have := (List.getElem?_eq_some_iff.mp hu).1
      simp only [List.size_toArray]
      omega
    · rintro v h' ⟨T, t, p, rfl, hT, hp, tp⟩
      have hp : us[i]? = some p := by simpa using hp
      rw [hu] at hp
      cases hp
      rw [Int.zero_add] at tp
      exact ⟨T, _, rfl, hT, tp, .cons ⟨_, rfl⟩ (.cons ru .nil)⟩
    · exact ⟨st'.1, st'.2.1⟩
  · subst hP hw hK
    obtain ⟨he, h1⟩ := st
    obtain ⟨xs, q1, e⟩ := hg
    obtain ⟨us, r1, c1, _⟩ := q1.held I
    have l1 := r1.length
    have e' : us.toArray.size = i := by
      simp only [List.size_toArray]
      omega
    subst e'
    exact ⟨⟨_, _, _, _, GoesN.enumFrom 0 (draws_sd (prog := X.prog) (w := X.w) (A := X.A.in1) k hh it a (c1.ne h1) us.toArray) _ hei hef (by simp), by simp, ⟨he, h1, c1⟩⟩⟩
end DL

namespace DL
open PySem PySem.Spec PyProof.Rows L2

theorem sub_enum : isSubtype (.type "enumerate") (.type "enumerate") = pure true := by rw [isSubtype_type]; kernel_rfl
theorem meets_enum1 {v : Value} {o : Obj} {H : Heap → Prop} (B : Begins v o H) :
    Meets (Builtin.«enumerate.__new__» ⟨[.type "enumerate", v], []⟩) (fun _ R s => H s.heap ∧
      R (.ok (.ret (.ref (s.heap.push o).objs.size))) { s with heap := (s.heap.push o).push { cls := .type "enumerate", data := .fields #[.none, .bool false, .ref s.heap.objs.size, rawInt 0, .none, .none] } }) :=
  .of_wp fun prog w A R s h => by
    obtain ⟨hp, g, d, tk, os⟩ := s; obtain ⟨h1, h⟩ := h
    have hsub := sub_enum
    have q1 : ∀ {A' : Around} {E : Value → Shared → Prop} {Q : Value → Shared → Prop}, Q (.ref hp.objs.size) ⟨hp.push o, g, d, tk, os⟩ → wpAny (model prog w) A' (pyIter v) Q E ⟨hp, g, d, tk, os⟩ :=
      fun q => B.iter prog w _ _ ⟨hp, g, d, tk, os⟩ _ h1 q
    wp_walk using q1
    refine wpAny_stack_any fun st => wpAny_pure ?_
    split
    · rename_i c _ _ _ _ _
      cases (c == Value.type "enumerate")
      · wp_walk using q1
        exact ⟨_, rfl, h⟩
      · wp_walk using q1
        exact ⟨_, rfl, h⟩
    · wp_walk using q1
      exact ⟨_, rfl, h⟩
theorem enum1_begins {prog : Program} {w : World} {A : Around} {E : Value → Shared → Prop} {s : Shared} {v : Value} {o : Obj} {H : Heap → Prop} {Q : Value → Shared → Prop} (B : Begins v o H) (h1 : H s.heap)
    (h : ∀ h', IsEnum h' (s.heap.objs.size + 1) s.heap.objs.size 0 .none → h'.get? s.heap.objs.size = some o → h'.objs.size = s.heap.objs.size + 2 →
      (∀ b o, s.heap.get? b = some o → h'.get? b = some o) → Q (.ref (s.heap.objs.size + 1)) { s with heap := h' }) :
    wpAny (model prog w) A (call (.type "enumerate") [v]) Q E s := by
  refine callType_new F.called_enumerate (by decide) (F.typeCall_enumerate_1 _) (F.newCall_enumerate_1 _) (fun obj => F.args_object_init_2 obj _) F.entry_enumerate_new
    (meets_enum1 B) ⟨h1, ?_⟩
  have hz : (s.heap.push o).objs.size = s.heap.objs.size + 1 := Heap.size_push ..
  show _ ∧ _
  rw [hz]
  have he : IsEnum ((s.heap.push o).push { cls := .type "enumerate", data := .fields #[.none, .bool false, .ref s.heap.objs.size, rawInt 0, .none, .none] }) (s.heap.objs.size + 1) s.heap.objs.size 0 .none := by
    have := Heap.get?_push_size (s.heap.push o) (o := { cls := .type "enumerate", data := .fields #[.none, .bool false, .ref s.heap.objs.size, rawInt 0, .none, .none] }) rfl
    rw [hz] at this; exact this
  refine ⟨⟨_, he, rfl⟩, h _ he (Heap.get?_push_of_some _ (Heap.get?_push_size _ B.free)) (by rw [Heap.size_push, hz]) fun b o x => Heap.get?_push_of_some _ (Heap.get?_push_of_some _ x)⟩

def iZip2 (K : PySem.W.Frag) (ta : L2.TA) : TI := fun σ H R => ta σ H fun vs H1 => ∃ k1 k2 a b xs ys, vs = [.ref a, .ref b] ∧ Sd K k1 H1 a xs ∧ Sd K k2 H1 b ys ∧ (xs.length ≤ sizeLine → R (Jz2 K k1 k2 a b) H1)
def iZip3 (K : PySem.W.Frag) (ta : L2.TA) : TI := fun σ H R => ta σ H fun vs H1 => ∃ k1 k2 k3 a b c xs ys zs, vs = [.ref a, .ref b, .ref c] ∧ Sd K k1 H1 a xs ∧ Sd K k2 H1 b ys ∧ Sd K k3 H1 c zs ∧ (xs.length ≤ sizeLine → R (Jz3 K k1 k2 k3 a b c) H1)
def iEn (K : PySem.W.Frag) (ta : L2.TA) : TI := fun σ H R => ta σ H fun vs H1 => ∃ k a xs, vs = [.ref a] ∧ Sd K k H1 a xs ∧ (xs.length ≤ sizeLine → R (Jen K k a) H1)
section
variable {X : Cx} {e e2 e3 : Expr} {ta : L2.TA} {p pos tpos : Pos} {elts : List Expr} {kk : Nat}
theorem pi_zip2 (hg : Gl X "zip") (hm : X.mg "zip" = none) (ha : PA X [e, e2] ta)
    (hs : starEach [e, e2] X.env = (false, eval e X.env) :: starEach [e2] X.env := by rfl) (hpl : (backTo pos (starEach [e2] X.env)).any (·.1) = false := by rfl) :
    PI X (.Tuple elts kk tpos) (.Call (.Name "zip" p) [e, e2] [] pos) (iZip2 X.K ta) := by
  refine ⟨fun pins s σ H R I h => ?_⟩
  refine Call_ (ld_blt I hg hm PyProof.Rows.boot_zip (PyProof.Rows.callWith_type1 (thn (ha.run pos pins s σ H _ I h) fun us s1 ⟨vs, H1, I1, r1, q1⟩ => ?_) hs hpl))
  obtain ⟨k1, k2, a, b, xs, ys, ex, qa, qb, q⟩ := q1
  subst ex
  cases r1 with
  | cons r rr =>
    cases rr with
    | cons r' rr =>
      cases rr
      cases r
      cases r'
      obtain ⟨us, ru, ca, hz⟩ := qa.held I1
      obtain ⟨ws, rw', cb, _⟩ := qb.held I1
      have la := ca.lt
      have lb := cb.lt
      refine zip_begins2 (begins_sd k1 a us.toArray) (begins_sd k2 b ws.toArray) ca cb fun h' hz' hTI hTO e1 e2 hsz hk => wpAny_pyIter_zip hz' ?_
      have I2 : Inv X pins σ H1 { s1 with heap := h' } := I1.kept (t' := s1.toks) hk
      refine ⟨s1.heap.objs.size + 4, [s1.heap.objs.size + 4, s1.heap.objs.size + 2, s1.heap.objs.size + 3, s1.heap.objs.size, s1.heap.objs.size + 1], _, _, H1, rfl, I2,
        turn_zip2 (zip_sep2 (fp1 := [a]) (fp2 := [b]) (fun c hc => by simp at hc; subst hc; exact la) (fun c hc => by simp at hc; subst hc; exact lb)), ⟨hz', hTI, ⟨_, _, hTO⟩, stI_obj e1, stI_obj e2⟩, fun c hcm => ?_, q hz⟩
      have hle : s1.heap.objs.size ≤ c := by
        have e' : c = s1.heap.objs.size + 4 ∨ c = s1.heap.objs.size + 2 ∨ c = s1.heap.objs.size + 3 ∨ c = s1.heap.objs.size ∨ c = s1.heap.objs.size + 1 := by simpa using hcm
        rcases e' with z | z | z | z | z <;> rw [z] <;> first | exact Nat.le_add_right _ _ | exact Nat.le_refl _
      exact I1.fpOk hle (I1.hok.fresh hle)
theorem pi_zip3 (hg : Gl X "zip") (hm : X.mg "zip" = none) (ha : PA X [e, e2, e3] ta)
    (hs : starEach [e, e2, e3] X.env = (false, eval e X.env) :: starEach [e2, e3] X.env := by rfl) (hpl : (backTo pos (starEach [e2, e3] X.env)).any (·.1) = false := by rfl) :
    PI X (.Tuple elts kk tpos) (.Call (.Name "zip" p) [e, e2, e3] [] pos) (iZip3 X.K ta) := by
  refine ⟨fun pins s σ H R I h => ?_⟩
  refine Call_ (ld_blt I hg hm PyProof.Rows.boot_zip (PyProof.Rows.callWith_type1 (thn (ha.run pos pins s σ H _ I h) fun us s1 ⟨vs, H1, I1, r1, q1⟩ => ?_) hs hpl))
  obtain ⟨k1, k2, k3, a, b, c, xs, ys, zs, ex, qa, qb, qc, q⟩ := q1
  subst ex
  cases r1 with
  | cons r rr =>
    cases rr with
    | cons r' rr =>
      cases rr with
      | cons r'' rr =>
        cases rr
        cases r
        cases r'
        cases r''
        obtain ⟨us, ru, ca, hz⟩ := qa.held I1
        obtain ⟨ws, _, cb, _⟩ := qb.held I1
        obtain ⟨ws3, _, cc, _⟩ := qc.held I1
        have la := ca.lt
        have lb := cb.lt
        have lc := cc.lt
        refine zip_begins3 (begins_sd k1 a us.toArray) (begins_sd k2 b ws.toArray) (begins_sd k3 c ws3.toArray) ca cb cc fun h' hz' hTI hTO e1 e2 e3 hsz hk => wpAny_pyIter_zip hz' ?_
        have I2 : Inv X pins σ H1 { s1 with heap := h' } := I1.kept (t' := s1.toks) hk
        refine ⟨s1.heap.objs.size + 5, [s1.heap.objs.size + 5, s1.heap.objs.size + 3, s1.heap.objs.size + 4, s1.heap.objs.size, s1.heap.objs.size + 1, s1.heap.objs.size + 2], _, _, H1, rfl, I2,
          turn_zip3 (zip_sep3 (fp1 := [a]) (fp2 := [b]) (fp3 := [c]) (fun c hc => by simp at hc; subst hc; exact la) (fun c hc => by simp at hc; subst hc; exact lb) (fun c hc => by simp at hc; subst hc; exact lc)), ⟨hz', hTI, ⟨_, _, _, hTO⟩, stI_obj e1, stI_obj e2, stI_obj e3⟩, fun c hcm => ?_, q hz⟩
        have hle : s1.heap.objs.size ≤ c := by
          have e' : c = s1.heap.objs.size + 5 ∨ c = s1.heap.objs.size + 3 ∨ c = s1.heap.objs.size + 4 ∨ c = s1.heap.objs.size ∨ c = s1.heap.objs.size + 1 ∨ c = s1.heap.objs.size + 2 := by simpa using hcm
          rcases e' with z | z | z | z | z | z <;> rw [z] <;> first | exact Nat.le_add_right _ _ | exact Nat.le_refl _
        exact I1.fpOk hle (I1.hok.fresh hle)
theorem pi_en (hg : Gl X "enumerate") (hm : X.mg "enumerate" = none) (ha : PA X [e] ta) (hs : starEach [e] X.env = [(false, eval e X.env)] := by rfl) :
    PI X (.Tuple elts kk tpos) (.Call (.Name "enumerate" p) [e] [] pos) (iEn X.K ta) := by
  refine ⟨fun pins s σ H R I h => ?_⟩
  refine Call_ (ld_blt I hg hm boot_enumerate (PyProof.Rows.callWith_type1 (thn (ha.run pos pins s σ H _ I h) fun us s1 ⟨vs, H1, I1, r1, q1⟩ => ?_) hs rfl))
  obtain ⟨k, a, xs, ex, qa, q⟩ := q1
  subst ex
  cases r1 with
  | cons r rr =>
    cases rr
    cases r
    obtain ⟨us, ru, ca, hz⟩ := qa.held I1
    have la := ca.lt
    refine enum1_begins (begins_sd k a us.toArray) ca fun h' he e1 hsz hk => wpAny_pyIter_enum he ?_
    have I2 : Inv X pins σ H1 { s1 with heap := h' } := I1.kept (t' := s1.toks) hk
    refine ⟨s1.heap.objs.size + 1, [s1.heap.objs.size + 1, s1.heap.objs.size], _, _, H1, rfl, I2, turn_en (Nat.succ_ne_self _) (Nat.ne_of_gt (Nat.lt_of_lt_of_le la (Nat.le_add_right _ _))), ⟨⟨.none, he⟩, stI_obj e1⟩, fun b hb => ?_, q hz⟩
    have hle : s1.heap.objs.size ≤ b := by
      have e' : b = s1.heap.objs.size + 1 ∨ b = s1.heap.objs.size := by simpa using hb
      rcases e' with z | z <;> rw [z] <;> first | exact Nat.le_add_right _ _ | exact Nat.le_refl _
    exact I1.fpOk hle (I1.hok.fresh hle)
end

section
variable {K : PySem.W.Frag} {F1 F H : Hp}
theorem sd_of {x : D} {v : V} {l : List D} (r : Rep K F x v) (e : itemsD x = some l) (s : Same F H) : ∃ k a xs, v = .ref a ∧ Sd K k H a xs ∧ RepL K F l xs ∧ Sd K k F a xs := by
  cases x <;> simp only [itemsD] at e <;> try cases e
  · obtain ⟨p, vs, rfl, hp, r⟩ := r
    exact ⟨false, p, vs, rfl, .of (s _ _ hp), r, .of hp⟩
  · obtain ⟨p, vs, rfl, hp, r⟩ := r
    exact ⟨true, p, vs, rfl, .of (s _ _ hp), r, .of hp⟩
  · obtain ⟨p, rfl, hp⟩ := r
    exact ⟨true, p, _, rfl, same_sqL s hp, RepL.ints _, hp⟩
  · obtain ⟨p, vs, rfl, hp, r⟩ := r
    exact ⟨false, p, vs, rfl, same_sqT s hp, r, hp⟩
theorem rep_up {T : Addr} {vs : List V} {l : List D} (hT : F T = none) (r : RepL K F l vs) : Rep K (upd F T (.tup vs)) (.tup l) (.ref T) := ⟨T, vs, rfl, upd_same .., r.mono (same_up hT)⟩
theorem jt_yld {H : Hp} {F : Hp} {T : Addr} {o : HO} (s : Same F H) (hT : H T = none) : Same H (upd H T o) ∧ Same F (upd F T o) ∧ Same (upd F T o) (upd H T o) ∧ ∀ b u, H b = some u → (upd F T o) b = F b := by
  refine ⟨same_up hT, same_up (s.free hT), ?_, fun b u e => upd_ne (ne_of_none e hT)⟩
  intro b u e
  by_cases hb : b = T
  · subst hb
    rw [upd_same] at e ⊢
    exact e
  · rw [upd_ne hb] at e ⊢
    exact s b u e
theorem iter_zip2 {k1 k2 : Bool} {a b : Addr} {xs ys : List V} {l m : List D} (h1 : Sd K k1 F1 a xs) (h2 : Sd K k2 F1 b ys) (r1 : RepL K F1 l xs) (r2 : RepL K F1 m ys) : IterOk K (Jz2 K k1 k2 a b) (List.zipWith (fun x y => .tup [x, y]) l m) F1 := by
  have l1 := r1.length
  have l2 := r2.length
  refine ⟨fun i H F hi s t => ?_, fun H F s t => ?_, fun i H F x H' hi s t y => ?_⟩
  · rw [List.length_zipWith] at hi
    have a1 : i < xs.length := by omega
    have a2 : i < ys.length := by omega
    exact ⟨xs, ys, xs[i], ys[i], h1.mono (s.trans t), h2.mono (s.trans t), List.getElem?_eq_getElem a1, List.getElem?_eq_getElem a2⟩
  · exact ⟨xs, ys, h1.mono (s.trans t), h2.mono (s.trans t), by rw [List.length_zipWith, l1, l2]⟩
  · obtain ⟨T, vs, rfl, hT, ⟨x, y, rfl, e1, e2⟩, rfl⟩ := y
    have e1 := e1 _ (h1.mono (s.trans t))
    have e2 := e2 _ (h2.mono (s.trans t))
    obtain ⟨d1, q1, p1⟩ := r1.get' e1
    obtain ⟨d2, q2, p2⟩ := r2.get' e2
    obtain ⟨z1, z2, z3, z4⟩ := jt_yld (o := .tup [x, y]) t hT
    exact ⟨upd F T (.tup [x, y]), .tup [d1, d2], by rw [List.getElem?_zipWith, q1, q2], rep_up (t.free hT) (.cons (p1.mono s) (.cons (p2.mono s) .nil)), z1, z2, z3, z4⟩
def zip3D : List D → List D → List D → List D
  | x :: l, y :: m, z :: n => .tup [x, y, z] :: zip3D l m n
  | _, _, _ => []
theorem zip3D_len : ∀ (l m n : List D), (zip3D l m n).length = min (min l.length m.length) n.length
  | x :: l, y :: m, z :: n => by
    rw [zip3D, List.length_cons, zip3D_len l m n]
    simp only [List.length_cons]
    omega
  | [], _, _ => by simp [zip3D]
  | _ :: _, [], _ => by simp [zip3D]
  | _ :: _, _ :: _, [] => by simp [zip3D]
theorem zip3D_get : ∀ (l m n : List D) (i : Nat) (x y z : D), l[i]? = some x → m[i]? = some y → n[i]? = some z → (zip3D l m n)[i]? = some (.tup [x, y, z])
  | a :: l, b :: m, c :: n, 0, x, y, z, e1, e2, e3 => by
    simp only [List.getElem?_cons_zero, Option.some.injEq] at e1 e2 e3
    subst e1 e2 e3
    rfl
  | a :: l, b :: m, c :: n, i + 1, x, y, z, e1, e2, e3 => by
    simp only [List.getElem?_cons_succ] at e1 e2 e3
    rw [zip3D, List.getElem?_cons_succ]
    exact zip3D_get l m n i x y z e1 e2 e3
  | [], _, _, i, _, _, _, e1, _, _ => by simp at e1
  | _ :: _, [], _, i, _, _, _, _, e2, _ => by simp at e2
  | _ :: _, _ :: _, [], i, _, _, _, _, _, e3 => by simp at e3
theorem iter_zip3 {k1 k2 k3 : Bool} {a b c : Addr} {xs ys zs : List V} {l m n : List D} (h1 : Sd K k1 F1 a xs) (h2 : Sd K k2 F1 b ys) (h3 : Sd K k3 F1 c zs) (r1 : RepL K F1 l xs) (r2 : RepL K F1 m ys) (r3 : RepL K F1 n zs) : IterOk K (Jz3 K k1 k2 k3 a b c) (zip3D l m n) F1 := by
  have l1 := r1.length
  have l2 := r2.length
  have l3 := r3.length
  refine ⟨fun i H F hi s t => ?_, fun H F s t => ?_, fun i H F x H' hi s t y => ?_⟩
  · rw [zip3D_len] at hi
    have a1 : i < xs.length := by omega
    have a2 : i < ys.length := by omega
    have a3 : i < zs.length := by omega
    exact ⟨xs, ys, zs, xs[i], ys[i], zs[i], h1.mono (s.trans t), h2.mono (s.trans t), h3.mono (s.trans t), List.getElem?_eq_getElem a1, List.getElem?_eq_getElem a2, List.getElem?_eq_getElem a3⟩
  · exact ⟨xs, ys, zs, h1.mono (s.trans t), h2.mono (s.trans t), h3.mono (s.trans t), by rw [zip3D_len, l1, l2, l3]⟩
  · obtain ⟨T, vs, rfl, hT, ⟨x, y, z, rfl, e1, e2, e3⟩, rfl⟩ := y
    have e1 := e1 _ (h1.mono (s.trans t))
    have e2 := e2 _ (h2.mono (s.trans t))
    have e3 := e3 _ (h3.mono (s.trans t))
    obtain ⟨d1, q1, p1⟩ := r1.get' e1
    obtain ⟨d2, q2, p2⟩ := r2.get' e2
    obtain ⟨d3, q3, p3⟩ := r3.get' e3
    obtain ⟨z1, z2, z3, z4⟩ := jt_yld (o := .tup [x, y, z]) t hT
    exact ⟨upd F T (.tup [x, y, z]), .tup [d1, d2, d3], zip3D_get _ _ _ _ _ _ _ q1 q2 q3, rep_up (t.free hT) (.cons (p1.mono s) (.cons (p2.mono s) (.cons (p3.mono s) .nil))), z1, z2, z3, z4⟩
def enD : Nat → List D → List D
  | _, [] => []
  | i, x :: l => .tup [.int (i : Nat), x] :: enD (i + 1) l
theorem enD_len : ∀ (j : Nat) (l : List D), (enD j l).length = l.length
  | _, [] => rfl
  | j, _ :: l => by rw [enD, List.length_cons, List.length_cons, enD_len]
theorem enD_get : ∀ (j : Nat) (l : List D) (i : Nat) (x : D), l[i]? = some x → (enD j l)[i]? = some (.tup [.int ((j + i : Nat) : Int), x])
  | j, a :: l, 0, x, e => by
    simp only [List.getElem?_cons_zero, Option.some.injEq] at e
    subst e
    rfl
  | j, a :: l, i + 1, x, e => by
    simp only [List.getElem?_cons_succ] at e
    rw [enD, List.getElem?_cons_succ, enD_get (j + 1) l i x e]
    have : j + 1 + i = j + (i + 1) := by omega
    rw [this]
  | _, [], i, _, e => by simp at e
theorem iter_en {k : Bool} {a : Addr} {xs : List V} {l : List D} (h1 : Sd K k F1 a xs) (r1 : RepL K F1 l xs) : IterOk K (Jen K k a) (enD 0 l) F1 := by
  have l1 := r1.length
  refine ⟨fun i H F hi s t => ?_, fun H F s t => ?_, fun i H F x H' hi s t y => ?_⟩
  · rw [enD_len] at hi
    have a1 : i < xs.length := by omega
    exact ⟨xs, xs[i], h1.mono (s.trans t), List.getElem?_eq_getElem a1⟩
  · exact ⟨xs, h1.mono (s.trans t), by rw [enD_len, l1]⟩
  · obtain ⟨T, vs, rfl, hT, ⟨x, rfl, e1⟩, rfl⟩ := y
    have e1 := e1 _ (h1.mono (s.trans t))
    obtain ⟨d1, q1, p1⟩ := r1.get' e1
    obtain ⟨z1, z2, z3, z4⟩ := jt_yld (o := .tup [.int (i : Nat), x]) t hT
    refine ⟨upd F T (.tup [.int (i : Nat), x]), .tup [.int (i : Nat), d1], ?_, rep_up (t.free hT) (.cons rfl (.cons (p1.mono s) .nil)), z1, z2, z3, z4⟩
    have := enD_get 0 l i d1 q1
    rw [Nat.zero_add] at this
    exact this
end
def gZip2 : List D → Option (List D)
  | [x, y] => match itemsD x, itemsD y with
    | some l, some m => some (List.zipWith (fun x y => .tup [x, y]) l m)
    | _, _ => none
  | _ => none
def gZip3 : List D → Option (List D)
  | [x, y, z] => match itemsD x, itemsD y, itemsD z with
    | some l, some m, some n => some (zip3D l m n)
    | _, _, _ => none
  | _ => none
def gEn : List D → Option (List D)
  | [x] => match itemsD x with
    | some l => some (enD 0 l)
    | _ => none
  | _ => none
section
variable {X : Cx} {E : XK} {e e2 e3 : Expr} {fs : Den (List D)} {p pos tpos : Pos} {elts : List Expr} {kk : Nat}
theorem di_zip2 (hg : Gl X "zip") (hm : X.mg "zip" = none) (ha : PA X [e, e2] (TA X E fs)) (hs : starEach [e, e2] X.env = (false, eval e X.env) :: starEach [e2] X.env := by rfl) (hpl : (backTo pos (starEach [e2] X.env)).any (·.1) = false := by rfl) :
    PI X (.Tuple elts kk tpos) (.Call (.Name "zip" p) [e, e2] [] pos) (TIt X E (dRange gZip2 fs)) :=
  (pi_zip2 hg hm ha hs hpl).imp fun σ H R ⟨F, ρ, S, h⟩ => ⟨F, ρ, S, h.bind.mono fun xs ρ1 H1 F1 S1 h1 vs rv => by
    obtain ⟨l, e, k⟩ := h1.of
    have k := k _ _ (.refl S1.sat)
    unfold gZip2 at e
    split at e
    · split at e
      · rename_i l1 l2 x y h1 h2
        cases e
        obtain ⟨v, w, rfl, hv, hw⟩ := rv.two
        obtain ⟨k1, a, xs, rfl, q1, r1, q1'⟩ := sd_of hv h1 S1.sat.sub
        obtain ⟨k2, b, ys, rfl, q2, r2, q2'⟩ := sd_of hw h2 S1.sat.sub
        exact ⟨k1, k2, a, b, xs, ys, rfl, q1, q2, fun hz => k _ (iter_zip2 q1' q2' r1 r2) (by rw [List.length_zipWith, r1.length]; exact Nat.le_trans (Nat.min_le_left _ _) hz)⟩
      · cases e
    · cases e⟩
theorem RepL.three {K : PySem.W.Frag} {F : Hp} {x y z : D} {vs : List V} : RepL K F [x, y, z] vs → ∃ a b c, vs = [a, b, c] ∧ Rep K F x a ∧ Rep K F y b ∧ Rep K F z c
  | h => by
    obtain ⟨a, r, rfl, h1, b, r2, rfl, h2, c, r3, rfl, h3, e⟩ := h
    cases (show r3 = [] from e)
    exact ⟨a, b, c, rfl, h1, h2, h3⟩
theorem di_zip3 (hg : Gl X "zip") (hm : X.mg "zip" = none) (ha : PA X [e, e2, e3] (TA X E fs)) (hs : starEach [e, e2, e3] X.env = (false, eval e X.env) :: starEach [e2, e3] X.env := by rfl) (hpl : (backTo pos (starEach [e2, e3] X.env)).any (·.1) = false := by rfl) :
    PI X (.Tuple elts kk tpos) (.Call (.Name "zip" p) [e, e2, e3] [] pos) (TIt X E (dRange gZip3 fs)) :=
  (pi_zip3 hg hm ha hs hpl).imp fun σ H R ⟨F, ρ, S, h⟩ => ⟨F, ρ, S, h.bind.mono fun xs ρ1 H1 F1 S1 h1 vs rv => by
    obtain ⟨l, e, k⟩ := h1.of
    have k := k _ _ (.refl S1.sat)
    unfold gZip3 at e
    split at e
    · split at e
      · rename_i l1 l2 l3 x y z h1 h2 h3
        cases e
        obtain ⟨v, w, u, rfl, hv, hw, hu⟩ := rv.three
        obtain ⟨k1, a, xs, rfl, q1, r1, q1'⟩ := sd_of hv h1 S1.sat.sub
        obtain ⟨k2, b, ys, rfl, q2, r2, q2'⟩ := sd_of hw h2 S1.sat.sub
        obtain ⟨k3, c, zs, rfl, q3, r3, q3'⟩ := sd_of hu h3 S1.sat.sub
        exact ⟨k1, k2, k3, a, b, c, xs, ys, zs, rfl, q1, q2, q3, fun hz => k _ (iter_zip3 q1' q2' q3' r1 r2 r3) (by rw [zip3D_len, r1.length]; exact Nat.le_trans (Nat.min_le_left _ _) (Nat.le_trans (Nat.min_le_left _ _) hz))⟩
      · cases e
    · cases e⟩
theorem di_en (hg : Gl X "enumerate") (hm : X.mg "enumerate" = none) (ha : PA X [e] (TA X E fs)) (hs : starEach [e] X.env = [(false, eval e X.env)] := by rfl) :
    PI X (.Tuple elts kk tpos) (.Call (.Name "enumerate" p) [e] [] pos) (TIt X E (dRange gEn fs)) :=
  (pi_en hg hm ha hs).imp fun σ H R ⟨F, ρ, S, h⟩ => ⟨F, ρ, S, h.bind.mono fun xs ρ1 H1 F1 S1 h1 vs rv => by
    obtain ⟨l, e, k⟩ := h1.of
    have k := k _ _ (.refl S1.sat)
    unfold gEn at e
    split at e
    · split at e
      · rename_i l1 x h1
        cases e
        obtain ⟨v, rfl, hv⟩ := rv.one
        obtain ⟨k1, a, xs, rfl, q1, r1, q1'⟩ := sd_of hv h1 S1.sat.sub
        exact ⟨k1, a, xs, rfl, q1, fun hz => k _ (iter_en q1' r1) (by rw [enD_len, r1.length]; exact hz)⟩
      · cases e
    · cases e⟩
end
end DL

namespace DL
open PySem PySem.Spec PyProof.Rows L2

/-! ### Python's operators -/
def pAdd : D → D → Option D
  | .int i, .int j => some (.int (i + j))
  | .lst a, .lst b => if sz (a.length + b.length) = true then some (.lst (a ++ b)) else none
  | .tup a, .tup b => if sz (a.length + b.length) = true then some (.tup (a ++ b)) else none
  | .str a, .str b => if sz (a.length + b.length) = true then some (.str (a ++ b)) else none
  | _, _ => none
def pSub : D → D → Option D
  | .int i, .int j => some (.int (i - j))
  | _, _ => none
def mulOk (i j : Int) : Bool := (decide (i.natAbs < 2 ^ 64) || decide (j.natAbs < 2 ^ 64)) || decide (i.natAbs.log2 + j.natAbs.log2 < 1000000)
def pMul : D → D → Option D
  | .int i, .int j => if mulOk i j = true then some (.int (i * j)) else none
  | .lst a, .int k => if (decide (-(2 ^ 63) ≤ k ∧ k < 2 ^ 63) && sz (a.length * k.toNat)) = true then some (.lst (List.replicate k.toNat a).flatten) else none
  | _, _ => none
def pMod : D → D → Option D
  | .int i, .int j => if 0 < j then some (.int (i % j)) else none
  | _, _ => none
def divOk (j : Int) : Bool := decide (0 < j) && (decide (j < 1073741824) || decide (j.natAbs.log2 < 9000))
def pDiv : D → D → Option D
  | .int i, .int j => if divOk j = true then some (.int (i / j)) else none
  | _, _ => none
def powOk (i j : Int) : Bool := decide (0 ≤ j ∧ j ≤ 1000000 ∧ i.natAbs < 2 ^ 64)
def pPow : D → D → Option D
  | .int i, .int j => if powOk i j = true then some (.int (i ^ j.toNat)) else none
  | _, _ => none
/-- data that can be compared by < -/
def ordOk (a b : PyData) : Bool := SeqAt.shaped a && SeqAt.shaped b && PySem.W.alike a b && (match a with | .none => false | _ => true)
def gOrd (r : PyData → PyData → Bool) : D → D → Option D := fun x y => match toPy x, toPy y with
  | some a, some b => if ordOk a b = true then some (.bl (r a b)) else none
  | _, _ => none
def pLt : D → D → Option D
  | .int i, .int j => some (.bl (decide (i < j)))
  | x, y => gOrd (fun a b => PySem.W.dataLt a b) x y
def pLe : D → D → Option D
  | .int i, .int j => some (.bl (decide (i ≤ j)))
  | x, y => gOrd (fun a b => !PySem.W.dataLt b a) x y
def pGt : D → D → Option D
  | .int i, .int j => some (.bl (decide (j < i)))
  | x, y => gOrd (fun a b => PySem.W.dataLt b a) x y
def pGe : D → D → Option D
  | .int i, .int j => some (.bl (decide (j ≤ i)))
  | x, y => gOrd (fun a b => !PySem.W.dataLt a b) x y
def pEq : D → D → Option D
  | .int i, .int j => some (.bl (decide (i = j)))
  | x, y => gEq x y
def pNe : D → D → Option D
  | .int i, .int j => some (.bl (decide (i ≠ j)))
  | x, y => gNe x y
section
variable {X : Cx}
theorem opd_ord {f : Value → Value → Sem Value} {r : PyData → PyData → Bool} (h : ∀ (a b : Value) (da db : PyData) (as bs : List Addr) (A : Around) (E : Value → Shared → Prop) (s : Shared) (Q : Value → Shared → Prop), Reads s.heap a da as → Reads s.heap b db bs → PySem.W.alike da db = true → da ≠ .none → A.units + min da.depth db.depth < cLine → Q (.bool (r da db)) s → wpAny (model X.prog X.w) A (f a b) Q E s) (hu : X.A.units + 64 < cLine) : OpD X f (gOrd r) := by
  refine ⟨fun x y H Q => ∃ d e, Dp X.K H x d ∧ Dp X.K H y e ∧ ordOk d e = true ∧ Q (.bl (r d e)) H, ?_, fun x y z vx vy σ H F ρ Q S rx ry e k => ?_⟩
  · intro pins s σ H x y v u Q I rx ry hh
    obtain ⟨d, e, hd, he, ho, q⟩ := hh
    obtain ⟨as, r1⟩ := Dp.reads I d x v hd rx
    obtain ⟨bs, r2⟩ := Dp.reads I e y u he ry
    unfold ordOk at ho
    rw [Bool.and_eq_true, Bool.and_eq_true, Bool.and_eq_true] at ho
    refine h v u d e as bs _ _ s _ r1 r2 ho.1.2 (fun z => ?_) (SeqAt.room_of_shaped ho.1.1.1 hu) ⟨.bl _, H, I, rfl, q⟩
    subst z
    exact absurd ho.2 (by simp)
  · unfold gOrd at e
    split at e
    · rename_i a b h1 h2
      split at e
      · rename_i hb
        cases e
        exact ⟨a, b, rx.dp S.sub _ _ _ h1, ry.dp S.sub _ _ _ h2, hb, k _ _ _ (.refl S) rfl⟩
      · cases e
    · cases e
theorem opd_lt (hu : X.A.units + 64 < cLine) : OpD X (compareOp .Lt) pLt :=
  ((opd_I0 op_lt fun _ _ => rfl).or (opd_ord (fun a b da db as bs A E s Q ra rb h hn hu' hq => PySem.W.lt_data ra rb h hn hu' hq) hu)).imp fun x y z h => by
    cases x <;> cases y <;> exact h
theorem opd_gt (hu : X.A.units + 64 < cLine) : OpD X (compareOp .Gt) pGt :=
  ((opd_I0 op_gt fun _ _ => rfl).or (opd_ord (r := fun a b => PySem.W.dataLt b a) (fun a b da db as bs A E s Q ra rb h hn hu' hq => PySem.W.gt_data ra rb h hn hu' hq) hu)).imp fun x y z h => by
    cases x <;> cases y <;> exact h
theorem opd_le (hu : X.A.units + 64 < cLine) : OpD X (compareOp .LtE) pLe :=
  ((opd_I0 op_le fun _ _ => rfl).or (opd_ord (r := fun a b => !PySem.W.dataLt b a) (fun a b da db as bs A E s Q ra rb h hn hu' hq => PySem.W.le_data ra rb h hn hu' hq) hu)).imp fun x y z h => by
    cases x <;> cases y <;> exact h
theorem opd_ge (hu : X.A.units + 64 < cLine) : OpD X (compareOp .GtE) pGe :=
  ((opd_I0 op_ge fun _ _ => rfl).or (opd_ord (r := fun a b => !PySem.W.dataLt a b) (fun a b da db as bs A E s Q ra rb h hn hu' hq => PySem.W.ge_data ra rb h hn hu' hq) hu)).imp fun x y z h => by
    cases x <;> cases y <;> exact h
theorem eqv_int (i j : Int) : gEq (.int i) (.int j) = some (.bl (decide (i = j))) := by
  have h1 : toPy (.int i) = some (.int i) := by unfold toPy; rfl
  have h2 : toPy (.int j) = some (.int j) := by unfold toPy; rfl
  have h3 : ∀ i : Int, SeqAt.shaped (.int i) = true := fun i => by unfold SeqAt.shaped; simp [PyData.canLay0, PyData.depth]
  unfold gEq
  rw [h1, h2]
  dsimp only
  rw [h3, h3]
  simp only [Bool.and_self, if_true]
  by_cases q : i = j
  · subst q
    simp [PyData.eqv]
  · simp [PyData.eqv, q]
theorem nev_int (i j : Int) : gNe (.int i) (.int j) = some (.bl (decide (i ≠ j))) := by
  have h1 : toPy (.int i) = some (.int i) := by unfold toPy; rfl
  have h2 : toPy (.int j) = some (.int j) := by unfold toPy; rfl
  have h3 : ∀ i : Int, SeqAt.shaped (.int i) = true := fun i => by unfold SeqAt.shaped; simp [PyData.canLay0, PyData.depth]
  unfold gNe
  rw [h1, h2]
  dsimp only
  rw [h3, h3]
  simp only [Bool.and_self, if_true]
  by_cases q : i = j
  · subst q
    simp [PyData.eqv]
  · simp [PyData.eqv, q]
theorem opd_Eq (hu : X.A.units + 64 < cLine) : OpD X (compareOp .Eq) pEq := (opd_eq hu).imp fun x y z h => by
  cases x <;> cases y <;> first | exact h | exact (eqv_int _ _).trans h
theorem opd_Ne (hu : X.A.units + 64 < cLine) : OpD X (compareOp .NotEq) pNe := (opd_ne hu).imp fun x y z h => by
  cases x <;> cases y <;> first | exact h | exact (nev_int _ _).trans h
theorem opd_add : OpD X (binaryOp .Add) pAdd := ((opd_I0 (gd := fun i j => .int (i + j)) op_add fun _ _ => rfl).or (opd_catL.or (opd_catT.or opd_catS))).imp fun x y z h => by
  cases x <;> cases y <;> first
    | (cases h; done)
    | exact h
    | (simp only [gOr, gI, gCatL, gCatT, gCatS]
       simp only [pAdd] at h
       split at h
       · rename_i hb
         simp only [hb, if_true]
         exact h
       · cases h)
theorem opd_sub : OpD X (binaryOp .Sub) pSub := (opd_I0 (gd := fun i j => .int (i - j)) op_sub fun _ _ => rfl).imp fun x y z h => by
  cases x <;> cases y <;> exact h
theorem opd_mul : OpD X (binaryOp .Mult) pMul := ((opd_I (B := fun i j => decide (i.natAbs < 2 ^ 64) || decide (j.natAbs < 2 ^ 64)) (gd := fun i j => .int (i * j)) op_mul (fun i j h => by
    rw [Bool.or_eq_true] at h
    rcases h with h | h
    · have := of_decide_eq_true h
      exact .inl (by omega)
    · have := of_decide_eq_true h
      exact .inr (by omega)) fun _ _ => rfl).or ((opd_I (B := fun i j => decide (i.natAbs.log2 + j.natAbs.log2 < 1000000)) (gd := fun i j => .int (i * j)) op_mulW (fun i j h => show i.natAbs.log2 + j.natAbs.log2 < 1000000 from of_decide_eq_true h) fun _ _ => rfl).or opd_repL)).imp fun x y z h => by
  cases x <;> cases y <;> first
    | (cases h; done)
    | exact h
    | skip
  rename_i i j
  simp only [pMul] at h
  split at h
  · rename_i hb
    unfold mulOk at hb
    rw [Bool.or_eq_true] at hb
    cases h
    unfold gOr
    unfold gI
    dsimp only
    by_cases h1 : (decide (i.natAbs < 2 ^ 64) || decide (j.natAbs < 2 ^ 64)) = true
    · rw [if_pos h1]
    · rw [if_neg h1]
      rcases hb with hb | hb
      · exact absurd hb h1
      · rw [if_pos hb]
  · cases h
theorem opd_mod : OpD X (binaryOp .Mod) pMod := (opd_I (B := fun _ j => decide (0 < j)) (gd := fun i j => .int (i % j)) op_mod (fun i j h => show 0 < j from of_decide_eq_true h) fun _ _ => rfl).imp fun x y z h => by
  cases x <;> cases y <;> first
    | (cases h; done)
    | skip
  rename_i i j
  simp only [pMod] at h
  unfold gI
  dsimp only
  split at h
  · rename_i hb
    rw [if_pos (decide_eq_true hb)]
    exact h
  · cases h
theorem opd_div : OpD X (binaryOp .FloorDiv) pDiv := ((opd_I (B := fun _ j => decide (0 < j ∧ j < 1073741824)) (gd := fun i j => .int (i / j)) op_fdiv (fun i j h => show 0 < j ∧ j < 1073741824 from of_decide_eq_true h) fun _ _ => rfl).or (opd_I (B := fun _ j => decide (0 < j ∧ j.natAbs.log2 < 9000)) (gd := fun i j => .int (i / j)) op_fdivW (fun i j h => show 0 < j ∧ j.natAbs.log2 < 9000 from of_decide_eq_true h) fun _ _ => rfl)).imp fun x y z h => by
  cases x <;> cases y <;> first
    | (cases h; done)
    | skip
  rename_i i j
  simp only [pDiv] at h
  split at h
  · rename_i hb
    unfold divOk at hb
    rw [Bool.and_eq_true, Bool.or_eq_true] at hb
    cases h
    unfold gOr gI
    dsimp only
    by_cases h1 : decide (0 < j ∧ j < 1073741824) = true
    · rw [if_pos h1]
    · rw [if_neg h1]
      rcases hb.2 with q | q
      · exact absurd (decide_eq_true ⟨of_decide_eq_true hb.1, of_decide_eq_true q⟩) h1
      · rw [if_pos (decide_eq_true ⟨of_decide_eq_true hb.1, of_decide_eq_true q⟩)]
  · cases h
theorem opd_pow : OpD X (binaryOp .Pow) pPow := (opd_I (B := powOk) (gd := fun i j => .int (i ^ j.toNat)) op_pow (fun i j h => show 0 ≤ j ∧ j ≤ 1000000 ∧ i.natAbs < 2 ^ 64 from of_decide_eq_true h) fun _ _ => rfl).imp fun x y z h => by
  cases x <;> cases y <;> first
    | (cases h; done)
    | exact h
end

/-! ### a, b = x, y -/
def sPar (i j : Nat) (fa fb : Den Sl) : Ds := fun ρ => sB (fa ρ) fun s ρ1 => sB (fb ρ1) fun t ρ2 => .nx ((ρ2.set i s).set j t)
section
variable {X : Cx} {E : XK} {pr : Bool} {pos : Pos} {a b : Expr} {fa fb : Den Sl}
theorem ds_par {i j : Nat} {x y : Str} {px py pt : Pos} {kt k2 pt2} (hc : X.calm = true) (hN : X.N.Nodup) (hi : X.N[i]? = some x) (hj : X.N[j]? = some y) (hij : i ≠ j)
    (hx : X.env.scope.names.lookup x = some .local) (hy : X.env.scope.names.lookup y = some .local) (ha : PE X a (TSl X E fa)) (hb : PE X b (TSl X E fb)) (hp0 : pr = true → i ≠ 0 ∧ j ≠ 0 := by decide)
    (hw : swappedStores [.Tuple [.Name x px, .Name y py] kt pt] (.Tuple [a, b] k2 pt2) X.env = pure (some [x, y]) := by rfl)
    (hs : swapsWithSole [.Tuple [.Name x px, .Name y py] kt pt] (.Tuple [a, b] k2 pt2) pos.line X.env = pure false := by rfl)
    (h1 : starEach [a, b] X.env = (false, eval a X.env) :: starEach [b] X.env := by rfl) (h2 : starEach [b] X.env = (false, eval b X.env) :: starEach [] X.env := by rfl) :
    PS X (.Assign [.Tuple [.Name x px, .Name y py] kt pt] (.Tuple [a, b] k2 pt2) pos) (TSt X E pr (sPar i j fa fb)) :=
  (ps_par hc hN hi hj hij hx hy (pa_cons ha (pa_cons hb pa_nil h2) h1) hw hs).imp fun Dn σ H ⟨Z, F, ρ, hp, en, h⟩ => by
    refine ⟨F, ρ, en.sat, (sB_good en h).mono fun s ρ1 H1 F1 S h1 v ok fr => ?_⟩
    obtain ⟨en1, h1⟩ := h1
    refine ⟨F1, ρ1, en1.sat, (sB_good en1 h1).mono fun t ρ2 H2 F2 S2 h2 w ok2 fr2 => ?_⟩
    obtain ⟨en2, h2⟩ := h2
    refine ⟨v, w, rfl, ?_⟩
    have z0 : ∀ (H : Hp) (a : Addr), H a = none → (∀ b u, Z.H0 b = some u → ∃ u', H b = some u') → Z.H0 a = none := fun H a e th => by
      cases q : Z.H0 a with
      | none => rfl
      | some u =>
        obtain ⟨u', e'⟩ := th a u q
        rw [e] at e'
        cases e'
    have ok1 : SlotOk X.K F2 H2 s (some v) := ok.mono S2.mono (fun b u eo os q => S2.same b u q fun z => (fr os b (Option.some.inj eo)).1 z) fun b u eo os q n => (S2.keep b u q fun z => (fr os b (Option.some.inj eo)).1 z).trans n
    have fr1 : ownS s = true → ∀ a, v = .ref a → ¬ OwnA σ ρ2 a ∧ Z.H0 a = none := fun o a e => ⟨fun z => (fr o a e).1 (S2.ownA z), z0 H a (fr o a e).2 en.there⟩
    have en3 := en2.setS (i := i) ok1 fr1 fun q => (hp0 (hp ▸ q)).1
    refine h2 _ _ _ (en3.setS (i := j) ok2 (fun o a e => ⟨fun z => ?_, z0 H1 a (fr2 o a e).2 en1.there⟩) fun q => (hp0 (hp ▸ q)).2)
    rcases OwnA.setS z with z | ⟨o1, e1⟩
    · exact (fr2 o a e).1 z
    · have hv : ∃ u, H1 a = some u := by
        cases s with
        | un => cases o1
        | d _ => cases o1
        | own l =>
          obtain ⟨p, vs, q, hp, _⟩ := ok
          rw [e1] at q
          cases q
          exact ⟨_, hp⟩
        | ownT ks l =>
          obtain ⟨p, vs, q, hp, _⟩ := ok
          rw [e1] at q
          cases q
          exact ⟨_, hp⟩
        | ownK ks l =>
          obtain ⟨p, vs, q, hp, _⟩ := ok
          rw [e1] at q
          cases q
          exact ⟨_, hp⟩
      obtain ⟨u, hu⟩ := hv
      rw [(fr2 o a e).2] at hu
      cases hu
end
end DL

namespace DL
open PySem PySem.Spec PyProof.Rows L2 HT

/-! ### x[::-1] -/
section
variable {prog : Program} {w : World} {A : Around} {E : Value → Shared → Prop} {s : Shared}
theorem sliceApplied_rev {sl : Addr} {vl vu vs : Value} {n : Nat} {Q : Int × Int × Nat → Shared → Prop} (hs : s.heap.IsSliceOf sl vl vu vs) (pl : IsPart vl none) (pu : IsPart vu none) (ps : IsPart vs (some (-1)))
    (h : Q (((n : Int) - 1), -1, n) s) : wpAny (model prog w) A (Builtin.Slice.sliceApplied (.ref sl) (pure (n : Int))) Q E s := by
  obtain ⟨os, hos, hcs, hds⟩ := id hs
  unfold Builtin.Slice.sliceApplied Builtin.Slice.sliceFields
  refine wpAny_bind (wpAny_bind (wpAny_field hos hds (x := vl) rfl (wpAny_bind (wpAny_field hos hds (x := vu) rfl (wpAny_bind (wpAny_field hos hds (x := vs) rfl (wpAny_pure ?_)))))))
  refine wpAny_bind (slicePart_ ps ?_)
  show wpAny _ _ (if ((-1 : Int) == 0) = true then _ else _) _ _ s
  rw [if_neg (by decide)]
  refine wpAny_bind (slicePart_ pl (wpAny_bind (slicePart_ pu (wpAny_bind (wpAny_pure ?_)))))
  show wpAny _ _ (match Builtin.Slice.sliceAdjust none none (-1) (n : Int) with | (lo, hi) => pure (lo, (-1 : Int), Builtin.Slice.slicePlaces lo hi (-1))) _ _ s
  have e : Builtin.Slice.sliceAdjust none none (-1) (n : Int) = ((n : Int) - 1, -1) := by
    unfold Builtin.Slice.sliceAdjust
    simp
  rw [e]
  show wpAny _ _ (pure (((n : Int) - 1), (-1 : Int), Builtin.Slice.slicePlaces ((n : Int) - 1) (-1) (-1))) _ _ s
  have e2 : Builtin.Slice.slicePlaces ((n : Int) - 1) (-1) (-1) = n := by
    unfold Builtin.Slice.slicePlaces
    simp
    try omega
  rw [e2]
  exact wpAny_pure h
theorem fm_eq_map {α β : Type} {f : α → Option β} {g : α → β} : ∀ {l : List α}, (∀ m ∈ l, f m = some (g m)) → l.filterMap f = l.map g
  | [], _ => rfl
  | x :: l, h => by
    rw [List.filterMap_cons, h x (List.mem_cons_self ..), List.map_cons, fm_eq_map fun m hm => h m (List.mem_cons_of_mem _ hm)]
theorem pick_rev (xs : Array Value) : ((List.range xs.size).filterMap fun (m : Nat) => xs[(((xs.size : Int) - 1) + (m : Int) * -1).toNat]?).toArray = xs.toList.reverse.toArray := by
  congr 1
  have e : (List.range xs.size).filterMap (fun (m : Nat) => xs[(((xs.size : Int) - 1) + (m : Int) * -1).toNat]?) = (List.range xs.size).map fun m => xs.toList.reverse.getD m .none := by
    refine fm_eq_map fun m hm => ?_
    have hm := List.mem_range.mp hm
    have e1 : (((xs.size : Int) - 1) + (m : Int) * -1).toNat = xs.size - 1 - m := by omega
    rw [e1]
    have e2 : xs.toList.reverse[m]? = xs[xs.size - 1 - m]? := by
      rw [List.getElem?_reverse (by simpa using hm)]
      simp
    rw [List.getD_eq_getElem?_getD, e2]
    have : xs.size - 1 - m < xs.size := by omega
    rw [Array.getElem?_eq_getElem this]
    rfl
  rw [e]
  refine List.ext_getElem? fun i => ?_
  rw [List.getElem?_map]
  by_cases hi : i < xs.size
  · rw [List.getElem?_range hi]
    have : i < xs.toList.reverse.length := by simpa using hi
    rw [List.getElem?_eq_getElem this]
    simp only [Option.map_some]
    rw [List.getD_eq_getElem?_getD, List.getElem?_eq_getElem this]
    rfl
  · rw [List.getElem?_eq_none (by simpa using Nat.le_of_not_lt hi), List.getElem?_eq_none (by simpa using Nat.le_of_not_lt hi)]
    rfl
theorem getItem_tuple_rev {t sl : Addr} {items : Array Value} {vl vu vs : Value} {Q : Value → Shared → Prop} (ht : IsTup s.heap t items) (hs : s.heap.IsSliceOf sl vl vu vs) (pl : IsPart vl none) (pu : IsPart vu none) (ps : IsPart vs (some (-1)))
    (h : Q (.ref s.heap.objs.size) { s with heap := s.heap.push { cls := .type "tuple", data := .seq items.toList.reverse.toArray } })
    (hsz : items.size ≤ sizeLine) : wpAny (model prog w) A (getItem (.ref t) (.ref sl)) Q E s := by
  have htake : sizeOk (.seq items.toList.reverse.toArray) := by
    show items.toList.reverse.toArray.size ≤ sizeLine
    simpa using hsz
  obtain ⟨os, hos, hcs, hds⟩ := id hs
  have hTs : s.TypeIs (.ref sl) "slice" := ⟨os, hos, hcs⟩
  unfold getItem
  try with_reducible refine wpAny_holding ?_
  first | refine wpAny_bind (wpAny_pure ?_) | skip
  refine wpAny_bind (wpAny_sequenceKey ht.typeIs (by decide) ?_)
  refine wpAny_bind (wpAny_callSpecial?_slot (name := Str.ofString "__getitem__") ht.typeIs PyProof.Rows.slot_tuple_getitem
    (wpAny_call_entry PyProof.Rows.slot_tuple_getitem ht.typeIs entry_tuple_getitem ?_ (args_tuple_getitem _ _)))
  show wpAny _ _ (Builtin.Tuple.tupleItemsOf (.ref t) >>= _) _ _ s
  refine wpAny_bind (tupleItemsOf_ ht ?_)
  refine wpAny_bind (wpAny_typeOf hTs ?_)
  rw [if_pos (by decide)]
  refine wpAny_bind (sliceApplied_rev hs pl pu ps ?_)
  have hno : ¬ (((((items.size : Nat) : Int) - 1) == 0 && (-1 : Int) == 1 && items.size == items.size) = true) := by
    intro q
    rw [Bool.and_eq_true, Bool.and_eq_true] at q
    exact absurd q.1.2 (by decide)
  show wpAny _ _ (if ((((items.size : Nat) : Int) - 1) == 0 && (-1 : Int) == 1 && items.size == items.size) = true then _ else _) _ _ s
  rw [if_neg hno, pick_rev]
  first
    | exact wpAny_bind (m := Builtin.Tuple.tupleExact _) (wpAny_newObj_type (wpAny_pure ⟨_, rfl, wpAny_pure h⟩) htake)
    | exact wpAny_bind (m := Builtin.Tuple.tupleExact _) (wpAny_newObj_type (wpAny_bind (wpAny_pure (wpAny_pure ⟨_, rfl, wpAny_pure h⟩))) htake)
    | exact wpAny_bind (wpAny_bind (m := Builtin.Tuple.tupleExact _) (wpAny_newObj_type (wpAny_pure (wpAny_pure ⟨_, rfl, wpAny_pure h⟩)) htake))
    | exact wpAny_bind (wpAny_bind (m := Builtin.Tuple.tupleExact _) (wpAny_newObj_type (wpAny_pure ⟨_, rfl, wpAny_pure h⟩) htake))
end
def tRevA (K : PySem.W.Frag) (te : TE) : TE := fun σ H Q => te σ H fun x H1 => ∃ a xs, x = .ref a ∧ ((SqL K H1 a xs ∧ ∀ p, H1 p = none → Q (.ref p) (upd H1 p (.lst xs.reverse))) ∨ (SqT K H1 a xs ∧ ∀ p, H1 p = none → Q (.ref p) (upd H1 p (.tup xs.reverse))))
def pRev : D → Option D
  | .lst l => some (.lst l.reverse)
  | .tup l => some (.tup l.reverse)
  | .kt l => some (.tup l.reverse)
  | _ => none
section
variable {X : Cx} {E : XK} {fa : Den D} {fl : Den D}
theorem pe_revA {e : Expr} {te : TE} {k : Nat} {p1 p2 p3 pos : Pos} (he : PE X e te) : PE X (.Subscript e (.Slice none none (some (.UnaryOp .USub (.Constant (.int 1) k p1) p2)) p3) pos) (tRevA X.K te) := by
  refine ⟨fun pins s σ H Q I h => ?_⟩
  refine Subscript_ (thn (he.run pins s σ H _ I h) fun v s1 ⟨x, H1, I1, r1, q1⟩ => ?_)
  obtain ⟨a, xs, ex, q⟩ := q1
  subst ex
  cases r1
  have hst : PO X (some (.UnaryOp .USub (.Constant (.int 1) k p1) p2)) (tPart (tUn (rU fun i => .int (-i)) (tC (.int 1)))) := po_some (pe_un un_neg pe_int)
  refine wpAny_Slice (thn (po_none.run pins s1 σ H1 (fun o H2 => o = none ∧ H2 = H1) I1 ⟨rfl, rfl⟩) fun vl s2 ⟨l, H2, I2, pl, el, e2⟩ => ?_)
  subst el e2
  refine thn (po_none.run pins s2 σ H2 (fun o H3 => o = none ∧ H3 = H2) I2 ⟨rfl, rfl⟩) fun vu s3 ⟨u, H3, I3, pu, eu, e3⟩ => ?_
  subst eu e3
  refine thn (hst.run pins s3 σ H3 (fun o H4 => o = some (-1) ∧ H4 = H3) I3 ⟨1, rfl, -1, rfl, rfl, rfl⟩) fun vs s4 ⟨o, H4, I4, ps, eo, e4⟩ => ?_
  subst eo e4
  have I5 : Inv X pins σ H4 { s4 with heap := s4.heap.push { cls := .type "slice", data := .fields #[vl, vu, vs] } } := I4.kept (t' := s4.toks) fun b ob q => Heap.get?_push_of_some _ q
  show wpAny (model X.prog X.w) X.A (subscriptTail e (.Slice none none (some (.UnaryOp .USub (.Constant (.int 1) k p1) p2)) p3) (.ref a) (.ref s4.heap.objs.size)) (EP X pins σ Q) X.xe { s4 with heap := s4.heap.push { cls := .type "slice", data := .fields #[vl, vu, vs] } }
  rcases q with ⟨hx, q⟩ | ⟨hx, q⟩
  · obtain ⟨its, r, ht, hz⟩ := I5.list hx
    have hlen := r.length
    refine tail_any (ops := [.ref a, .ref s4.heap.objs.size]) ht.isList.typeIs (PySem.slot_list_getitem.lookup) ?_ (by with_unfolding_all rfl)
    refine wpAny_getItem_list_slice ht.isList (Heap.IsSliceOf.new _ vl vu vs) pl pu ps (by decide) ?_ (by rw [List.size_toArray]; omega)
    rw [PySem.W.krv_pick]
    refine ⟨.ref _, _, I5.laid (t' := s4.toks) (o := .lst xs.reverse) (fun b ob q => Heap.get?_push_of_some _ q) (Nat.le_refl _) ?_, rfl, q _ (I5.hok.fresh (Nat.le_refl _))⟩
    exact ⟨by rw [List.length_reverse]; exact hz, _, 0, r.reverse, Heap.get?_push_size _ rfl⟩
  · obtain ⟨its, r, ht, hz⟩ := I5.tuple hx
    have hlen := r.length
    refine tail_any (ops := [.ref a, .ref s4.heap.objs.size]) ht.typeIs PyProof.Rows.slot_tuple_getitem.lookup ?_ (by with_unfolding_all rfl)
    refine getItem_tuple_rev ht (Heap.IsSliceOf.new _ vl vu vs) pl pu ps ?_ (by rw [List.size_toArray]; omega)
    refine ⟨.ref _, _, I5.laid (t' := s4.toks) (o := .tup xs.reverse) (fun b ob q => Heap.get?_push_of_some _ q) (Nat.le_refl _) ?_, rfl, q _ (I5.hok.fresh (Nat.le_refl _))⟩
    exact ⟨by rw [List.length_reverse]; exact hz, _, r.reverse, IsTup.new _ _⟩
theorem RepL.reverse {K : PySem.W.Frag} {F : Hp} : ∀ {l : List D} {vs : List V}, RepL K F l vs → RepL K F l.reverse vs.reverse
  | [], _, rfl => rfl
  | d :: l, _, ⟨v, r, rfl, q, t⟩ => by
    rw [List.reverse_cons, List.reverse_cons]
    exact t.reverse.append (.cons q .nil)
theorem de_rev {e : Expr} {k : Nat} {p1 p2 p3 pos : Pos} (he : PE X e (TD X E fa)) : PE X (.Subscript e (.Slice none none (some (.UnaryOp .USub (.Constant (.int 1) k p1) p2)) p3) pos) (TD X E (dUn pRev fa)) :=
  (pe_revA he).imp fun σ H Q ⟨F, ρ, S, h⟩ => ⟨F, ρ, S, h.bind.mono fun x ρ1 H1 F1 S1 h1 v rv => by
    obtain ⟨l, e, k⟩ := h1.of
    cases x <;> simp only [pRev] at e <;> cases e
    · obtain ⟨a, vs, rfl, ha, r⟩ := rv
      exact ⟨a, vs, rfl, .inr ⟨.of (S1.sat.sub _ _ ha), fun p hp => k _ _ (.alloc S1.sat hp) _ ⟨p, _, rfl, upd_same, r.reverse.mono (same_up (S1.sat.sub.free hp))⟩⟩⟩
    · obtain ⟨a, vs, rfl, ha, r⟩ := rv
      exact ⟨a, vs, rfl, .inl ⟨.of (S1.sat.sub _ _ ha), fun p hp => k _ _ (.alloc S1.sat hp) _ ⟨p, _, rfl, upd_same, r.reverse.mono (same_up (S1.sat.sub.free hp))⟩⟩⟩
    · obtain ⟨a, vs, rfl, ha, r⟩ := rv
      exact ⟨a, vs, rfl, .inr ⟨same_sqT S1.sat.sub ha, fun p hp => k _ _ (.alloc S1.sat hp) _ ⟨p, _, rfl, upd_same, r.reverse.mono (same_up (S1.sat.sub.free hp))⟩⟩⟩⟩
end
end DL

namespace DL
open PySem PySem.Spec PyProof.Rows L2

def gCatF : D → D → Option (List D) := fun x y => match gCatL x y with
  | some (.lst l) => some l
  | _ => none
def dArgs (n : Nat) (g : List D → FR) : List D → FR := fun l => if l.length + ([] : List D).length = n then g (l ++ []) else .stuck
theorem dArgs_eq {n : Nat} {g : List D → FR} {l : List D} (h : l.length = n) : dArgs n g l = g l := by
  unfold dArgs
  rw [if_pos (by simpa using h), List.append_nil]
def dArgsM (n : Nat) (g : List D → List D → FM) : List D → List D → FM := fun l ds => if ds.length + 1 = n then g l ds else .stuck
def dArgsO (n : Nat) (g : List D → FO) : List D → FO := fun l => if l.length = n then g l else .stuck
section
variable {X : Cx} {E : XK} {pr : Bool} {a b e o : Expr} {es rest : List Expr} {pos : Pos} {fa fb : Den D} {fs : Den (List D)} {fl fm : Den (List D)} {k : Nat} {f : Addr} {fd : FuncData} {ps : List Str} {x : Str} {p : Pos} {n : Nat}
theorem dsl_cat (ha : PE X a (TD X E fa)) (hb : PE X b (TD X E fb)) : PE X (.BinOp a .Add b pos) (TSl X E (dOwn (dBinF gCatF fa fb))) :=
  (pe_op op_cat ha hb).imp fun σ H Q ⟨F, ρ, S, h⟩ => ⟨F, ρ, S, h.bind.bind.mono fun x ρ1 H1 F1 S1 h1 vx rx => ⟨F1, ρ1, S1.sat, h1.bind.mono fun y ρ2 H2 F2 S2 h2 vy ry => by
    obtain ⟨l, el, kk⟩ := h2.of
    unfold gCatF gCatL at el
    have rx := rx.mono S2.mono
    cases x <;> cases y <;> simp only at el <;> try cases el
    rename_i l1 l2
    split at el
    · rename_i l' e'
      split at e'
      · rename_i hz
        cases e'
        cases el
        obtain ⟨q1, vs, rfl, ha, ra⟩ := rx
        obtain ⟨q2, ws, rfl, hb, rb⟩ := ry
        have r12 := ra.append rb
        refine ⟨q1, q2, vs, ws, rfl, rfl, S2.sat.sub _ _ ha, S2.sat.sub _ _ hb, by rw [← ra.length, ← rb.length]; exact sz_line hz, fun u hu => ?_⟩
        have kk := kk _ _ (.refl S2.sat)
        exact kk _ _ (.allocOwn S2.sat hu) (.ref u) ⟨u, _, rfl, upd_same, S2.sat.sub.free hu, r12⟩ (fresh_of (S1.trans S2) hu)
      · cases e'
    · cases el⟩⟩
theorem de_callA {g : List D → FR} (F : FnOk X.prog X.w X.K X.mg X.base (CX X.prog X.w) k f fd ps (spA X.K X.mg n g)) (hr : Room k X.A) (hg : Gl X x) (hm : X.mg x = some (.ref f)) (hk : PySem.W.keepIn X.K (.ref f) = true)
    (hb : Binds X.K fd ps []) (hx : Passes (CX X.prog X.w) X E) (ha : PA X (e :: es) (TA X E fs)) (hdb : (x == ("__debug__" : Str)) = false := by decide) (he : starEach (e :: es) X.env = (false, eval e X.env) :: starEach es X.env := by rfl)
    (hpl : (backTo pos (starEach es X.env)).any (·.1) = false := by rfl) : PE X (.Call (.Name x p) (e :: es) [] pos) (TD X E (dFn (dArgs n g) fs)) :=
  de_call (dd := []) (dvs := []) F hr hg hm hk hb .nil (fun _ => rfl) hx ha hdb he hpl
theorem de_call0A {g : List D → FR} (F : FnOk X.prog X.w X.K X.mg X.base (CX X.prog X.w) k f fd ps (spA X.K X.mg n g)) (hr : Room k X.A) (hg : Gl X x) (hm : X.mg x = some (.ref f)) (hk : PySem.W.keepIn X.K (.ref f) = true)
    (hb : Binds X.K fd ps []) (hx : Passes (CX X.prog X.w) X E) (hdb : (x == ("__debug__" : Str)) = false := by decide) : PE X (.Call (.Name x p) [] [] pos) (TD X E (dFn (dArgs n g) dNil)) :=
  (pe_call0 (dvs := []) F hr hg hm hk hb .nil hx hdb).imp fun σ H Q ⟨F, ρ, S, h⟩ => by
    have h1 : good X.K X.mg E σ ρ H F (frR (dArgs n g []) ρ) fun d _ H' F' => ∀ v, Rep X.K F' d v → Q v H' := h
    unfold dArgs at h1
    by_cases hl : ([] : List D).length + ([] : List D).length = n
    · rw [if_pos hl] at h1
      exact fn_of' S RepL.nil (by simpa using hl) h1
    · rw [if_neg hl] at h1
      exact h1.elim
def blkB (N : List Str) (sc scope : Scope) (own : List (Str × Nat)) : Bool :=
  (scope.names.all fun y => decide (scope.names.lookup y.1 = some y.2)) && (own.all fun p => decide (N[p.2]? = some p.1)) && (scope.names.all fun y => !decide (y.2 = .free) || (decide (sc.names.lookup y.1 = some .cell) || decide (sc.names.lookup y.1 = some .free))) &&
    (scope.names.all fun y => !(decide (y.2 = .local) || decide (y.2 = .cell)) || (decide (y.1 ∈ own.map (·.1)) || !decide (y.1 ∈ N)))
theorem blkOk_of {N : List Str} {sc scope : Scope} {own : List (Str × Nat)} (hk : scope.kind = .function) (h : blkB N sc scope own = true) : BlkOk N sc scope own := by
  unfold blkB at h
  simp only [Bool.and_eq_true, List.all_eq_true, Bool.or_eq_true, Bool.not_eq_true', decide_eq_true_eq, decide_eq_false_iff_not] at h
  obtain ⟨⟨⟨h1, h2⟩, h3⟩, h4⟩ := h
  refine ⟨hk, h1, h2, fun y hy e => ?_, fun y hy e => ?_⟩
  · rcases h3 y hy with q | q
    · exact absurd e q
    · exact q
  · rcases h4 y hy with q | q
    · have : (decide (y.2 = .local) || decide (y.2 = .cell)) = true := by
        rw [Bool.or_eq_true]
        exact e.imp (fun z => decide_eq_true z) fun z => decide_eq_true z
      rw [this] at q
      cases q
    · exact q
theorem pss_stuck {body : List Stmt} : PSs X body (TSt X E pr fun _ => .stuck) := ⟨fun pins s σ H Dn I ⟨Z, F, ρ, _, en, h⟩ => h.elim⟩
end
end DL

namespace DL
open PySem PySem.Spec PyProof.Rows L2

/-! ### how the data functions are worked out -/
@[simp] theorem e_okB {α β : Type} (a : α) (ρ : En) (g : α → En → Res β) : (Res.ok a ρ).bind g = g a ρ := (rfl : _ = _).trans rfl
@[simp] theorem e_errB {α β : Type} (x : Exn) (ρ : En) (g : α → En → Res β) : (Res.err (α := α) x ρ).bind g = .err x ρ := (rfl : _ = _).trans rfl
@[simp] theorem e_stuckB {α β : Type} (g : α → En → Res β) : (Res.stuck (α := α)).bind g = .stuck := (rfl : _ = _).trans rfl
@[simp] theorem e_sBok {α : Type} (a : α) (ρ : En) (g : α → En → SR) : sB (Res.ok a ρ) g = g a ρ := (rfl : _ = _).trans rfl
@[simp] theorem e_sBerr {α : Type} (x : Exn) (ρ : En) (g : α → En → SR) : sB (Res.err (α := α) x ρ) g = .er x ρ := (rfl : _ = _).trans rfl
@[simp] theorem e_sBstuck {α : Type} (g : α → En → SR) : sB (Res.stuck (α := α)) g = .stuck := (rfl : _ = _).trans rfl
@[simp] theorem e_of_some {α : Type} (a : α) (ρ : En) : Res.of (some a) ρ = .ok a ρ := (rfl : _ = _).trans rfl
@[simp] theorem e_of_none {α : Type} (ρ : En) : Res.of (none : Option α) ρ = .stuck := (rfl : _ = _).trans rfl
@[simp] theorem e_sz (n : Nat) : (sz n = true) = (n ≤ 16777216) := by
  unfold sz
  simp
@[simp] theorem e_asB (b : Bool) : asB (.bl b) = some b := (rfl : _ = _).trans rfl
def varR : Option Sl → Nat → En → Res D
  | some (.d x), _, ρ => .ok x ρ
  | some (.own l), i, ρ => .ok (.lst l) (ρ.set i (.d (.lst l)))
  | some (.ownT ks l), i, ρ => .ok (.dct ks l) (ρ.set i (.d (.dct ks l)))
  | some (.ownK ks l), i, ρ => .ok (.dck ks l) (ρ.set i (.d (.dck ks l)))
  | some .un, _, _ => .stuck
  | none, _, _ => .stuck
@[simp] theorem e_varD (x : D) (i : Nat) (ρ : En) : varR (some (.d x)) i ρ = .ok x ρ := (rfl : _ = _).trans rfl
@[simp] theorem e_varO (l : List D) (i : Nat) (ρ : En) : varR (some (.own l)) i ρ = .ok (.lst l) (ρ.set i (.d (.lst l))) := (rfl : _ = _).trans rfl
@[simp ↓] theorem e_dVar (i : Nat) (ρ : En) : dVar i ρ = varR ρ[i]? i ρ := by
  unfold dVar
  generalize ρ[i]? = o
  cases o with
  | none => rfl
  | some s => cases s <;> rfl
@[simp ↓] theorem e_dC (d : D) (ρ : En) : dC d ρ = .ok d ρ := (rfl : _ = _).trans rfl
def binK (g : D → D → Option D) (fb : Den D) (x : D) (ρ : En) : Res D := (fb ρ).bind fun y ρ2 => Res.of (g x y) ρ2
@[simp ↓] theorem e_binK (g : D → D → Option D) (fb : Den D) (x : D) (ρ : En) : binK g fb x ρ = (fb ρ).bind fun y ρ2 => Res.of (g x y) ρ2 := (rfl : _ = _).trans rfl
@[simp ↓] theorem e_dBin (g : D → D → Option D) (fa fb : Den D) (ρ : En) : dBin g fa fb ρ = (fa ρ).bind (binK g fb) := (rfl : _ = _).trans rfl
@[simp ↓] theorem e_dUn (g : D → Option D) (fa : Den D) (ρ : En) : dUn g fa ρ = (fa ρ).bind fun x ρ1 => Res.of (g x) ρ1 := (rfl : _ = _).trans rfl
@[simp ↓] theorem e_dTest (fa : Den D) (ρ : En) : dTest fa ρ = (fa ρ).bind fun x ρ1 => Res.of (asB x) ρ1 := (rfl : _ = _).trans rfl
def andK (fb : Den Bool) (b : Bool) (ρ : En) : Res Bool := if b = true then fb ρ else .ok false ρ
@[simp ↓] theorem e_andK1 (fb : Den Bool) (ρ : En) : andK fb true ρ = fb ρ := (rfl : _ = _).trans rfl
@[simp ↓] theorem e_andK0 (fb : Den Bool) (ρ : En) : andK fb false ρ = .ok false ρ := (rfl : _ = _).trans rfl
@[simp] theorem e_andK (fb : Den Bool) (b : Bool) (ρ : En) : andK fb b ρ = if b = true then fb ρ else .ok false ρ := (rfl : _ = _).trans rfl
@[simp ↓] theorem e_dAndB (fa fb : Den Bool) (ρ : En) : dAndB fa fb ρ = (fa ρ).bind (andK fb) := (rfl : _ = _).trans rfl
def orK (fb : Den Bool) (b : Bool) (ρ : En) : Res Bool := if b = true then .ok true ρ else fb ρ
@[simp ↓] theorem e_orK1 (fb : Den Bool) (ρ : En) : orK fb true ρ = .ok true ρ := (rfl : _ = _).trans rfl
@[simp ↓] theorem e_orK0 (fb : Den Bool) (ρ : En) : orK fb false ρ = fb ρ := (rfl : _ = _).trans rfl
@[simp] theorem e_orK (fb : Den Bool) (b : Bool) (ρ : En) : orK fb b ρ = if b = true then .ok true ρ else fb ρ := (rfl : _ = _).trans rfl
@[simp ↓] theorem e_dOrB (fa fb : Den Bool) (ρ : En) : dOrB fa fb ρ = (fa ρ).bind (orK fb) := (rfl : _ = _).trans rfl
@[simp ↓] theorem e_dNotB (fa : Den Bool) (ρ : En) : dNotB fa ρ = (fa ρ).bind fun b ρ1 => .ok (!b) ρ1 := (rfl : _ = _).trans rfl
def andV (fb : Den D) (b : Bool) (ρ : En) : Res D := if b = true then fb ρ else .ok (.bl false) ρ
@[simp] theorem e_andV (fb : Den D) (b : Bool) (ρ : En) : andV fb b ρ = if b = true then fb ρ else .ok (.bl false) ρ := (rfl : _ = _).trans rfl
@[simp ↓] theorem e_dAnd (fa fb : Den D) (ρ : En) : dAnd fa fb ρ = (dTest fa ρ).bind (andV fb) := (rfl : _ = _).trans rfl
def orV (fb : Den D) (b : Bool) (ρ : En) : Res D := if b = true then .ok (.bl true) ρ else fb ρ
@[simp] theorem e_orV (fb : Den D) (b : Bool) (ρ : En) : orV fb b ρ = if b = true then .ok (.bl true) ρ else fb ρ := (rfl : _ = _).trans rfl
@[simp ↓] theorem e_dOr (fa fb : Den D) (ρ : En) : dOr fa fb ρ = (dTest fa ρ).bind (orV fb) := (rfl : _ = _).trans rfl
@[simp ↓] theorem e_dNot (fa : Den D) (ρ : En) : dNot fa ρ = (dTest fa ρ).bind fun b ρ1 => .ok (.bl (!b)) ρ1 := (rfl : _ = _).trans rfl
def ifV (fa fb : Den D) (b : Bool) (ρ : En) : Res D := if b = true then fa ρ else fb ρ
@[simp] theorem e_ifV (fa fb : Den D) (b : Bool) (ρ : En) : ifV fa fb b ρ = if b = true then fa ρ else fb ρ := (rfl : _ = _).trans rfl
@[simp ↓] theorem e_dIf (fc : Den Bool) (fa fb : Den D) (ρ : En) : dIf fc fa fb ρ = (fc ρ).bind (ifV fa fb) := (rfl : _ = _).trans rfl
@[simp ↓] theorem e_dNil (ρ : En) : dNil ρ = .ok [] ρ := (rfl : _ = _).trans rfl
def consK (fr : Den (List D)) (x : D) (ρ : En) : Res (List D) := (fr ρ).bind fun xs ρ2 => .ok (x :: xs) ρ2
@[simp ↓] theorem e_consK (fr : Den (List D)) (x : D) (ρ : En) : consK fr x ρ = (fr ρ).bind fun xs ρ2 => .ok (x :: xs) ρ2 := (rfl : _ = _).trans rfl
@[simp ↓] theorem e_dCons (fa : Den D) (fr : Den (List D)) (ρ : En) : dCons fa fr ρ = (fa ρ).bind (consK fr) := (rfl : _ = _).trans rfl
@[simp ↓] theorem e_dTup (fs : Den (List D)) (ρ : En) : dTup fs ρ = (fs ρ).bind fun xs ρ1 => if sz xs.length = true then .ok (.tup xs) ρ1 else .stuck := (rfl : _ = _).trans rfl
@[simp ↓] theorem e_dLst (fs : Den (List D)) (ρ : En) : dLst fs ρ = (fs ρ).bind fun xs ρ1 => if sz xs.length = true then .ok (.lst xs) ρ1 else .stuck := (rfl : _ = _).trans rfl
@[simp ↓] theorem e_dLstF (fs : Den (List D)) (ρ : En) : dLstF fs ρ = (fs ρ).bind fun xs ρ1 => if sz xs.length = true then .ok xs ρ1 else .stuck := (rfl : _ = _).trans rfl
@[simp ↓] theorem e_dCh1 (g : D → D → Option D) (fb : Den D) (x : D) (ρ : En) : dCh [(g, fb)] x ρ = (fb ρ).bind fun y ρ1 => Res.of ((g x y).bind asB) ρ1 := (rfl : _ = _).trans rfl
def chN (r : List ((D → D → Option D) × Den D)) (y : D) (b : Bool) (ρ : En) : Res Bool := if b = true then dCh r y ρ else .ok false ρ
@[simp] theorem e_chN (r : List ((D → D → Option D) × Den D)) (y : D) (b : Bool) (ρ : En) : chN r y b ρ = if b = true then dCh r y ρ else .ok false ρ := (rfl : _ = _).trans rfl
def chK (g : D → D → Option D) (r : List ((D → D → Option D) × Den D)) (x y : D) (ρ : En) : Res Bool := (Res.of ((g x y).bind asB) ρ).bind (chN r y)
@[simp ↓] theorem e_chK (g : D → D → Option D) (r : List ((D → D → Option D) × Den D)) (x y : D) (ρ : En) : chK g r x y ρ = (Res.of ((g x y).bind asB) ρ).bind (chN r y) := (rfl : _ = _).trans rfl
@[simp ↓] theorem e_dCh2 (g g' : D → D → Option D) (fb fb' : Den D) (r : List ((D → D → Option D) × Den D)) (x : D) (ρ : En) : dCh ((g, fb) :: (g', fb') :: r) x ρ = (fb ρ).bind (chK g ((g', fb') :: r) x) := (rfl : _ = _).trans rfl
@[simp ↓] theorem e_dChain (fa : Den D) (r : List ((D → D → Option D) × Den D)) (ρ : En) : dChain fa r ρ = (fa ρ).bind (dCh r) := (rfl : _ = _).trans rfl
@[simp ↓] theorem e_dBool (f : Den Bool) (ρ : En) : dBool f ρ = (f ρ).bind fun b ρ1 => .ok (.bl b) ρ1 := (rfl : _ = _).trans rfl
@[simp ↓] theorem e_dD (f : Den D) (ρ : En) : dD f ρ = (f ρ).bind fun x ρ1 => .ok (.d x) ρ1 := (rfl : _ = _).trans rfl
@[simp ↓] theorem e_dOwn (f : Den (List D)) (ρ : En) : dOwn f ρ = (f ρ).bind fun x ρ1 => .ok (.own x) ρ1 := (rfl : _ = _).trans rfl
@[simp ↓] theorem e_dPart0 (ρ : En) : dPart none ρ = .ok none ρ := (rfl : _ = _).trans rfl
def partR : D → En → Res (Option Int)
  | .int i, ρ => .ok (some i) ρ
  | _, _ => .stuck
@[simp] theorem e_partI (i : Int) (ρ : En) : partR (.int i) ρ = .ok (some i) ρ := (rfl : _ = _).trans rfl
@[simp ↓] theorem e_dPart1 (f : Den D) (ρ : En) : dPart (some f) ρ = (f ρ).bind partR := by
  show (f ρ).bind _ = _
  congr 1
  funext x ρ1
  cases x <;> rfl
def slH (x : D) (l h : Option Int) (ρ : En) : Res D := Res.of (gSl x l h) ρ
@[simp ↓] theorem e_slH (x : D) (l h : Option Int) (ρ : En) : slH x l h ρ = Res.of (gSl x l h) ρ := (rfl : _ = _).trans rfl
def slL (hi : Option (Den D)) (x : D) (l : Option Int) (ρ : En) : Res D := (dPart hi ρ).bind (slH x l)
@[simp ↓] theorem e_slL (hi : Option (Den D)) (x : D) (l : Option Int) (ρ : En) : slL hi x l ρ = (dPart hi ρ).bind (slH x l) := (rfl : _ = _).trans rfl
def slK (lo hi : Option (Den D)) (x : D) (ρ : En) : Res D := (dPart lo ρ).bind (slL hi x)
@[simp ↓] theorem e_slK (lo hi : Option (Den D)) (x : D) (ρ : En) : slK lo hi x ρ = (dPart lo ρ).bind (slL hi x) := (rfl : _ = _).trans rfl
@[simp ↓] theorem e_dSl (fa : Den D) (lo hi : Option (Den D)) (ρ : En) : dSl fa lo hi ρ = (fa ρ).bind (slK lo hi) := (rfl : _ = _).trans rfl
@[simp ↓] theorem e_dCall (g : List D → Option D) (fs : Den (List D)) (ρ : En) : dCall g fs ρ = (fs ρ).bind fun xs ρ1 => Res.of (g xs) ρ1 := (rfl : _ = _).trans rfl
@[simp ↓] theorem e_dCallF (g : List D → Option (List D)) (fs : Den (List D)) (ρ : En) : dCallF g fs ρ = (fs ρ).bind fun xs ρ1 => Res.of (g xs) ρ1 := (rfl : _ = _).trans rfl
@[simp ↓] theorem e_dRange (g : List D → Option (List D)) (fs : Den (List D)) (ρ : En) : dRange g fs ρ = (fs ρ).bind fun xs ρ1 => Res.of (g xs) ρ1 := (rfl : _ = _).trans rfl
@[simp ↓] theorem e_dItems (f : Den D) (ρ : En) : dItems f ρ = (f ρ).bind fun x ρ1 => Res.of (itemsD x) ρ1 := (rfl : _ = _).trans rfl
def binF (g : D → D → Option (List D)) (fb : Den D) (x : D) (ρ : En) : Res (List D) := (fb ρ).bind fun y ρ2 => Res.of (g x y) ρ2
@[simp ↓] theorem e_binF (g : D → D → Option (List D)) (fb : Den D) (x : D) (ρ : En) : binF g fb x ρ = (fb ρ).bind fun y ρ2 => Res.of (g x y) ρ2 := (rfl : _ = _).trans rfl
@[simp ↓] theorem e_dBinF (g : D → D → Option (List D)) (fa fb : Den D) (ρ : En) : dBinF g fa fb ρ = (fa ρ).bind (binF g fb) := (rfl : _ = _).trans rfl
def orF (fm : Den (List D)) (l : List D) (ρ : En) : Res (List D) := if l.isEmpty = true then fm ρ else .ok l ρ
@[simp] theorem e_orF (fm : Den (List D)) (l : List D) (ρ : En) : orF fm l ρ = if l.isEmpty = true then fm ρ else .ok l ρ := (rfl : _ = _).trans rfl
@[simp ↓] theorem e_dOrF (fl fm : Den (List D)) (ρ : En) : dOrF fl fm ρ = (fl ρ).bind (orF fm) := (rfl : _ = _).trans rfl
@[simp ↓] theorem e_dLstOf (f : Den (List D)) (ρ : En) : dLstOf f ρ = (f ρ).bind fun l ρ1 => .ok (.lst l) ρ1 := (rfl : _ = _).trans rfl
@[simp ↓] theorem e_dFn (g : List D → FR) (fs : Den (List D)) (ρ : En) : dFn g fs ρ = (fs ρ).bind fun ds ρ1 => frR (g ds) ρ1 := (rfl : _ = _).trans rfl
@[simp] theorem e_frR (d : D) (ρ : En) : frR (.ok d) ρ = .ok d ρ := (rfl : _ = _).trans rfl
@[simp ↓] theorem e_dArgs1 (g : List D → FR) (a : D) : dArgs 1 g [a] = g [a] := (rfl : _ = _).trans rfl
@[simp ↓] theorem e_dArgs2 (g : List D → FR) (a b : D) : dArgs 2 g [a, b] = g [a, b] := (rfl : _ = _).trans rfl
@[simp ↓] theorem e_dArgs3 (g : List D → FR) (a b c : D) : dArgs 3 g [a, b, c] = g [a, b, c] := (rfl : _ = _).trans rfl
@[simp ↓] theorem e_dArgs0 (g : List D → FR) : dArgs 0 g [] = g [] := (rfl : _ = _).trans rfl
@[simp ↓] theorem e_dArgs4 (g : List D → FR) (a b c d : D) : dArgs 4 g [a, b, c, d] = g [a, b, c, d] := (rfl : _ = _).trans rfl
@[simp ↓] theorem e_dArgsM1 (g : List D → List D → FM) (l : List D) : dArgsM 1 g l [] = g l [] := (rfl : _ = _).trans rfl
@[simp ↓] theorem e_dArgsM2 (g : List D → List D → FM) (l : List D) (a : D) : dArgsM 2 g l [a] = g l [a] := (rfl : _ = _).trans rfl
@[simp ↓] theorem e_dArgsM3 (g : List D → List D → FM) (l : List D) (a b : D) : dArgsM 3 g l [a, b] = g l [a, b] := (rfl : _ = _).trans rfl
@[simp ↓] theorem e_dArgsM4 (g : List D → List D → FM) (l : List D) (a b c : D) : dArgsM 4 g l [a, b, c] = g l [a, b, c] := (rfl : _ = _).trans rfl
@[simp ↓] theorem e_dArgsO2 (g : List D → FO) (a b : D) : dArgsO 2 g [a, b] = g [a, b] := (rfl : _ = _).trans rfl
def fmQ : Option (List D) → Nat → (List D → List D → FM) → List D → En → Res D
  | some l, i, g, ds, ρ => fmR i (g l ds) ρ
  | none, _, _, _, _ => .stuck
@[simp] theorem e_fmQ (l : List D) (i : Nat) (g : List D → List D → FM) (ds : List D) (ρ : En) : fmQ (some l) i g ds ρ = fmR i (g l ds) ρ := (rfl : _ = _).trans rfl
@[simp] theorem e_fmR (d : D) (l : List D) (i : Nat) (ρ : En) : fmR i (.ok d l) ρ = .ok d (ρ.set i (.own l)) := (rfl : _ = _).trans rfl
@[simp ↓] theorem e_dFnM (i : Nat) (g : List D → List D → FM) (fs : Den (List D)) (ρ : En) : dFnM i g fs ρ = if (ownL ρ[i]?).isSome = true then (fs ρ).bind fun ds ρ1 => fmQ (ownL ρ1[i]?) i g ds ρ1 else .stuck := by
  unfold dFnM
  congr 1
  congr 1
  funext ds ρ1
  generalize ownL ρ1[i]? = o
  cases o <;> rfl
@[simp] theorem e_ownL (l : List D) : ownL (some (.own l)) = some l := (rfl : _ = _).trans rfl
def ftR : FM → En → Res D
  | .ok d _, ρ => .ok d ρ
  | .err x _, ρ => .err x ρ
  | .stuck, _ => .stuck
@[simp] theorem e_ftR (d : D) (l : List D) (ρ : En) : ftR (.ok d l) ρ = .ok d ρ := (rfl : _ = _).trans rfl
@[simp ↓] theorem e_dFnT (g : List D → List D → FM) (f : Den (List D)) (ρ : En) : dFnT g f ρ = (f ρ).bind fun l ρ1 => ftR (g l []) ρ1 := by
  unfold dFnT
  congr 1
  funext l ρ1
  cases g l [] <;> rfl
@[simp ↓] theorem e_dFnO (g : List D → FO) (fs : Den (List D)) (ρ : En) : dFnO g fs ρ = (fs ρ).bind fun ds ρ1 => foR (g ds) ρ1 := (rfl : _ = _).trans rfl
@[simp] theorem e_foR (l : List D) (ρ : En) : foR (.ok l) ρ = .ok l ρ := (rfl : _ = _).trans rfl
def fnKe (j m n : Nat) (ix : List Nat) (g : List D → FR) (ds es : List D) (ρ : En) : Res D := if ds.length = j ∧ es.length = m ∧ (pick (ds ++ es) ix).length = n then frR (g (pick (ds ++ es) ix)) ρ else .stuck
@[simp ↓] theorem e_fnKe (j m n : Nat) (ix : List Nat) (g : List D → FR) (ds es : List D) (ρ : En) : fnKe j m n ix g ds es ρ = if ds.length = j ∧ es.length = m ∧ (pick (ds ++ es) ix).length = n then frR (g (pick (ds ++ es) ix)) ρ else .stuck := (rfl : _ = _).trans rfl
def fnKd (j m n : Nat) (ix : List Nat) (g : List D → FR) (fk : Den (List D)) (ds : List D) (ρ : En) : Res D := (fk ρ).bind (fnKe j m n ix g ds)
@[simp ↓] theorem e_fnKd (j m n : Nat) (ix : List Nat) (g : List D → FR) (fk : Den (List D)) (ds : List D) (ρ : En) : fnKd j m n ix g fk ds ρ = (fk ρ).bind (fnKe j m n ix g ds) := (rfl : _ = _).trans rfl
@[simp ↓] theorem e_dFnK (j m n : Nat) (ix : List Nat) (g : List D → FR) (fs fk : Den (List D)) (ρ : En) : dFnK j m n ix g fs fk ρ = (fs ρ).bind (fnKd j m n ix g fk) := (rfl : _ = _).trans rfl
@[simp] theorem e_pick0 {α : Type} (l : List α) : pick l [] = [] := (rfl : _ = _).trans rfl
def starR : Option (List D) → Den (List D) → En → Res (List D)
  | some l, fr, ρ => (fr ρ).bind fun xs ρ2 => .ok (l ++ xs) ρ2
  | none, _, _ => .stuck
@[simp ↓] theorem e_starR (l : List D) (fr : Den (List D)) (ρ : En) : starR (some l) fr ρ = (fr ρ).bind fun xs ρ2 => .ok (l ++ xs) ρ2 := (rfl : _ = _).trans rfl
def starK (fr : Den (List D)) (x : D) (ρ : En) : Res (List D) := starR (seqD x) fr ρ
@[simp] theorem e_starK (fr : Den (List D)) (x : D) (ρ : En) : starK fr x ρ = starR (seqD x) fr ρ := (rfl : _ = _).trans rfl
@[simp ↓] theorem e_dStar (fa : Den D) (fr : Den (List D)) (ρ : En) : dStar fa fr ρ = (fa ρ).bind (starK fr) := by
  show (fa ρ).bind _ = _
  congr 1
  funext x ρ1
  unfold starK starR
  cases seqD x <;> rfl
/-- reads of a list that may be changed -/
def lenR : Option Sl → En → Res D
  | some (.own l), ρ => .ok (.int l.length) ρ
  | some (.d x), ρ => Res.of (gLen [x]) ρ
  | _, _ => .stuck
@[simp] theorem e_lenO (l : List D) (ρ : En) : lenR (some (.own l)) ρ = .ok (.int l.length) ρ := (rfl : _ = _).trans rfl
@[simp] theorem e_lenD (x : D) (ρ : En) : lenR (some (.d x)) ρ = Res.of (gLen [x]) ρ := (rfl : _ = _).trans rfl
@[simp ↓] theorem e_dLenO (i : Nat) (ρ : En) : dLenO i ρ = lenR ρ[i]? ρ := by
  unfold dLenO
  generalize ρ[i]? = o
  cases o with
  | none => rfl
  | some s => cases s <;> rfl
def ixR : Option Sl → D → En → Res D
  | some (.own l), k, ρ => Res.of (gIxS (.lst l) k) ρ
  | some (.d x), k, ρ => Res.of (gIxS x k) ρ
  | _, _, _ => .stuck
@[simp] theorem e_ixO (l : List D) (k : D) (ρ : En) : ixR (some (.own l)) k ρ = Res.of (gIxS (.lst l) k) ρ := (rfl : _ = _).trans rfl
@[simp] theorem e_ixD (x k : D) (ρ : En) : ixR (some (.d x)) k ρ = Res.of (gIxS x k) ρ := (rfl : _ = _).trans rfl
@[simp] theorem e_isValO (l : List D) : isVal (some (.own l)) = true := (rfl : _ = _).trans rfl
@[simp] theorem e_isValD (x : D) : isVal (some (.d x)) = true := (rfl : _ = _).trans rfl
@[simp ↓] theorem e_dIxO (i : Nat) (fk : Den D) (ρ : En) : dIxO i fk ρ = if isVal ρ[i]? = true then (fk ρ).bind fun k ρ1 => ixR ρ1[i]? k ρ1 else .stuck := by
  unfold dIxO
  congr 1
  congr 1
  funext k ρ1
  generalize ρ1[i]? = o
  cases o with
  | none => rfl
  | some s => cases s <;> rfl
/-! statements -/
def seqR : SR → Ds → SR
  | .nx ρ, g => g ρ
  | r, _ => r
@[simp] theorem e_seqNx (ρ : En) (g : Ds) : seqR (.nx ρ) g = g ρ := (rfl : _ = _).trans rfl
@[simp] theorem e_seqRt (d : D) (ρ : En) (g : Ds) : seqR (.rt d ρ) g = .rt d ρ := (rfl : _ = _).trans rfl
@[simp] theorem e_seqEr (x : Exn) (ρ : En) (g : Ds) : seqR (.er x ρ) g = .er x ρ := (rfl : _ = _).trans rfl
@[simp] theorem e_seqCt (ρ : En) (g : Ds) : seqR (.ct ρ) g = .ct ρ := (rfl : _ = _).trans rfl
@[simp] theorem e_seqBk (ρ : En) (g : Ds) : seqR (.bk ρ) g = .bk ρ := (rfl : _ = _).trans rfl
@[simp] theorem e_seqSt (g : Ds) : seqR .stuck g = .stuck := (rfl : _ = _).trans rfl
@[simp] theorem e_seqRto (d : List D) (ρ : En) (g : Ds) : seqR (.rto d ρ) g = .rto d ρ := (rfl : _ = _).trans rfl
@[simp ↓] theorem e_sSeq (f g : Ds) (ρ : En) : sSeq f g ρ = seqR (f ρ) g := by
  unfold sSeq
  generalize f ρ = r
  cases r <;> rfl
@[simp ↓] theorem e_sNop (ρ : En) : sNop ρ = .nx ρ := (rfl : _ = _).trans rfl
@[simp ↓] theorem e_sRet (f : Den D) (ρ : En) : sRet f ρ = sB (f ρ) fun d ρ1 => .rt d ρ1 := (rfl : _ = _).trans rfl
@[simp ↓] theorem e_sRetO (f : Den (List D)) (ρ : En) : sRetO f ρ = sB (f ρ) fun l ρ1 => .rto l ρ1 := (rfl : _ = _).trans rfl
def ifS (f g : Ds) (b : Bool) (ρ : En) : SR := if b = true then f ρ else g ρ
@[simp] theorem e_ifS (f g : Ds) (b : Bool) (ρ : En) : ifS f g b ρ = if b = true then f ρ else g ρ := (rfl : _ = _).trans rfl
@[simp ↓] theorem e_sIf (c : Den Bool) (f g : Ds) (ρ : En) : sIf c f g ρ = sB (c ρ) (ifS f g) := (rfl : _ = _).trans rfl
@[simp ↓] theorem e_sDrop (f : Den D) (ρ : En) : sDrop f ρ = sB (f ρ) fun _ ρ1 => .nx ρ1 := (rfl : _ = _).trans rfl
@[simp ↓] theorem e_sSet (i : Nat) (f : Den Sl) (ρ : En) : sSet i f ρ = sB (f ρ) fun s ρ1 => .nx (ρ1.set i s) := (rfl : _ = _).trans rfl
def parK (i j : Nat) (fb : Den Sl) (s : Sl) (ρ : En) : SR := sB (fb ρ) fun t ρ2 => .nx ((ρ2.set i s).set j t)
@[simp ↓] theorem e_parK (i j : Nat) (fb : Den Sl) (s : Sl) (ρ : En) : parK i j fb s ρ = sB (fb ρ) fun t ρ2 => .nx ((ρ2.set i s).set j t) := (rfl : _ = _).trans rfl
@[simp ↓] theorem e_sPar (i j : Nat) (fa fb : Den Sl) (ρ : En) : sPar i j fa fb ρ = sB (fa ρ) (parK i j fb) := (rfl : _ = _).trans rfl
def asgR : Option En → SR
  | some ρ => .nx ρ
  | none => .stuck
@[simp] theorem e_asgR (ρ : En) : asgR (some ρ) = .nx ρ := (rfl : _ = _).trans rfl
@[simp ↓] theorem e_sAsg (t : Tg) (f : Den D) (ρ : En) : sAsg t f ρ = sB (f ρ) fun d ρ1 => asgR (asgT t d ρ1) := by
  have h : (fun d ρ1 => match asgT t d ρ1 with
    | some ρ2 => SR.nx ρ2
    | none => .stuck) = fun d ρ1 => asgR (asgT t d ρ1) := by
    funext d ρ1
    cases asgT t d ρ1 <;> rfl
  exact congrArg (sB (f ρ)) h
@[simp] theorem e_asgN (i : Nat) (d : D) (ρ : En) : asgT (.n i) d ρ = some (ρ.set i (.d d)) := by unfold asgT; rfl
@[simp] theorem e_asgTT (ts : List Tg) (l : List D) (ρ : En) : asgT (.t ts) (.tup l) ρ = asgL ts l ρ := by unfold asgT; rfl
@[simp] theorem e_asgTL (ts : List Tg) (l : List D) (ρ : En) : asgT (.t ts) (.lst l) ρ = asgL ts l ρ := by unfold asgT; rfl
def asgC : Option En → List Tg → List D → Option En
  | some ρ, ts, ds => asgL ts ds ρ
  | none, _, _ => none
@[simp] theorem e_asgC (ρ : En) (ts : List Tg) (ds : List D) : asgC (some ρ) ts ds = asgL ts ds ρ := (rfl : _ = _).trans rfl
@[simp] theorem e_asgC0 (ts : List Tg) (ds : List D) : asgC none ts ds = none := (rfl : _ = _).trans rfl
@[simp] theorem e_asgL0 (ρ : En) : asgL [] [] ρ = some ρ := by unfold asgL; rfl
@[simp] theorem e_asgL1 (t : Tg) (ts : List Tg) (d : D) (ds : List D) (ρ : En) : asgL (t :: ts) (d :: ds) ρ = asgC (asgT t d ρ) ts ds := by
  rw [asgL]
  cases asgT t d ρ <;> rfl
def appR : Option (List D) → Nat → D → En → SR
  | some l, i, d, ρ => if sz (l.length + 1) = true then .nx (ρ.set i (.own (l ++ [d]))) else .stuck
  | none, _, _, _ => .stuck
@[simp] theorem e_appR (l : List D) (i : Nat) (d : D) (ρ : En) : appR (some l) i d ρ = if sz (l.length + 1) = true then .nx (ρ.set i (.own (l ++ [d]))) else .stuck := (rfl : _ = _).trans rfl
@[simp ↓] theorem e_sApp (i : Nat) (f : Den D) (ρ : En) : sApp i f ρ = if (ownL ρ[i]?).isSome = true then sB (f ρ) fun d ρ1 => appR (ownL ρ1[i]?) i d ρ1 else .stuck := by
  unfold sApp
  cases ownL ρ[i]? with
  | none => rfl
  | some l =>
    simp only [Option.isSome_some, if_true]
    congr 1
    funext d ρ1
    cases ownL ρ1[i]? <;> rfl
def putR : Option (List D) → Nat → D → D → En → SR
  | some l, i, d, .int n, ρ => match ixN l.length n with
    | some j => .nx (ρ.set i (.own (l.set j d)))
    | none => .stuck
  | _, _, _, _, _ => .stuck
theorem putR_eq (i : Nat) (d k : D) (ρ : En) : putL i d k ρ = putR (ownL ρ[i]?) i d k ρ := by
  unfold putL putR
  cases k <;> cases ownL ρ[i]? <;> rfl
@[simp] theorem e_putR (l : List D) (i : Nat) (d : D) (n : Int) (ρ : En) : putR (some l) i d (.int n) ρ = match ixN l.length n with
    | some j => .nx (ρ.set i (.own (l.set j d)))
    | none => .stuck := rfl
def putK (i : Nat) (fk : Den D) (d : D) (ρ : En) : SR := if (ownL ρ[i]?).isSome = true then sB (fk ρ) fun k ρ2 => putR (ownL ρ2[i]?) i d k ρ2 else .stuck
@[simp] theorem e_putK (i : Nat) (fk : Den D) (d : D) (ρ : En) : putK i fk d ρ = if (ownL ρ[i]?).isSome = true then sB (fk ρ) fun k ρ2 => putR (ownL ρ2[i]?) i d k ρ2 else .stuck := (rfl : _ = _).trans rfl
@[simp ↓] theorem e_sPutL (i : Nat) (fk f : Den D) (ρ : En) : sPutL i fk f ρ = sB (f ρ) (putK i fk) := by
  show sB (f ρ) _ = _
  congr 1
  funext d ρ1
  unfold putK
  cases ownL ρ1[i]? with
  | none => rfl
  | some l =>
    simp only [Option.isSome_some, if_true]
    congr 1
    funext k ρ2
    exact putR_eq i d k ρ2
@[simp ↓] theorem e_sFor (t : Tg) (fi : Den (List D)) (kl : List Nat) (body : Ds) (ρ : En) : sFor t fi kl body ρ = sB (fi ρ) fun items ρ1 => loopD t kl body items (killE kl ρ1) := (rfl : _ = _).trans rfl
@[simp] theorem e_kill0 (ρ : En) : killE [] ρ = ρ := (rfl : _ = _).trans rfl
@[simp] theorem e_kill1 (i : Nat) (r : List Nat) (ρ : En) : killE (i :: r) ρ = (killE r ρ).set i .un := (rfl : _ = _).trans rfl
/-! whole defs -/
@[simp] theorem e_endAr (d : D) (ρ : En) : endA (.rt d ρ) = .ok d := (rfl : _ = _).trans rfl
@[simp] theorem e_endAn (ρ : En) : endA (.nx ρ) = .ok .non := (rfl : _ = _).trans rfl
@[simp] theorem e_endMr (d : D) (l : List D) (ρ : En) : endM (.rt d (.own l :: ρ)) = .ok d l := (rfl : _ = _).trans rfl
@[simp] theorem e_endMn (l : List D) (ρ : En) : endM (.nx (.own l :: ρ)) = .ok .non l := (rfl : _ = _).trans rfl
@[simp] theorem e_endOr (l : List D) (ρ : En) : endO (.rto l ρ) = .ok l := (rfl : _ = _).trans rfl
/-! operators -/
@[simp] theorem e_addI (i j : Int) : pAdd (.int i) (.int j) = some (.int (i + j)) := (rfl : _ = _).trans rfl
@[simp] theorem e_addL (a b : List D) : pAdd (.lst a) (.lst b) = if sz (a.length + b.length) = true then some (.lst (a ++ b)) else none := (rfl : _ = _).trans rfl
@[simp] theorem e_addT (a b : List D) : pAdd (.tup a) (.tup b) = if sz (a.length + b.length) = true then some (.tup (a ++ b)) else none := (rfl : _ = _).trans rfl
@[simp] theorem e_subI (i j : Int) : pSub (.int i) (.int j) = some (.int (i - j)) := (rfl : _ = _).trans rfl
@[simp] theorem e_mulI (i j : Int) : pMul (.int i) (.int j) = if mulOk i j = true then some (.int (i * j)) else none := (rfl : _ = _).trans rfl
@[simp] theorem e_modI (i j : Int) : pMod (.int i) (.int j) = if 0 < j then some (.int (i % j)) else none := (rfl : _ = _).trans rfl
@[simp] theorem e_divI (i j : Int) : pDiv (.int i) (.int j) = if divOk j = true then some (.int (i / j)) else none := (rfl : _ = _).trans rfl
@[simp] theorem e_ltI (i j : Int) : pLt (.int i) (.int j) = some (.bl (decide (i < j))) := (rfl : _ = _).trans rfl
@[simp] theorem e_leI (i j : Int) : pLe (.int i) (.int j) = some (.bl (decide (i ≤ j))) := (rfl : _ = _).trans rfl
@[simp] theorem e_gtI (i j : Int) : pGt (.int i) (.int j) = some (.bl (decide (j < i))) := (rfl : _ = _).trans rfl
@[simp] theorem e_geI (i j : Int) : pGe (.int i) (.int j) = some (.bl (decide (j ≤ i))) := (rfl : _ = _).trans rfl
@[simp] theorem e_eqI (i j : Int) : pEq (.int i) (.int j) = some (.bl (decide (i = j))) := (rfl : _ = _).trans rfl
@[simp] theorem e_neI (i j : Int) : pNe (.int i) (.int j) = some (.bl (decide (i ≠ j))) := (rfl : _ = _).trans rfl
@[simp] theorem e_negI (i : Int) : gNeg (.int i) = some (.int (-i)) := (rfl : _ = _).trans rfl
@[simp] theorem e_intI (i : Int) : gIntOf [.int i] = some (.int i) := (rfl : _ = _).trans rfl
@[simp] theorem e_intB (b : Bool) : gIntOf [.bl b] = some (.int (if b then 1 else 0)) := (rfl : _ = _).trans rfl
@[simp] theorem e_absI (i : Int) : gAbs [.int i] = some (.int (if i < 0 then -i else i)) := (rfl : _ = _).trans rfl
@[simp] theorem e_lenL (l : List D) : gLen [.lst l] = some (.int l.length) := (rfl : _ = _).trans rfl
@[simp] theorem e_lenT (l : List D) : gLen [.tup l] = some (.int l.length) := (rfl : _ = _).trans rfl
@[simp] theorem e_lenS (l : List Int) : gLen [.scr l] = some (.int l.length) := (rfl : _ = _).trans rfl
@[simp] theorem e_tupL (l : List D) : gTupleOf [.lst l] = some (.tup l) := (rfl : _ = _).trans rfl
@[simp] theorem e_tupT (l : List D) : gTupleOf [.tup l] = some (.tup l) := (rfl : _ = _).trans rfl
@[simp] theorem e_lstL (l : List D) : gListOf [.lst l] = some (.lst l) := (rfl : _ = _).trans rfl
@[simp] theorem e_lstT (l : List D) : gListOf [.tup l] = some (.lst l) := (rfl : _ = _).trans rfl
@[simp] theorem e_ixSL (l : List D) (i : Int) : gIxS (.lst l) (.int i) = atI l i := (rfl : _ = _).trans rfl
@[simp] theorem e_ixST (l : List D) (i : Int) : gIxS (.tup l) (.int i) = atI l i := (rfl : _ = _).trans rfl
@[simp] theorem e_itL (l : List D) : itemsD (.lst l) = some l := (rfl : _ = _).trans rfl
@[simp] theorem e_itT (l : List D) : itemsD (.tup l) = some l := (rfl : _ = _).trans rfl
theorem at_nat {α : Type} {l : List α} {i : Nat} {x : α} (h : l[i]? = some x) : atI l (i : Int) = some x := by
  have hi := (List.getElem?_eq_some_iff.mp h).1
  unfold atI ixN
  rw [if_pos (by omega), if_pos (by omega)]
  simpa using h
/-- a place of a list, by a number that stands -/
@[simp] theorem e_at0 {α : Type} (x : α) (l : List α) : atI (x :: l) 0 = some x := by
  have h : (x :: l)[0]? = some x := rfl
  exact at_nat h
@[simp] theorem e_at1 {α : Type} (x y : α) (l : List α) : atI (x :: y :: l) 1 = some y := by
  have h : (x :: y :: l)[1]? = some y := rfl
  exact at_nat h
@[simp] theorem e_at2 {α : Type} (x y z : α) (l : List α) : atI (x :: y :: z :: l) 2 = some z := by
  have h : (x :: y :: z :: l)[2]? = some z := rfl
  exact at_nat h
@[simp] theorem e_at3 {α : Type} (x y z u : α) (l : List α) : atI (x :: y :: z :: u :: l) 3 = some u := by
  have h : (x :: y :: z :: u :: l)[3]? = some u := rfl
  exact at_nat h
/-! loops -/
def turnR : SR → List Nat → (En → SR) → SR
  | .nx ρ, kl, g => g (killE kl ρ)
  | .ct ρ, kl, g => g (killE kl ρ)
  | .bk ρ, _, _ => .nx ρ
  | r, _, _ => r
def turn0 : Option En → Ds → List Nat → (En → SR) → SR
  | some ρ, body, kl, g => turnR (body ρ) kl g
  | none, _, _, _ => .stuck
@[simp] theorem e_turn0 (ρ : En) (body : Ds) (kl : List Nat) (g : En → SR) : turn0 (some ρ) body kl g = turnR (body ρ) kl g := (rfl : _ = _).trans rfl
@[simp] theorem e_turnNx (ρ : En) (kl : List Nat) (g : En → SR) : turnR (.nx ρ) kl g = g (killE kl ρ) := (rfl : _ = _).trans rfl
@[simp] theorem e_turnCt (ρ : En) (kl : List Nat) (g : En → SR) : turnR (.ct ρ) kl g = g (killE kl ρ) := (rfl : _ = _).trans rfl
@[simp] theorem e_turnBk (ρ : En) (kl : List Nat) (g : En → SR) : turnR (.bk ρ) kl g = .nx ρ := (rfl : _ = _).trans rfl
@[simp] theorem e_turnRt (d : D) (ρ : En) (kl : List Nat) (g : En → SR) : turnR (.rt d ρ) kl g = .rt d ρ := (rfl : _ = _).trans rfl
theorem loop_cons (t : Tg) (kl : List Nat) (body : Ds) (d : D) (r : List D) (ρ : En) : loopD t kl body (d :: r) ρ = turn0 (asgT t d ρ) body kl fun ρ' => loopD t kl body r ρ' := by
  rw [loopD]
  cases asgT t d ρ with
  | none => rfl
  | some ρ1 =>
    dsimp only [turn0]
    cases body ρ1 <;> rfl
theorem loop_nil (t : Tg) (kl : List Nat) (body : Ds) (ρ : En) : loopD t kl body [] ρ = .nx ρ := rfl
/-- a loop by what holds ahead of each turn -/
theorem loop_inv {t : Tg} {kl : List Nat} {body : Ds} {P : SR → Prop} (I : List D → En → Prop) (h0 : ∀ ρ, I [] ρ → P (.nx ρ))
    (hs : ∀ d r ρ, I (d :: r) ρ → ∀ g : En → SR, (∀ ρ', I r ρ' → P (g ρ')) → P (turn0 (asgT t d ρ) body kl g)) : ∀ (items : List D) (ρ : En), I items ρ → P (loopD t kl body items ρ)
  | [], ρ, h => h0 ρ h
  | d :: r, ρ, h => by
    rw [loop_cons]
    exact hs d r ρ h _ fun ρ' h' => loop_inv I h0 hs r ρ' h'
end DL

namespace DL
open PySem PySem.Spec PyProof.Rows L2

/-! ### comprehensions worked out -/
theorem back_kill (ρ : En) (vs : List Nat) : backE ρ vs (killE vs ρ) = ρ := by
  refine List.ext_getElem? fun i => ?_
  by_cases hi : i ∈ vs
  · exact backE_in (killE_len vs ρ) hi
  · rw [backE_out hi, killE_out hi]
theorem comp_nil (t : Tg) (vs : List Nat) (tt : Den Bool) (te : Den D) (ρ : En) : compD t vs tt te [] ρ = .ok [] ρ := rfl
theorem comp_of {t : Tg} {vs : List Nat} {tt : Den Bool} {te : Den D} {ρ0 : En} (f : D → Bool) (g : D → D) : ∀ (items : List D), (∀ d ∈ items, ∃ ρ1 ρ2, asgT t d ρ0 = some ρ1 ∧ tt ρ1 = .ok (f d) ρ2 ∧ (f d = false → killE vs ρ2 = ρ0) ∧ (f d = true → ∃ ρ3, te ρ2 = .ok (g d) ρ3 ∧ killE vs ρ3 = ρ0)) →
    compD t vs tt te items ρ0 = .ok ((items.filter f).map g) ρ0
  | [], _ => rfl
  | d :: r, h => by
    obtain ⟨ρ1, ρ2, h1, h2, h3, h4⟩ := h d (List.mem_cons_self ..)
    have ih := comp_of (t := t) (vs := vs) (tt := tt) (te := te) (ρ0 := ρ0) f g r fun x hx => h x (List.mem_cons_of_mem _ hx)
    rw [compD, h1]
    dsimp only
    rw [h2]
    cases e : f d with
    | false =>
      rw [e_okB, if_neg Bool.false_ne_true, h3 e, ih, List.filter_cons, e, if_neg Bool.false_ne_true]
    | true =>
      obtain ⟨ρ3, h5, h6⟩ := h4 e
      rw [e_okB, if_pos rfl, h5, e_okB, h6, ih, e_okB, List.filter_cons, e, if_pos rfl, List.map_cons]
theorem dComp_of {t : Tg} {vs : List Nat} {fi : Den (List D)} {tt : Den Bool} {te : Den D} {ρ ρ1 : En} {items : List D} (f : D → Bool) (g : D → D) (hi : fi ρ = .ok items ρ1) (hn : noOwn vs ρ1 = true)
    (h : ∀ d ∈ items, ∃ ρ2 ρ3, asgT t d (killE vs ρ1) = some ρ2 ∧ tt ρ2 = .ok (f d) ρ3 ∧ (f d = false → killE vs ρ3 = killE vs ρ1) ∧ (f d = true → ∃ ρ4, te ρ3 = .ok (g d) ρ4 ∧ killE vs ρ4 = killE vs ρ1)) : dComp t vs fi tt te ρ = .ok ((items.filter f).map g) ρ1 := by
  unfold dComp
  rw [hi, e_okB, if_pos hn, comp_of f g items h]
  show Res.ok _ (backE ρ1 vs (killE vs ρ1)) = _
  rw [back_kill]
theorem filter_tt {α : Type} (l : List α) : l.filter (fun _ => true) = l := by
  induction l with
  | nil => rfl
  | cons x l ih => rw [List.filter_cons, if_pos rfl, ih]
/-- .. without a test -/
theorem dComp_map {t : Tg} {vs : List Nat} {fi : Den (List D)} {te : Den D} {ρ ρ1 : En} {items : List D} (g : D → D) (hi : fi ρ = .ok items ρ1) (hn : noOwn vs ρ1 = true)
    (h : ∀ d ∈ items, ∃ ρ2 ρ4, asgT t d (killE vs ρ1) = some ρ2 ∧ te ρ2 = .ok (g d) ρ4 ∧ killE vs ρ4 = killE vs ρ1) : dComp t vs fi (fun ρ => .ok true ρ) te ρ = .ok (items.map g) ρ1 := by
  have := dComp_of (t := t) (vs := vs) (fi := fi) (tt := fun ρ => .ok true ρ) (te := te) (fun _ => true) g hi hn fun d hd => by
    obtain ⟨ρ2, ρ4, h1, h2, h3⟩ := h d hd
    exact ⟨ρ2, ρ2, h1, rfl, fun z => (by cases z), fun _ => ⟨ρ4, h2, h3⟩⟩
  rw [this, filter_tt]
/-- .. that changes what stands -/
theorem comp_inv {t : Tg} {vs : List Nat} {te : Den D} (I : List D → En → Prop) (G : D → Prop) (hs : ∀ d r ρ, I (d :: r) ρ → ∃ ρ1 y ρ2, asgT t d ρ = some ρ1 ∧ te ρ1 = .ok y ρ2 ∧ G y ∧ I r (killE vs ρ2)) :
    ∀ (items : List D) (ρ : En), I items ρ → ∃ ys ρ', compD t vs (fun ρ => .ok true ρ) te items ρ = .ok ys ρ' ∧ (∀ y ∈ ys, G y) ∧ I [] ρ'
  | [], ρ, h => ⟨[], ρ, rfl, fun _ z => (by cases z), h⟩
  | d :: r, ρ, h => by
    obtain ⟨ρ1, y, ρ2, h1, h2, h3, h4⟩ := hs d r ρ h
    obtain ⟨ys, ρ', h5, h6, h7⟩ := comp_inv I G hs r _ h4
    refine ⟨y :: ys, ρ', ?_, fun z hz => ?_, h7⟩
    · rw [compD, h1]
      dsimp only
      rw [e_okB, if_pos rfl, h2, e_okB, h5, e_okB]
    · rcases List.mem_cons.mp hz with rfl | hz
      · exact h3
      · exact h6 z hz
theorem dComp_inv {t : Tg} {vs : List Nat} {fi : Den (List D)} {te : Den D} {ρ ρ1 : En} {items : List D} (I : List D → En → Prop) (G : D → Prop) (hi : fi ρ = .ok items ρ1) (hn : noOwn vs ρ1 = true) (h0 : I items (killE vs ρ1))
    (hs : ∀ d r ρ, I (d :: r) ρ → ∃ ρ1 y ρ2, asgT t d ρ = some ρ1 ∧ te ρ1 = .ok y ρ2 ∧ G y ∧ I r (killE vs ρ2)) : ∃ ys ρ', dComp t vs fi (fun ρ => .ok true ρ) te ρ = .ok ys (backE ρ1 vs ρ') ∧ (∀ y ∈ ys, G y) ∧ I [] ρ' := by
  obtain ⟨ys, ρ', h1, h2, h3⟩ := comp_inv I G hs items _ h0
  refine ⟨ys, ρ', ?_, h2, h3⟩
  unfold dComp
  rw [hi, e_okB, if_pos hn, h1]
  rfl
theorem all_true : ∀ (l : List D), (∀ y ∈ l, y = .bl true) → gAll [.lst l] = some (.bl true)
  | l, h => by
    have : ∀ (l : List D), (∀ y ∈ l, y = .bl true) → asBools l = some (List.replicate l.length true) := fun l => by
      induction l with
      | nil => exact fun _ => rfl
      | cons x l ih =>
        intro h
        have h1 := h x (List.mem_cons_self ..)
        subst h1
        rw [asBools, ih fun y hy => h y (List.mem_cons_of_mem _ hy)]
        rfl
    show (asBools l).map (fun bs => D.bl (bs.all id)) = _
    rw [this l h]
    simp
theorem asBools_mapF {α : Type} (f : α → Bool) : ∀ l : List α, asBools (l.map fun x => .bl (f x)) = some (l.map f)
  | [] => rfl
  | x :: l => by
    rw [List.map_cons, asBools, asBools_mapF f l]
    rfl
theorem all_map {α : Type} (f : α → Bool) (l : List α) : gAll [.lst (l.map fun x => .bl (f x))] = some (.bl (l.all f)) := by
  show (asBools _).map (fun bs => D.bl (bs.all id)) = _
  rw [asBools_mapF]
  simp [List.all_map, Function.comp_def]
theorem any_map {α : Type} (f : α → Bool) (l : List α) : gAny [.lst (l.map fun x => .bl (f x))] = some (.bl (l.any f)) := by
  show (asBools _).map (fun bs => D.bl (bs.any id)) = _
  rw [asBools_mapF]
  simp [List.any_map, Function.comp_def]
theorem rgD_cons (lo : Int) (n : Nat) : rgD lo (n + 1) = .int lo :: rgD (lo + 1) n := by
  unfold rgD
  rw [List.range_succ_eq_map, List.map_cons, List.map_map]
  congr 1
  · simp
  · refine List.map_congr_left fun i _ => ?_
    simp only [Function.comp]
    congr 1
    omega
theorem rgD_zero (lo : Int) : rgD lo 0 = [] := rfl
theorem range1_ok {j : Int} (h : 0 ≤ j) (h1 : j ≤ 16777216) : gRange1 [.int j] = some (rgD 0 j.toNat) := by
  show (if _ then _ else _) = _
  unfold rgOk sz
  rw [if_pos]
  rw [Bool.and_eq_true, decide_eq_true_eq, decide_eq_true_eq]
  omega
theorem range2_ok {i j : Int} (h : 0 ≤ i) (hi : i ≤ 16777216) (h0 : 0 ≤ j) (h1 : j ≤ 16777216) : gRange2 [.int i, .int j] = some (rgD i (j - i).toNat) := by
  show (if _ then _ else _) = _
  unfold rgOk sz
  rw [if_pos]
  rw [Bool.and_eq_true, Bool.and_eq_true, decide_eq_true_eq, decide_eq_true_eq, decide_eq_true_eq]
  omega
@[simp] theorem e_noOwn0 (ρ : En) : noOwn [] ρ = true := (rfl : _ = _).trans rfl
end DL

namespace DL
open PySem PySem.Spec PyProof.Rows L2
/-! ### a law's end -/
theorem walk_w {l : PySem.W.OpenLaw} {n k : Nat} {q : Program} {loose : List Str} {XP : (Str → Option Value) → Heap → Prop} {YP : World → Heap → Prop} {d : DefRec} {x : Str} (hn : l.most = some n) (hn2 : n ≤ sizeLine) (hdf : d.params.defaults = []) (hr : Room k callerA)
    (F : ∀ (w : World) (mg : Str → Option Value) (fa : Addr) (h : Heap), YP w h → h.Ns mainGlobals mg → mg d.name = some (.ref fa) →
      ∃ (K : PySem.W.Frag) (fd : FuncData) (sp : Sp), K.In h ∧ (∀ (s : Shared) (u : Value), BindsTo s fd ⟨[u], []⟩ [(x, u)]) ∧
        (∀ (H : Hp) (a : Addr) (ns : List Int), ns.length ≤ n → SqL K H a (ns.map V.int) → sp [.ref a] H (fun v _ => v = .bl true) fun _ _ _ => False) ∧
        ∀ base : Heap, K.In base → base.Ns mainGlobals mg → FnOk l.prog w K mg base (CX l.prog w) k fa fd [x] sp) : PySem.W.WalkO q loose XP YP l.row.toRowW d [] (fun f vs => PySem.call f vs) :=
  Att.attach_call hn hdf fun w s₀ s₁ mg mb fa o pm cd doc a vs ns G Y ho hd hcd hmg hobj hints hlen hg => by
    obtain ⟨K, fd, sp, KX, hb, hsp, hF⟩ := F w mg fa _ Y G.T.g hmg
    exact law_call (CX := CX l.prog w) KX G.T.g G.T.b G.T.builtins G.T.nolimit hg hobj hints (Nat.le_trans hlen hn2) hr hF hb (fun H _ hS => hsp H a ns hlen hS) fun H e s' ⟨_, _, _, _, _, _, _, _, _, _, _, _, z⟩ => z
end DL

namespace Lk09
open PySem PySem.Spec PyProof.Rows L2 DL
def top (i : Nat) : Stmt := PySem.Challenge.pw_lakevisits_k09_tallies_or_not.main.body.getD i (.Pass ⟨0, 0, 0, 0⟩)
abbrev FnP (K : PySem.W.Frag) (x : Str) (i : Nat) (f : Addr) (fd : FuncData) : Prop := FunD K x x (defArgs (top i)) (defBody (top i)) (defScope (top i)) [] [] f fd
/-- where the defs stand -/
structure As where
  f_is_number : Addr
  e_is_number : FuncData
  f_rises : Addr
  e_rises : FuncData
  f_is_visit : Addr
  e_is_visit : FuncData
  f_is_tally : Addr
  e_is_tally : FuncData
  f_l_box : Addr
  e_l_box : FuncData
  f_l_take : Addr
  e_l_take : FuncData
  f_l_cells : Addr
  e_l_cells : FuncData
  f_l_of : Addr
  e_l_of : FuncData
  f_l_lists : Addr
  e_l_lists : FuncData
  f_l_same : Addr
  e_l_same : FuncData
  f_l_pairs : Addr
  e_l_pairs : FuncData
  f_l_tally : Addr
  e_l_tally : FuncData
  f_l_is_whole : Addr
  e_l_is_whole : FuncData
  f_l_is_tally : Addr
  e_l_is_tally : FuncData
  f_l_odd : Addr
  e_l_odd : FuncData
  f_l_by_hand_right : Addr
  e_l_by_hand_right : FuncData
  f_l_right : Addr
  e_l_right : FuncData
  f_law : Addr
  e_law : FuncData
structure Fx (K : PySem.W.Frag) (mg : Str → Option Value) (a : As) : Prop where
  F_is_number : FnP K "is_number" 1 a.f_is_number a.e_is_number
  g_is_number : mg "is_number" = some (.ref a.f_is_number)
  F_rises : FnP K "rises" 2 a.f_rises a.e_rises
  g_rises : mg "rises" = some (.ref a.f_rises)
  F_is_visit : FnP K "is_visit" 4 a.f_is_visit a.e_is_visit
  g_is_visit : mg "is_visit" = some (.ref a.f_is_visit)
  F_is_tally : FnP K "is_tally" 5 a.f_is_tally a.e_is_tally
  g_is_tally : mg "is_tally" = some (.ref a.f_is_tally)
  F_l_box : FnP K "_law_box" 7 a.f_l_box a.e_l_box
  g_l_box : mg "_law_box" = some (.ref a.f_l_box)
  F_l_take : FnP K "_law_take" 8 a.f_l_take a.e_l_take
  g_l_take : mg "_law_take" = some (.ref a.f_l_take)
  F_l_cells : FnP K "_law_cells" 9 a.f_l_cells a.e_l_cells
  g_l_cells : mg "_law_cells" = some (.ref a.f_l_cells)
  F_l_of : FnP K "_law_of" 10 a.f_l_of a.e_l_of
  g_l_of : mg "_law_of" = some (.ref a.f_l_of)
  F_l_lists : FnP K "_law_lists" 11 a.f_l_lists a.e_l_lists
  g_l_lists : mg "_law_lists" = some (.ref a.f_l_lists)
  F_l_same : FnP K "_law_same" 12 a.f_l_same a.e_l_same
  g_l_same : mg "_law_same" = some (.ref a.f_l_same)
  F_l_pairs : FnP K "_law_pairs" 13 a.f_l_pairs a.e_l_pairs
  g_l_pairs : mg "_law_pairs" = some (.ref a.f_l_pairs)
  F_l_tally : FnP K "_law_tally" 14 a.f_l_tally a.e_l_tally
  g_l_tally : mg "_law_tally" = some (.ref a.f_l_tally)
  F_l_is_whole : FnP K "_law_is_whole" 16 a.f_l_is_whole a.e_l_is_whole
  g_l_is_whole : mg "_law_is_whole" = some (.ref a.f_l_is_whole)
  F_l_is_tally : FnP K "_law_is_tally" 15 a.f_l_is_tally a.e_l_is_tally
  g_l_is_tally : mg "_law_is_tally" = some (.ref a.f_l_is_tally)
  F_l_odd : FnP K "_law_odd" 17 a.f_l_odd a.e_l_odd
  g_l_odd : mg "_law_odd" = some (.ref a.f_l_odd)
  F_l_by_hand_right : FnP K "_law_by_hand_right" 18 a.f_l_by_hand_right a.e_l_by_hand_right
  g_l_by_hand_right : mg "_law_by_hand_right" = some (.ref a.f_l_by_hand_right)
  F_l_right : FnP K "_law_right" 19 a.f_l_right a.e_l_right
  g_l_right : mg "_law_right" = some (.ref a.f_l_right)
  F_law : FnP K "law" 20 a.f_law a.e_law
  g_law : mg "law" = some (.ref a.f_law)
  b_abs : mg "abs" = none
  b_all : mg "all" = none
  b_bool : mg "bool" = none
  b_enumerate : mg "enumerate" = none
  b_int : mg "int" = none
  b_isinstance : mg "isinstance" = none
  b_len : mg "len" = none
  b_list : mg "list" = none
  b_range : mg "range" = none
  b_str : mg "str" = none
  b_tuple : mg "tuple" = none
  b_zip : mg "zip" = none
abbrev N_is_number : List Str := ["thing"]
abbrev p_is_number : List Str := ["thing"]
theorem sc_is_number : FnScope N_is_number p_is_number (defScope (top 1)) := ⟨rfl, rfl, rfl, by decide +kernel, rfl, by decide +kernel, by decide +kernel⟩
abbrev N_rises : List Str := ["things", "one", "other"]
abbrev p_rises : List Str := ["things"]
theorem sc_rises : FnScope N_rises p_rises (defScope (top 2)) := ⟨rfl, rfl, rfl, by decide +kernel, rfl, by decide +kernel, by decide +kernel⟩
abbrev N_is_visit : List Str := ["houses", "thing", "pair", "own"]
abbrev p_is_visit : List Str := ["houses", "thing"]
theorem sc_is_visit : FnScope N_is_visit p_is_visit (defScope (top 4)) := ⟨rfl, rfl, rfl, by decide +kernel, rfl, by decide +kernel, by decide +kernel⟩
abbrev N_is_tally : List Str := ["thing", "pair", "many", "own"]
abbrev p_is_tally : List Str := ["thing"]
theorem sc_is_tally : FnScope N_is_tally p_is_tally (defScope (top 5)) := ⟨rfl, rfl, rfl, by decide +kernel, rfl, by decide +kernel, by decide +kernel⟩
abbrev N_l_box : List Str := ["_law_script", "_law_k", "_law_cell"]
abbrev p_l_box : List Str := ["_law_script", "_law_k"]
theorem sc_l_box : FnScope N_l_box p_l_box (defScope (top 7)) := ⟨rfl, rfl, rfl, by decide +kernel, rfl, by decide +kernel, by decide +kernel⟩
abbrev N_l_take : List Str := ["_law_box_here", "_law_below_so", "_law_once", "_law_far_so", "_law_twice_so", "_law_drawn_so"]
abbrev p_l_take : List Str := ["_law_box_here", "_law_below_so"]
theorem sc_l_take : FnScope N_l_take p_l_take (defScope (top 8)) := ⟨rfl, rfl, rfl, by decide +kernel, rfl, by decide +kernel, by decide +kernel⟩
abbrev N_l_cells : List Str := ["_law_script", "_law_most_so", "_law_cells_here", "_law_k", "_law_cell", "_law_at_so"]
abbrev p_l_cells : List Str := ["_law_script", "_law_most_so"]
theorem sc_l_cells : FnScope N_l_cells p_l_cells (defScope (top 9)) := ⟨rfl, rfl, rfl, by decide +kernel, rfl, by decide +kernel, by decide +kernel⟩
abbrev N_l_of : List Str := ["_law_box_here", "_law_pool_so"]
abbrev p_l_of : List Str := ["_law_box_here", "_law_pool_so"]
theorem sc_l_of : FnScope N_l_of p_l_of (defScope (top 10)) := ⟨rfl, rfl, rfl, by decide +kernel, rfl, by decide +kernel, by decide +kernel⟩
abbrev N_l_lists : List Str := ["_law_matter", "_law_bit"]
abbrev p_l_lists : List Str := ["_law_matter"]
theorem sc_l_lists : FnScope N_l_lists p_l_lists (defScope (top 11)) := ⟨rfl, rfl, rfl, by decide +kernel, rfl, by decide +kernel, by decide +kernel⟩
abbrev N_l_same : List Str := ["_law_got", "_law_due_so", "_law_mine", "_law_its"]
abbrev p_l_same : List Str := ["_law_got", "_law_due_so"]
theorem sc_l_same : FnScope N_l_same p_l_same (defScope (top 12)) := ⟨rfl, rfl, rfl, by decide +kernel, rfl, by decide +kernel, by decide +kernel⟩
abbrev N_l_pairs : List Str := ["_law_size_so", "_law_found", "_law_one_so", "_law_two_so"]
abbrev p_l_pairs : List Str := ["_law_size_so"]
theorem sc_l_pairs : FnScope N_l_pairs p_l_pairs (defScope (top 13)) := ⟨rfl, rfl, rfl, by decide +kernel, rfl, by decide +kernel, by decide +kernel⟩
abbrev N_l_tally : List Str := ["_law_box_here", "_law_size_so", "_law_top_so", "_law_sort_so", "_law_found", "_law_pair_so", "_law_many_so"]
abbrev p_l_tally : List Str := ["_law_box_here", "_law_size_so", "_law_top_so"]
theorem sc_l_tally : FnScope N_l_tally p_l_tally (defScope (top 14)) := ⟨rfl, rfl, rfl, by decide +kernel, rfl, by decide +kernel, by decide +kernel⟩
abbrev N_l_is_whole : List Str := ["_law_own"]
abbrev p_l_is_whole : List Str := ["_law_own"]
theorem sc_l_is_whole : FnScope N_l_is_whole p_l_is_whole (defScope (top 16)) := ⟨rfl, rfl, rfl, by decide +kernel, rfl, by decide +kernel, by decide +kernel⟩
abbrev N_l_is_tally : List Str := ["_law_matter", "_law_own", "_law_k", "_law_bit"]
abbrev p_l_is_tally : List Str := ["_law_matter"]
theorem sc_l_is_tally : FnScope N_l_is_tally p_l_is_tally (defScope (top 15)) := ⟨rfl, rfl, rfl, by decide +kernel, rfl, by decide +kernel, by decide +kernel⟩
abbrev N_l_odd : List Str := ["_law_box_here", "_law_matter", "_law_some", "_law_k"]
abbrev p_l_odd : List Str := ["_law_box_here", "_law_matter"]
theorem sc_l_odd : FnScope N_l_odd p_l_odd (defScope (top 17)) := ⟨rfl, rfl, rfl, by decide +kernel, rfl, by decide +kernel, by decide +kernel⟩
abbrev N_l_by_hand_right : List Str := ["_law_some", "_law_odd_so", "_law_deep_so", "_law_turn", "_law_got", "_law_own"]
abbrev p_l_by_hand_right : List Str := []
theorem sc_l_by_hand_right : FnScope N_l_by_hand_right p_l_by_hand_right (defScope (top 18)) := ⟨rfl, rfl, rfl, by decide +kernel, rfl, by decide +kernel, by decide +kernel⟩
abbrev N_l_right : List Str := ["_law_box_here", "_law_turn", "_law_tally_so", "_law_got", "_law_lap", "_law_odd_so"]
abbrev p_l_right : List Str := ["_law_box_here"]
theorem sc_l_right : FnScope N_l_right p_l_right (defScope (top 19)) := ⟨rfl, rfl, rfl, by decide +kernel, rfl, by decide +kernel, by decide +kernel⟩
abbrev N_law : List Str := ["_law_script", "_law_cells_here", "_law_k"]
abbrev p_law : List Str := ["_law_script"]
theorem sc_law : FnScope N_law p_law (defScope (top 20)) := ⟨rfl, rfl, rfl, by decide +kernel, rfl, by decide +kernel, by decide +kernel⟩
section
variable {P : Program} {w : World} {K : PySem.W.Frag} {mg : Str → Option Value} {base : Heap} {a : As}
theorem bi_is_number (h : Fx K mg a) : Binds K a.e_is_number p_is_number [] := h.F_is_number.bindsN fun _ _ _ _ _ _ us hl => match us, hl with | [_], _ => rfl
theorem bi_rises (h : Fx K mg a) : Binds K a.e_rises p_rises [] := h.F_rises.bindsN fun _ _ _ _ _ _ us hl => match us, hl with | [_], _ => rfl
theorem bi_is_visit (h : Fx K mg a) : Binds K a.e_is_visit p_is_visit [] := h.F_is_visit.bindsN fun _ _ _ _ _ _ us hl => match us, hl with | [_, _], _ => rfl
theorem bi_is_tally (h : Fx K mg a) : Binds K a.e_is_tally p_is_tally [] := h.F_is_tally.bindsN fun _ _ _ _ _ _ us hl => match us, hl with | [_], _ => rfl
theorem kb_is_tally_0 (h : Fx K mg a) : KBn K a.e_is_tally p_is_tally 0 ["thing"] (fun us ws => pick (us ++ ws) [0]) (fun vs zs => pick (vs ++ zs) [0]) := kbn_of h.F_is_tally 0 ["thing"] [0] fun _ _ _ _ _ _ us ws h1 h2 => match us, h1, ws, h2 with | [], _, [_], _ => rfl
theorem bi_l_box (h : Fx K mg a) : Binds K a.e_l_box p_l_box [] := h.F_l_box.bindsN fun _ _ _ _ _ _ us hl => match us, hl with | [_, _], _ => rfl
theorem bi_l_take (h : Fx K mg a) : Binds K a.e_l_take p_l_take [] := h.F_l_take.bindsN fun _ _ _ _ _ _ us hl => match us, hl with | [_, _], _ => rfl
theorem bi_l_cells (h : Fx K mg a) : Binds K a.e_l_cells p_l_cells [] := h.F_l_cells.bindsN fun _ _ _ _ _ _ us hl => match us, hl with | [_, _], _ => rfl
theorem bi_l_of (h : Fx K mg a) : Binds K a.e_l_of p_l_of [] := h.F_l_of.bindsN fun _ _ _ _ _ _ us hl => match us, hl with | [_, _], _ => rfl
theorem bi_l_lists (h : Fx K mg a) : Binds K a.e_l_lists p_l_lists [] := h.F_l_lists.bindsN fun _ _ _ _ _ _ us hl => match us, hl with | [_], _ => rfl
theorem bi_l_same (h : Fx K mg a) : Binds K a.e_l_same p_l_same [] := h.F_l_same.bindsN fun _ _ _ _ _ _ us hl => match us, hl with | [_, _], _ => rfl
theorem bi_l_pairs (h : Fx K mg a) : Binds K a.e_l_pairs p_l_pairs [] := h.F_l_pairs.bindsN fun _ _ _ _ _ _ us hl => match us, hl with | [_], _ => rfl
theorem bi_l_tally (h : Fx K mg a) : Binds K a.e_l_tally p_l_tally [] := h.F_l_tally.bindsN fun _ _ _ _ _ _ us hl => match us, hl with | [_, _, _], _ => rfl
theorem bi_l_is_whole (h : Fx K mg a) : Binds K a.e_l_is_whole p_l_is_whole [] := h.F_l_is_whole.bindsN fun _ _ _ _ _ _ us hl => match us, hl with | [_], _ => rfl
theorem bi_l_is_tally (h : Fx K mg a) : Binds K a.e_l_is_tally p_l_is_tally [] := h.F_l_is_tally.bindsN fun _ _ _ _ _ _ us hl => match us, hl with | [_], _ => rfl
theorem bi_l_odd (h : Fx K mg a) : Binds K a.e_l_odd p_l_odd [] := h.F_l_odd.bindsN fun _ _ _ _ _ _ us hl => match us, hl with | [_, _], _ => rfl
theorem bi_l_by_hand_right (h : Fx K mg a) : Binds K a.e_l_by_hand_right p_l_by_hand_right [] := h.F_l_by_hand_right.bindsN fun _ _ _ _ _ _ us hl => match us, hl with | [], _ => rfl
theorem bi_l_right (h : Fx K mg a) : Binds K a.e_l_right p_l_right [] := h.F_l_right.bindsN fun _ _ _ _ _ _ us hl => match us, hl with | [_], _ => rfl
theorem bi_law (h : Fx K mg a) : Binds K a.e_law p_law [] := h.F_law.bindsN fun _ _ _ _ _ _ us hl => match us, hl with | [_], _ => rfl
end
def s_is_number : Ds := sRet (dAnd (dCall gIsi (dCons (dVar 0) (dCons (dC (.ty "int")) (dNil)))) (dNot (dCall gIsi (dCons (dVar 0) (dCons (dC (.ty "bool")) (dNil))))))
def d_is_number : List D → FR := runA 1 N_is_number.length s_is_number
def s_rises : Ds := sRet (dCall gAll (dCons (dLstOf (dComp (.t [.n 1, .n 2]) [1, 2] (dRange gZip2 (dCons (dVar 0) (dCons (dSl (dVar 0) (some (dC (.int 1))) none) (dNil)))) (fun ρ => .ok true ρ) (dBin pLt (dVar 1) (dVar 2)))) (dNil)))
def d_rises : List D → FR := runA 1 N_rises.length s_rises
def s_is_visit : Ds := sSeq (sIf (dOrB (dNotB (dTest (dCall gIsi (dCons (dVar 1) (dCons (dC (.ty "tuple")) (dNil)))))) (dOrB (dTest (dBin pNe (dCall gLen (dCons (dVar 1) (dNil))) (dC (.int 2)))) (dOrB (dNotB (dTest (dFn (dArgs 1 d_is_number) (dCons (dBin gIxS (dVar 1) (dC (.int 1))) (dNil))))) (dTest (dBin pLt (dBin gIxS (dVar 1) (dC (.int 1))) (dC (.int 1))))))) (sRet (dC (.bl false))) (sNop)) (sSeq (sSet 2 (dD (dBin gIxS (dVar 1) (dC (.int 0))))) (sSeq (sIf (dOrB (dNotB (dTest (dCall gIsi (dCons (dVar 2) (dCons (dC (.ty "tuple")) (dNil)))))) (dOrB (dTest (dBin pNe (dCall gLen (dCons (dVar 2) (dNil))) (dC (.int 2)))) (dNotB (dTest (dCall gAll (dCons (dLstOf (dComp (.n 3) [3] (dItems (dVar 2)) (fun ρ => .ok true ρ) (dFn (dArgs 1 d_is_number) (dCons (dVar 3) (dNil))))) (dNil))))))) (sRet (dC (.bl false))) (sNop)) (sRet (dBool (dChain (dC (.int 0)) [(pLe, dBin gIxS (dVar 2) (dC (.int 0))), (pLt, dBin gIxS (dVar 2) (dC (.int 1))), (pLt, dVar 0)])))))
def d_is_visit : List D → FR := runA 2 N_is_visit.length s_is_visit
def s_is_tally : Ds := sSeq (sIf (dOrB (dNotB (dTest (dCall gIsi (dCons (dVar 0) (dCons (dC (.ty "tuple")) (dNil)))))) (dOrB (dTest (dBin pNe (dCall gLen (dCons (dVar 0) (dNil))) (dC (.int 2)))) (dOrB (dNotB (dTest (dFn (dArgs 1 d_is_number) (dCons (dBin gIxS (dVar 0) (dC (.int 0))) (dNil))))) (dTest (dBin pLt (dBin gIxS (dVar 0) (dC (.int 0))) (dC (.int 2))))))) (sRet (dC (.bl false))) (sNop)) (sSeq (sIf (dOrB (dNotB (dTest (dCall gIsi (dCons (dBin gIxS (dVar 0) (dC (.int 1))) (dCons (dC (.ty "tuple")) (dNil)))))) (dNotB (dTest (dCall gAll (dCons (dLstOf (dComp (.n 3) [3] (dItems (dBin gIxS (dVar 0) (dC (.int 1)))) (fun ρ => .ok true ρ) (dFn (dArgs 2 d_is_visit) (dCons (dBin gIxS (dVar 0) (dC (.int 0))) (dCons (dVar 3) (dNil)))))) (dNil)))))) (sRet (dC (.bl false))) (sNop)) (sRet (dFn (dArgs 1 d_rises) (dCons (dLstOf (dComp (.t [.n 1, .n 2]) [1, 2] (dItems (dBin gIxS (dVar 0) (dC (.int 1)))) (fun ρ => .ok true ρ) (dVar 1))) (dNil)))))
def d_is_tally : List D → FR := runA 1 N_is_tally.length s_is_tally
def s_l_box : Ds := sSeq (sSet 2 (dD (dIf (dTest (dBin pLt (dVar 1) (dCall gLen (dCons (dVar 0) (dNil))))) (dBin gIxS (dVar 0) (dVar 1)) (dC (.int 0))))) (sRetO (dLstF (dCons (dBin pMul (dCall gAbs (dCons (dVar 2) (dNil))) (dCall gIntOf (dCons (dBin pGe (dCall gAbs (dCons (dVar 2) (dNil))) (dBin pPow (dC (.int 10)) (dC (.int 18)))) (dNil)))) (dCons (dBin pAdd (dBin pAdd (dBin pMod (dCall gIntOf (dCons (dVar 2) (dNil))) (dC (.int 2305843009213693951))) (dBin pMul (dC (.int 39373)) (dVar 1))) (dC (.int 17421))) (dCons (dC (.int 0)) (dNil))))))
def d_l_box : List D → FO := runO 2 N_l_box.length s_l_box
def s_l_take : Ds := sSeq (sIf (dTest (dBin pGt (dIxO 0 (dC (.int 0))) (dC (.int 0)))) (sSeq (sSet 5 (dD (dBin pMod (dCall gIntOf (dCons (dIxO 0 (dC (.int 0))) (dNil))) (dVar 1)))) (sSeq (sPutL 0 (dC (.int 0)) (dBin pDiv (dIxO 0 (dC (.int 0))) (dVar 1))) (sRet (dVar 5)))) (sNop)) (sSeq (sPutL 0 (dC (.int 2)) (dBin pAdd (dIxO 0 (dC (.int 2))) (dC (.int 1)))) (sSeq (sSet 2 (dD (dBin pMod (dCall gIntOf (dCons (dBin pMul (dBin pAdd (dIxO 0 (dC (.int 1))) (dBin pMul (dC (.int 48271)) (dIxO 0 (dC (.int 2))))) (dBin pAdd (dC (.int 39373)) (dIxO 0 (dC (.int 2))))) (dNil))) (dC (.int 2147483647))))) (sSeq (sSet 3 (dD (dBin pAdd (dBin pMod (dCall gIntOf (dCons (dVar 2) (dNil))) (dC (.int 40009))) (dC (.int 7))))) (sSeq (sSet 4 (dD (dBin pMod (dCall gIntOf (dCons (dBin pMul (dBin pAdd (dBin pAdd (dVar 2) (dIxO 0 (dC (.int 2)))) (dBin pDiv (dIxO 0 (dC (.int 1))) (dC (.int 1000003)))) (dVar 3)) (dNil))) (dC (.int 2147483629))))) (sRet (dBin pMod (dCall gIntOf (dCons (dBin pDiv (dBin pMod (dCall gIntOf (dCons (dBin pAdd (dBin pMul (dVar 4) (dC (.int 48271))) (dVar 2)) (dNil))) (dC (.int 2147483587))) (dC (.int 64))) (dNil))) (dVar 1)))))))
def d_l_take : List D → List D → FM := runM 2 N_l_take.length s_l_take
def s_l_cells : Ds := sSeq (sSet 2 (dOwn (dOrF (dCallF gFL (dCons (dSl (dVar 0) none (some (dVar 1))) (dNil))) (dLstF (dCons (dC (.int 0)) (dNil)))))) (sSeq (sFor (.t [.n 3, .n 4]) (dRange gEn (dCons (dSl (dVar 0) (some (dVar 1)) (some (dC (.int 63)))) (dNil))) [3, 4, 5] (sSeq (sSet 5 (dD (dBin pMod (dCall gIntOf (dCons (dVar 3) (dNil))) (dVar 1)))) (sPutL 2 (dVar 5) (dBin pAdd (dIxO 2 (dVar 5)) (dBin pMul (dVar 4) (dBin pAdd (dVar 3) (dC (.int 2)))))))) (sRet (dVar 2)))
def d_l_cells : List D → FR := runA 2 N_l_cells.length s_l_cells
def s_l_of : Ds := sRet (dBin gIxS (dVar 1) (dFnM 0 (dArgsM 2 d_l_take) (dCons (dCall gLen (dCons (dVar 1) (dNil))) (dNil))))
def d_l_of : List D → List D → FM := runM 2 N_l_of.length s_l_of
def s_l_lists (r : List D → FR) : Ds := sRet (dIf (dTest (dCall gIsiT (dCons (dVar 0) (dCons (dTup (dCons (dC (.ty "list")) (dCons (dC (.ty "tuple")) (dNil)))) (dNil))))) (dLstOf (dComp (.n 1) [1] (dItems (dVar 0)) (fun ρ => .ok true ρ) (dFn (dArgs 1 r) (dCons (dVar 1) (dNil))))) (dVar 0))
def d_l_lists : Nat → List D → FR
  | 0 => runA 1 N_l_lists.length (fun _ => .stuck)
  | k + 1 => runA 1 N_l_lists.length (s_l_lists (d_l_lists k))
def s_l_same (r : List D → FR) : Ds := sSeq (sIf (dTest (dCall gIsiT (dCons (dVar 1) (dCons (dTup (dCons (dC (.ty "list")) (dCons (dC (.ty "tuple")) (dNil)))) (dNil))))) (sSeq (sIf (dOrB (dTest (dBin pNe (dCall gIsi (dCons (dVar 0) (dCons (dC (.ty "list")) (dNil)))) (dCall gIsi (dCons (dVar 1) (dCons (dC (.ty "list")) (dNil)))))) (dTest (dBin pNe (dCall gIsi (dCons (dVar 0) (dCons (dC (.ty "tuple")) (dNil)))) (dCall gIsi (dCons (dVar 1) (dCons (dC (.ty "tuple")) (dNil))))))) (sRet (dC (.bl false))) (sNop)) (sRet (dAnd (dBin pEq (dCall gLen (dCons (dVar 0) (dNil))) (dCall gLen (dCons (dVar 1) (dNil)))) (dCall gAll (dCons (dLstOf (dComp (.t [.n 2, .n 3]) [2, 3] (dRange gZip2 (dCons (dVar 0) (dCons (dVar 1) (dNil)))) (fun ρ => .ok true ρ) (dFn (dArgs 2 r) (dCons (dVar 2) (dCons (dVar 3) (dNil)))))) (dNil)))))) (sNop)) (sSeq (sIf (dOrB (dTest (dUn gIsN (dVar 1))) (dTest (dCall gIsiT (dCons (dVar 1) (dCons (dTup (dCons (dC (.ty "bool")) (dCons (dC (.ty "str")) (dNil)))) (dNil)))))) (sRet (dAnd (dBin pEq (dVar 0) (dVar 1)) (dAnd (dBin pEq (dCall gIsi (dCons (dVar 0) (dCons (dC (.ty "bool")) (dNil)))) (dCall gIsi (dCons (dVar 1) (dCons (dC (.ty "bool")) (dNil))))) (dBin pEq (dUn gIsN (dVar 0)) (dUn gIsN (dVar 1)))))) (sNop)) (sRet (dAnd (dCall gIsi (dCons (dVar 0) (dCons (dC (.ty "int")) (dNil)))) (dAnd (dNot (dCall gIsi (dCons (dVar 0) (dCons (dC (.ty "bool")) (dNil))))) (dBin pEq (dVar 0) (dVar 1))))))
def d_l_same : Nat → List D → FR
  | 0 => runA 2 N_l_same.length (fun _ => .stuck)
  | k + 1 => runA 2 N_l_same.length (s_l_same (d_l_same k))
def s_l_pairs : Ds := sSeq (sSet 1 (dD (dLst (dNil)))) (sSeq (sFor (.n 2) (dRange gRange1 (dCons (dVar 0) (dNil))) [2] (sSet 1 (dD (dBin pAdd (dVar 1) (dLstOf (dComp (.n 3) [3] (dRange gRange2 (dCons (dBin pAdd (dVar 2) (dC (.int 1))) (dCons (dVar 0) (dNil)))) (fun ρ => .ok true ρ) (dTup (dCons (dVar 2) (dCons (dVar 3) (dNil)))))))))) (sRet (dVar 1)))
def d_l_pairs : List D → FR := runA 1 N_l_pairs.length s_l_pairs
def s_l_tally : Ds := sSeq (sPar 3 4 (dD (dFnM 0 (dArgsM 2 d_l_take) (dCons (dC (.int 4)) (dNil)))) (dOwn (dLstF (dNil)))) (sSeq (sFor (.n 5) (dItems (dFn (dArgs 1 d_l_pairs) (dCons (dVar 1) (dNil)))) [5, 6] (sSeq (sSet 6 (dD (dIf (dOrB (dTest (dBin pLt (dVar 3) (dC (.int 2)))) (dTest (dBin pEq (dFnM 0 (dArgsM 2 d_l_take) (dCons (dC (.int 2)) (dNil))) (dC (.int 0))))) (dFnM 0 (dArgsM 2 d_l_take) (dCons (dBin pAdd (dVar 2) (dC (.int 1))) (dNil))) (dC (.int 0))))) (sIf (dTest (dBin pGt (dVar 6) (dC (.int 0)))) (sApp 4 (dTup (dCons (dVar 5) (dCons (dVar 6) (dNil))))) (sNop)))) (sRet (dTup (dCons (dVar 1) (dCons (dCall gTupleOf (dCons (dVar 4) (dNil))) (dNil))))))
def d_l_tally : List D → List D → FM := runM 3 N_l_tally.length s_l_tally
def s_l_is_whole : Ds := sRet (dAnd (dCall gIsi (dCons (dVar 0) (dCons (dC (.ty "int")) (dNil)))) (dNot (dCall gIsi (dCons (dVar 0) (dCons (dC (.ty "bool")) (dNil))))))
def d_l_is_whole : List D → FR := runA 1 N_l_is_whole.length s_l_is_whole
def s_l_is_tally : Ds := sSeq (sIf (dOrB (dNotB (dTest (dCall gIsi (dCons (dVar 0) (dCons (dC (.ty "tuple")) (dNil)))))) (dOrB (dTest (dBin pNe (dCall gLen (dCons (dVar 0) (dNil))) (dC (.int 2)))) (dOrB (dNotB (dTest (dFn (dArgs 1 d_l_is_whole) (dCons (dBin gIxS (dVar 0) (dC (.int 0))) (dNil))))) (dTest (dBin pLt (dBin gIxS (dVar 0) (dC (.int 0))) (dC (.int 2))))))) (sRet (dC (.bl false))) (sNop)) (sSeq (sIf (dNotB (dTest (dCall gIsi (dCons (dBin gIxS (dVar 0) (dC (.int 1))) (dCons (dC (.ty "tuple")) (dNil)))))) (sRet (dC (.bl false))) (sNop)) (sSeq (sFor (.n 1) (dItems (dBin gIxS (dVar 0) (dC (.int 1)))) [1] (sSeq (sIf (dOrB (dNotB (dTest (dCall gIsi (dCons (dVar 1) (dCons (dC (.ty "tuple")) (dNil)))))) (dOrB (dTest (dBin pNe (dCall gLen (dCons (dVar 1) (dNil))) (dC (.int 2)))) (dOrB (dNotB (dTest (dFn (dArgs 1 d_l_is_whole) (dCons (dBin gIxS (dVar 1) (dC (.int 1))) (dNil))))) (dTest (dBin pLt (dBin gIxS (dVar 1) (dC (.int 1))) (dC (.int 1))))))) (sRet (dC (.bl false))) (sNop)) (sSeq (sIf (dOrB (dNotB (dTest (dCall gIsi (dCons (dBin gIxS (dVar 1) (dC (.int 0))) (dCons (dC (.ty "tuple")) (dNil)))))) (dOrB (dTest (dBin pNe (dCall gLen (dCons (dBin gIxS (dVar 1) (dC (.int 0))) (dNil))) (dC (.int 2)))) (dNotB (dTest (dCall gAll (dCons (dLstOf (dComp (.n 3) [3] (dItems (dBin gIxS (dVar 1) (dC (.int 0)))) (fun ρ => .ok true ρ) (dFn (dArgs 1 d_l_is_whole) (dCons (dVar 3) (dNil))))) (dNil))))))) (sRet (dC (.bl false))) (sNop)) (sIf (dNotB (dChain (dC (.int 0)) [(pLe, dBin gIxS (dBin gIxS (dVar 1) (dC (.int 0))) (dC (.int 0))), (pLt, dBin gIxS (dBin gIxS (dVar 1) (dC (.int 0))) (dC (.int 1))), (pLt, dBin gIxS (dVar 0) (dC (.int 0)))])) (sRet (dC (.bl false))) (sNop))))) (sRet (dBin pEq (dLstOf (dComp (.n 2) [2] (dRange gRange2 (dCons (dC (.int 1)) (dCons (dCall gLen (dCons (dBin gIxS (dVar 0) (dC (.int 1))) (dNil))) (dNil)))) (dTest (dBin pLe (dBin gIxS (dBin gIxS (dBin gIxS (dVar 0) (dC (.int 1))) (dVar 2)) (dC (.int 0))) (dBin gIxS (dBin gIxS (dBin gIxS (dVar 0) (dC (.int 1))) (dBin pSub (dVar 2) (dC (.int 1)))) (dC (.int 0))))) (dVar 2))) (dLst (dNil))))))
def d_l_is_tally : List D → FR := runA 1 N_l_is_tally.length s_l_is_tally
def s_l_odd (r : List D → List D → FM) : Ds := sSeq (sIf (dAndB (dTest (dCall gIsi (dCons (dVar 1) (dCons (dC (.ty "tuple")) (dNil))))) (dAndB (dTest (dBin pNe (dVar 1) (dTup (dNil)))) (dTest (dBin pGt (dFnM 0 (dArgsM 2 d_l_take) (dCons (dC (.int 6)) (dNil))) (dC (.int 0)))))) (sSeq (sSet 3 (dD (dFnM 0 (dArgsM 2 d_l_take) (dCons (dCall gLen (dCons (dVar 1) (dNil))) (dNil))))) (sRet (dBin pAdd (dBin pAdd (dSl (dVar 1) none (some (dVar 3))) (dTup (dCons (dFnM 0 (dArgsM 2 r) (dCons (dBin gIxS (dVar 1) (dVar 3)) (dNil))) (dNil)))) (dSl (dVar 1) (some (dBin pAdd (dVar 3) (dC (.int 1)))) none)))) (sNop)) (sSeq (sSet 2 (dD (dLst (dCons (dC .non) (dCons (dC (.bl true)) (dCons (dC (.bl false)) (dCons (dC (.int 0)) (dCons (dC (.int 1)) (dCons (dUn gNeg (dC (.int 1))) (dCons (dC (.int 2)) (dCons (dC (.int 7)) (dCons (dC (.str "")) (dCons (dC (.str "1")) (dCons (dTup (dNil)) (dCons (dLst (dNil)) (dCons (dTup (dCons (dC (.int 0)) (dNil))) (dCons (dTup (dCons (dC (.int 0)) (dCons (dC (.int 1)) (dNil)))) (dCons (dTup (dCons (dTup (dCons (dC (.int 0)) (dCons (dC (.int 1)) (dNil)))) (dCons (dC (.int 1)) (dNil)))) (dCons (dBin pPow (dC (.int 10)) (dC (.int 50))) (dNil)))))))))))))))))))) (sSeq (sIf (dTest (dCall gIsi (dCons (dVar 1) (dCons (dC (.ty "tuple")) (dNil))))) (sSet 2 (dD (dBin pAdd (dVar 2) (dLst (dCons (dCall gListOf (dCons (dVar 1) (dNil))) (dCons (dUn pRev (dVar 1)) (dCons (dSl (dVar 1) (some (dC (.int 1))) none) (dCons (dBin pAdd (dVar 1) (dSl (dVar 1) (some (dUn gNeg (dC (.int 1)))) none)) (dCons (dTup (dCons (dVar 1) (dNil))) (dCons (dSl (dVar 1) none (some (dC (.int 1)))) (dNil))))))))))) (sNop)) (sRet (dFnM 0 (dArgsM 2 d_l_of) (dCons (dVar 2) (dNil))))))
def d_l_odd : Nat → List D → List D → FM
  | 0 => runM 2 N_l_odd.length (fun _ => .stuck)
  | k + 1 => runM 2 N_l_odd.length (s_l_odd (d_l_odd k))
def s_l_by_hand_right : Ds := sSeq (sSet 0 (dD (dLst (dCons (dTup (dCons (dC (.int 2)) (dCons (dTup (dNil)) (dNil)))) (dCons (dTup (dCons (dC (.int 3)) (dCons (dTup (dCons (dTup (dCons (dTup (dCons (dC (.int 0)) (dCons (dC (.int 2)) (dNil)))) (dCons (dC (.int 1)) (dNil)))) (dNil))) (dNil)))) (dCons (dTup (dCons (dC (.int 4)) (dCons (dTup (dCons (dTup (dCons (dTup (dCons (dC (.int 0)) (dCons (dC (.int 1)) (dNil)))) (dCons (dC (.int 2)) (dNil)))) (dCons (dTup (dCons (dTup (dCons (dC (.int 0)) (dCons (dC (.int 3)) (dNil)))) (dCons (dBin pPow (dC (.int 10)) (dC (.int 50))) (dNil)))) (dCons (dTup (dCons (dTup (dCons (dC (.int 1)) (dCons (dC (.int 2)) (dNil)))) (dCons (dC (.int 1)) (dNil)))) (dNil))))) (dNil)))) (dCons (dTup (dCons (dC (.int 12)) (dCons (dTup (dCons (dTup (dCons (dTup (dCons (dC (.int 9)) (dCons (dC (.int 11)) (dNil)))) (dCons (dC (.int 5)) (dNil)))) (dNil))) (dNil)))) (dNil)))))))) (sSeq (sSet 1 (dOwn (dLstF (dCons (dTup (dCons (dC (.int 1)) (dCons (dTup (dNil)) (dNil)))) (dCons (dTup (dCons (dC (.int 0)) (dCons (dTup (dNil)) (dNil)))) (dCons (dTup (dCons (dUn gNeg (dC (.int 2))) (dCons (dTup (dNil)) (dNil)))) (dCons (dTup (dCons (dC (.bl true)) (dCons (dTup (dNil)) (dNil)))) (dCons (dTup (dCons (dC .non) (dCons (dTup (dNil)) (dNil)))) (dCons (dTup (dCons (dC (.str "3")) (dCons (dTup (dNil)) (dNil)))) (dCons (dTup (dCons (dC (.int 2)) (dNil))) (dCons (dTup (dCons (dC (.int 2)) (dCons (dTup (dNil)) (dCons (dTup (dNil)) (dNil))))) (dCons (dLst (dCons (dC (.int 2)) (dCons (dTup (dNil)) (dNil)))) (dCons (dTup (dCons (dC (.int 2)) (dCons (dLst (dNil)) (dNil)))) (dNil)))))))))))))) (sSeq (sSet 1 (dOwn (dBinF gCatF (dVar 1) (dLst (dCons (dTup (dCons (dC (.int 2)) (dCons (dC .non) (dNil)))) (dCons (dC (.int 2)) (dCons (dC .non) (dCons (dC (.str "ab")) (dCons (dTup (dNil)) (dCons (dLst (dNil)) (dCons (dTup (dCons (dTup (dNil)) (dCons (dC (.int 2)) (dNil)))) (dCons (dTup (dCons (dC (.int 3)) (dCons (dTup (dCons (dTup (dCons (dTup (dCons (dC (.int 1)) (dCons (dC (.int 0)) (dNil)))) (dCons (dC (.int 1)) (dNil)))) (dNil))) (dNil)))) (dCons (dTup (dCons (dC (.int 3)) (dCons (dTup (dCons (dTup (dCons (dTup (dCons (dC (.int 1)) (dCons (dC (.int 1)) (dNil)))) (dCons (dC (.int 1)) (dNil)))) (dNil))) (dNil)))) (dNil)))))))))))))) (sSeq (sApp 1 (dTup (dCons (dC (.int 3)) (dCons (dTup (dCons (dTup (dCons (dTup (dCons (dC (.int 0)) (dCons (dC (.int 3)) (dNil)))) (dCons (dC (.int 1)) (dNil)))) (dNil))) (dNil))))) (sSeq (sSet 1 (dOwn (dBinF gCatF (dVar 1) (dLst (dCons (dTup (dCons (dC (.int 3)) (dCons (dTup (dCons (dTup (dCons (dTup (dCons (dUn gNeg (dC (.int 1))) (dCons (dC (.int 2)) (dNil)))) (dCons (dC (.int 1)) (dNil)))) (dNil))) (dNil)))) (dCons (dTup (dCons (dC (.int 3)) (dCons (dTup (dCons (dTup (dCons (dTup (dCons (dC (.int 0)) (dCons (dC (.int 1)) (dNil)))) (dCons (dC (.int 0)) (dNil)))) (dNil))) (dNil)))) (dCons (dTup (dCons (dC (.int 3)) (dCons (dTup (dCons (dTup (dCons (dTup (dCons (dC (.int 0)) (dCons (dC (.int 1)) (dNil)))) (dCons (dUn gNeg (dC (.int 1))) (dNil)))) (dNil))) (dNil)))) (dCons (dTup (dCons (dC (.int 3)) (dCons (dTup (dCons (dTup (dCons (dTup (dCons (dC (.int 0)) (dCons (dC (.int 1)) (dNil)))) (dCons (dC (.bl true)) (dNil)))) (dNil))) (dNil)))) (dNil))))))))) (sSeq (sSet 1 (dOwn (dBinF gCatF (dVar 1) (dLst (dCons (dTup (dCons (dC (.int 3)) (dCons (dTup (dCons (dTup (dCons (dTup (dCons (dC (.int 0)) (dCons (dC (.int 1)) (dNil)))) (dCons (dC (.str "1")) (dNil)))) (dNil))) (dNil)))) (dCons (dTup (dCons (dC (.int 3)) (dCons (dTup (dCons (dTup (dCons (dTup (dCons (dC (.int 0)) (dCons (dC (.int 1)) (dNil)))) (dNil))) (dNil))) (dNil)))) (dCons (dTup (dCons (dC (.int 3)) (dCons (dTup (dCons (dTup (dCons (dC (.int 0)) (dCons (dC (.int 1)) (dNil)))) (dNil))) (dNil)))) (dCons (dTup (dCons (dC (.int 3)) (dCons (dTup (dCons (dTup (dCons (dTup (dCons (dC (.int 0)) (dCons (dC (.int 1)) (dCons (dC (.int 2)) (dNil))))) (dCons (dC (.int 1)) (dNil)))) (dNil))) (dNil)))) (dNil))))))))) (sSeq (sApp 1 (dTup (dCons (dC (.int 3)) (dCons (dTup (dCons (dTup (dCons (dC (.int 0)) (dCons (dC (.int 1)) (dNil)))) (dCons (dC (.int 1)) (dNil)))) (dNil))))) (sSeq (sSet 1 (dOwn (dBinF gCatF (dVar 1) (dLst (dCons (dTup (dCons (dC (.int 3)) (dCons (dTup (dCons (dTup (dCons (dTup (dCons (dC (.int 0)) (dCons (dC (.int 2)) (dNil)))) (dCons (dC (.int 1)) (dNil)))) (dCons (dTup (dCons (dTup (dCons (dC (.int 0)) (dCons (dC (.int 1)) (dNil)))) (dCons (dC (.int 1)) (dNil)))) (dNil)))) (dNil)))) (dCons (dTup (dCons (dC (.int 3)) (dCons (dTup (dCons (dTup (dCons (dTup (dCons (dC (.int 0)) (dCons (dC (.int 1)) (dNil)))) (dCons (dC (.int 1)) (dNil)))) (dCons (dTup (dCons (dTup (dCons (dC (.int 0)) (dCons (dC (.int 1)) (dNil)))) (dCons (dC (.int 2)) (dNil)))) (dNil)))) (dNil)))) (dCons (dTup (dCons (dC (.int 3)) (dCons (dTup (dCons (dLst (dCons (dTup (dCons (dC (.int 0)) (dCons (dC (.int 1)) (dNil)))) (dCons (dC (.int 1)) (dNil)))) (dNil))) (dNil)))) (dNil)))))))) (sSeq (sSet 1 (dOwn (dBinF gCatF (dVar 1) (dLst (dCons (dTup (dCons (dC (.int 3)) (dCons (dTup (dCons (dTup (dCons (dLst (dCons (dC (.int 0)) (dCons (dC (.int 1)) (dNil)))) (dCons (dC (.int 1)) (dNil)))) (dNil))) (dNil)))) (dCons (dTup (dCons (dC (.int 3)) (dCons (dTup (dCons (dTup (dCons (dTup (dCons (dC (.bl false)) (dCons (dC (.int 1)) (dNil)))) (dCons (dC (.int 1)) (dNil)))) (dNil))) (dNil)))) (dCons (dTup (dCons (dC (.int 3)) (dCons (dTup (dCons (dTup (dCons (dTup (dCons (dC (.int 0)) (dCons (dC .non) (dNil)))) (dCons (dC (.int 1)) (dNil)))) (dNil))) (dNil)))) (dCons (dTup (dCons (dC (.int 3)) (dCons (dTup (dCons (dC .non) (dNil))) (dNil)))) (dCons (dTup (dCons (dC (.int 2)) (dCons (dC (.str "ab")) (dNil)))) (dNil)))))))))) (sSeq (sSet 2 (dD (dTup (dCons (dC (.int 2)) (dCons (dTup (dNil)) (dNil)))))) (sSeq (sFor (.n 3) (dRange gRange1 (dCons (dC (.int 8)) (dNil))) [3] (sSet 2 (dD (dTup (dCons (dVar 2) (dNil)))))) (sSeq (sSet 4 (dD (dLstOf (dComp (.n 5) [5] (dItems (dBin pAdd (dVar 0) (dVar 1))) (fun ρ => .ok true ρ) (dFn (dArgs 1 d_is_tally) (dCons (dVar 5) (dNil))))))) (sSeq (sSet 4 (dD (dBin pAdd (dVar 4) (dLst (dCons (dFn (dArgs 1 d_is_tally) (dCons (dVar 2) (dNil))) (dCons (dFnK 0 1 1 [0] d_is_tally (dNil) (dCons (dBin gIxS (dVar 0) (dC (.int 1))) (dNil))) (dCons (dFnK 0 1 1 [0] d_is_tally (dNil) (dCons (dIxO 1 (dC (.int 0))) (dNil))) (dNil)))))))) (sRet (dFn (dArgs 2 (d_l_same 24)) (dCons (dVar 4) (dCons (dBin pAdd (dBin pAdd (dBin pMul (dLst (dCons (dC (.bl true)) (dNil))) (dCall gLen (dCons (dVar 0) (dNil)))) (dBin pMul (dLst (dCons (dC (.bl false)) (dNil))) (dLenO 1))) (dLst (dCons (dC (.bl false)) (dCons (dC (.bl true)) (dCons (dC (.bl false)) (dNil)))))) (dNil)))))))))))))))))
def d_l_by_hand_right : List D → FR := runA 0 N_l_by_hand_right.length s_l_by_hand_right
def s_l_right : Ds := sSeq (sFor (.n 1) (dRange gRange1 (dCons (dC (.int 8)) (dNil))) [1, 2, 3, 4, 5] (sSeq (sSet 2 (dD (dFnM 0 (dArgsM 3 d_l_tally) (dCons (dBin pAdd (dC (.int 2)) (dFnM 0 (dArgsM 2 d_l_take) (dCons (dC (.int 7)) (dNil)))) (dCons (dC (.int 30)) (dNil)))))) (sSeq (sSet 3 (dD (dLst (dCons (dFn (dArgs 1 d_is_tally) (dCons (dVar 2) (dNil))) (dCons (dFn (dArgs 1 d_is_tally) (dCons (dFn (dArgs 1 (d_l_lists 24)) (dCons (dVar 2) (dNil))) (dNil))) (dCons (dFnK 0 1 1 [0] d_is_tally (dNil) (dCons (dCall gListOf (dCons (dVar 2) (dNil))) (dNil))) (dNil))))))) (sSeq (sIf (dNotB (dTest (dFn (dArgs 2 (d_l_same 24)) (dCons (dVar 3) (dCons (dLst (dCons (dC (.bl true)) (dCons (dC (.bl false)) (dCons (dC (.bl false)) (dNil))))) (dNil)))))) (sRet (dC (.bl false))) (sNop)) (sFor (.n 4) (dRange gRange1 (dCons (dC (.int 6)) (dNil))) [4, 5] (sSeq (sSet 5 (dD (dFnM 0 (dArgsM 2 (d_l_odd 24)) (dCons (dVar 2) (dNil))))) (sSeq (sSet 5 (dD (dIf (dTest (dBin pEq (dFnM 0 (dArgsM 2 d_l_take) (dCons (dC (.int 3)) (dNil))) (dC (.int 0)))) (dFnM 0 (dArgsM 2 (d_l_odd 24)) (dCons (dVar 5) (dNil))) (dVar 5)))) (sIf (dNotB (dTest (dFn (dArgs 2 (d_l_same 24)) (dCons (dLst (dCons (dFn (dArgs 1 d_is_tally) (dCons (dVar 5) (dNil))) (dCons (dFnK 0 1 1 [0] d_is_tally (dNil) (dCons (dVar 5) (dNil))) (dNil)))) (dCons (dBin pMul (dLst (dCons (dFn (dArgs 1 d_l_is_tally) (dCons (dVar 5) (dNil))) (dNil))) (dC (.int 2))) (dNil)))))) (sRet (dC (.bl false))) (sNop))))))))) (sRet (dC (.bl true)))
def d_l_right : List D → List D → FM := runM 1 N_l_right.length s_l_right
def s_law : Ds := sSeq (sIf (dNotB (dTest (dFn (dArgs 0 d_l_by_hand_right) dNil))) (sRet (dC (.bl false))) (sNop)) (sSeq (sSet 1 (dD (dFn (dArgs 2 d_l_cells) (dCons (dVar 0) (dCons (dC (.int 3)) (dNil)))))) (sRet (dCall gAll (dCons (dLstOf (dComp (.n 2) [2] (dRange gRange1 (dCons (dCall gLen (dCons (dVar 1) (dNil))) (dNil))) (fun ρ => .ok true ρ) (dFnT d_l_right (dFnO (dArgsO 2 d_l_box) (dCons (dVar 1) (dCons (dVar 2) (dNil))))))) (dNil)))))
def d_law : List D → FR := runA 1 N_law.length s_law
section
variable {P : Program} {w : World} {K : PySem.W.Frag} {mg : Str → Option Value} {base : Heap} {a : As}
theorem ok_is_number (h : Fx K mg a) : FnOk P w K mg base (CX P w) (0 + 1) a.f_is_number a.e_is_number p_is_number (spA K mg 1 d_is_number) := fn_A (k := 0) h.F_is_number sc_is_number rfl (by decide) fun cdv A outer s H E hr hx hp =>
  dss_one (ds_ret (de_and (de_callB cd_isi rfl h.b_isinstance boot_isinstance (da_cons (de_var (pv 0)) (da_cons (de_ty rfl h.b_int boot_int) (da_nil)))) (de_one (de_not (de_callB cd_isi rfl h.b_isinstance boot_isinstance (da_cons (de_var (pv 0)) (da_cons (de_ty rfl h.b_bool boot_bool) (da_nil))))))))
theorem ok_rises (h : Fx K mg a) : FnOk P w K mg base (CX P w) (0 + 1) a.f_rises a.e_rises p_rises (spA K mg 1 d_rises) := fn_A (k := 0) h.F_rises sc_rises rfl (by decide) fun cdv A outer s H E hr hx hp =>
  dss_one (ds_ret (de_callB (cd_all rfl) rfl h.b_all boot_all (da_cons (de_lc (own := [("one", 1), ("other", 2)]) rfl sc_rises.nd (di_zip2 rfl h.b_zip (da_cons (de_var (pv 0)) (da_cons (de_slice (de_var (pv 0)) (do_some (de_int)) do_none) (da_nil)))) (blkOk_of rfl (by kernel_rfl)) (fun _ _ _ _ _ => dg_tup rfl (dgs_cons (dg_name sc_rises.nd rfl (by first | exact .inl rfl | exact .inr rfl)) (dgs_cons (dg_name sc_rises.nd rfl (by first | exact .inl rfl | exact .inr rfl)) (dgs_nil)))) (fun _ _ _ _ _ => dts_nil) (fun _ _ _ _ _ => de_cmp (opd_lt hr.units) (de_var (pv 1)) (de_var (pv 2)) rfl)) (da_nil))))
theorem ok_is_visit (h : Fx K mg a) : FnOk P w K mg base (CX P w) (1 + 1) a.f_is_visit a.e_is_visit p_is_visit (spA K mg 2 d_is_visit) := fn_A (k := 1) h.F_is_visit sc_is_visit rfl (by decide) fun cdv A outer s H E hr hx hp =>
  dss_cons (ds_if (dt_w (dw_or (dt_not (dt_val (de_callB cd_isi rfl h.b_isinstance boot_isinstance (da_cons (de_var (pv 1)) (da_cons (de_ty rfl h.b_tuple boot_tuple) (da_nil)))))) (dw_or (dt_cmp (opd_Ne hr.units) (de_callB cd_len rfl h.b_len boot_len (da_cons (de_var (pv 1)) (da_nil))) (de_int) rfl) (dw_or (dt_not (dt_val (de_callA (ok_is_number h) (hr.mono (by omega)) rfl h.g_is_number h.F_is_number.kp (bi_is_number h) hx (da_cons (de_ix ixd_seq (de_var (pv 1)) (de_int)) (da_nil))))) (dw_or1 (dt_cmp (opd_lt hr.units) (de_ix ixd_seq (de_var (pv 1)) (de_int)) (de_int) rfl)))))) (dss_one (ds_ret (de_bl))) (dss_nil)) (dss_cons (ds_set sc_is_visit.nd rfl (by first | exact .inl rfl | exact .inr rfl) (dsl_d (de_ix ixd_seq (de_var (pv 1)) (de_int)))) (dss_cons (ds_if (dt_w (dw_or (dt_not (dt_val (de_callB cd_isi rfl h.b_isinstance boot_isinstance (da_cons (de_var (pv 2)) (da_cons (de_ty rfl h.b_tuple boot_tuple) (da_nil)))))) (dw_or (dt_cmp (opd_Ne hr.units) (de_callB cd_len rfl h.b_len boot_len (da_cons (de_var (pv 2)) (da_nil))) (de_int) rfl) (dw_or1 (dt_not (dt_val (de_callB (cd_all rfl) rfl h.b_all boot_all (da_cons (de_lc (own := [("own", 3)]) rfl sc_is_visit.nd (di_val (de_var (pv 2))) (blkOk_of rfl (by kernel_rfl)) (fun _ _ _ _ _ => dg_name sc_is_visit.nd rfl (by first | exact .inl rfl | exact .inr rfl)) (fun _ _ _ _ _ => dts_nil) (fun _ _ _ _ _ => de_callA (ok_is_number h) (hr.mono (by omega)) rfl h.g_is_number h.F_is_number.kp (bi_is_number h) passL (da_cons (de_var (pv 3)) (da_nil)))) (da_nil))))))))) (dss_one (ds_ret (de_bl))) (dss_nil)) (dss_one (ds_ret (de_chain (de_int) (.cons (opd_le hr.units) (de_ix ixd_seq (de_var (pv 2)) (de_int)) (.cons (opd_lt hr.units) (de_ix ixd_seq (de_var (pv 2)) (de_int)) (.one (opd_lt hr.units) (de_var (pv 0))))))))))
theorem ok_is_tally (h : Fx K mg a) : FnOk P w K mg base (CX P w) (2 + 1) a.f_is_tally a.e_is_tally p_is_tally (spA K mg 1 d_is_tally) := fn_A (k := 2) h.F_is_tally sc_is_tally rfl (by decide) fun cdv A outer s H E hr hx hp =>
  dss_cons (ds_if (dt_w (dw_or (dt_not (dt_val (de_callB cd_isi rfl h.b_isinstance boot_isinstance (da_cons (de_var (pv 0)) (da_cons (de_ty rfl h.b_tuple boot_tuple) (da_nil)))))) (dw_or (dt_cmp (opd_Ne hr.units) (de_callB cd_len rfl h.b_len boot_len (da_cons (de_var (pv 0)) (da_nil))) (de_int) rfl) (dw_or (dt_not (dt_val (de_callA (ok_is_number h) (hr.mono (by omega)) rfl h.g_is_number h.F_is_number.kp (bi_is_number h) hx (da_cons (de_ix ixd_seq (de_var (pv 0)) (de_int)) (da_nil))))) (dw_or1 (dt_cmp (opd_lt hr.units) (de_ix ixd_seq (de_var (pv 0)) (de_int)) (de_int) rfl)))))) (dss_one (ds_ret (de_bl))) (dss_nil)) (dss_cons (ds_if (dt_w (dw_or (dt_not (dt_val (de_callB cd_isi rfl h.b_isinstance boot_isinstance (da_cons (de_ix ixd_seq (de_var (pv 0)) (de_int)) (da_cons (de_ty rfl h.b_tuple boot_tuple) (da_nil)))))) (dw_or1 (dt_not (dt_val (de_callB (cd_all rfl) rfl h.b_all boot_all (da_cons (de_lc (own := [("own", 3)]) rfl sc_is_tally.nd (di_val (de_ix ixd_seq (de_var (pv 0)) (de_int))) (blkOk_of rfl (by kernel_rfl)) (fun _ _ _ _ _ => dg_name sc_is_tally.nd rfl (by first | exact .inl rfl | exact .inr rfl)) (fun _ _ _ _ _ => dts_nil) (fun _ _ _ _ _ => de_callA (ok_is_visit h) (hr.mono (by omega)) rfl h.g_is_visit h.F_is_visit.kp (bi_is_visit h) passL (da_cons (de_ix ixd_seq (de_var (pv 0)) (de_int)) (da_cons (de_var (pv 3)) (da_nil))))) (da_nil)))))))) (dss_one (ds_ret (de_bl))) (dss_nil)) (dss_one (ds_ret (de_callA (ok_rises h) (hr.mono (by omega)) rfl h.g_rises h.F_rises.kp (bi_rises h) hx (da_cons (de_lc (own := [("pair", 1), ("many", 2)]) rfl sc_is_tally.nd (di_val (de_ix ixd_seq (de_var (pv 0)) (de_int))) (blkOk_of rfl (by kernel_rfl)) (fun _ _ _ _ _ => dg_tup rfl (dgs_cons (dg_name sc_is_tally.nd rfl (by first | exact .inl rfl | exact .inr rfl)) (dgs_cons (dg_name sc_is_tally.nd rfl (by first | exact .inl rfl | exact .inr rfl)) (dgs_nil)))) (fun _ _ _ _ _ => dts_nil) (fun _ _ _ _ _ => de_var (pv 1))) (da_nil))))))
theorem ok_l_box (h : Fx K mg a) : FnOk P w K mg base (CX P w) (0 + 1) a.f_l_box a.e_l_box p_l_box (spO K mg 2 d_l_box) := fn_O (k := 0) h.F_l_box sc_l_box rfl (by decide) fun cdv A outer s H E hr hx hp =>
  dss_cons (ds_set sc_l_box.nd rfl (by first | exact .inl rfl | exact .inr rfl) (dsl_d (de_if (dt_cmp (opd_lt hr.units) (de_var (pv 1)) (de_callB cd_len rfl h.b_len boot_len (da_cons (de_var (pv 0)) (da_nil))) rfl) (de_ix ixd_seq (de_var (pv 0)) (de_var (pv 1))) (de_int)))) (dss_one (ds_retO (dsl_lst (da_cons (de_bin opd_mul (de_callB cd_abs rfl h.b_abs boot_abs (da_cons (de_var (pv 2)) (da_nil))) (de_callTy cd_int rfl h.b_int boot_int (da_cons (de_cmp (opd_ge hr.units) (de_callB cd_abs rfl h.b_abs boot_abs (da_cons (de_var (pv 2)) (da_nil))) (de_bin opd_pow (de_int) (de_int)) rfl) (da_nil)))) (da_cons (de_bin opd_add (de_bin opd_add (de_bin opd_mod (de_callTy cd_int rfl h.b_int boot_int (da_cons (de_var (pv 2)) (da_nil))) (de_int)) (de_bin opd_mul (de_int) (de_var (pv 1)))) (de_int)) (da_cons (de_int) (da_nil)))))))
theorem ok_l_take (h : Fx K mg a) : FnOk P w K mg base (CX P w) (0 + 1) a.f_l_take a.e_l_take p_l_take (spM K mg 2 d_l_take) := fn_M (k := 0) h.F_l_take sc_l_take rfl (by decide) fun cdv A outer s H E hr hx hp =>
  dss_cons (ds_if (dt_cmp (opd_gt hr.units) (de_ixO (pv 0) (de_int)) (de_int) rfl) (dss_cons (ds_set sc_l_take.nd rfl (by first | exact .inl rfl | exact .inr rfl) (dsl_d (de_bin opd_mod (de_callTy cd_int rfl h.b_int boot_int (da_cons (de_ixO (pv 0) (de_int)) (da_nil))) (de_var (pv 1))))) (dss_cons (ds_putL (pv 0) (de_int) (de_bin opd_div (de_ixO (pv 0) (de_int)) (de_var (pv 1)))) (dss_one (ds_ret (de_var (pv 5)))))) (dss_nil)) (dss_cons (ds_putL (pv 0) (de_int) (de_bin opd_add (de_ixO (pv 0) (de_int)) (de_int))) (dss_cons (ds_set sc_l_take.nd rfl (by first | exact .inl rfl | exact .inr rfl) (dsl_d (de_bin opd_mod (de_callTy cd_int rfl h.b_int boot_int (da_cons (de_bin opd_mul (de_bin opd_add (de_ixO (pv 0) (de_int)) (de_bin opd_mul (de_int) (de_ixO (pv 0) (de_int)))) (de_bin opd_add (de_int) (de_ixO (pv 0) (de_int)))) (da_nil))) (de_int)))) (dss_cons (ds_set sc_l_take.nd rfl (by first | exact .inl rfl | exact .inr rfl) (dsl_d (de_bin opd_add (de_bin opd_mod (de_callTy cd_int rfl h.b_int boot_int (da_cons (de_var (pv 2)) (da_nil))) (de_int)) (de_int)))) (dss_cons (ds_set sc_l_take.nd rfl (by first | exact .inl rfl | exact .inr rfl) (dsl_d (de_bin opd_mod (de_callTy cd_int rfl h.b_int boot_int (da_cons (de_bin opd_mul (de_bin opd_add (de_bin opd_add (de_var (pv 2)) (de_ixO (pv 0) (de_int))) (de_bin opd_div (de_ixO (pv 0) (de_int)) (de_int))) (de_var (pv 3))) (da_nil))) (de_int)))) (dss_one (ds_ret (de_bin opd_mod (de_callTy cd_int rfl h.b_int boot_int (da_cons (de_bin opd_div (de_bin opd_mod (de_callTy cd_int rfl h.b_int boot_int (da_cons (de_bin opd_add (de_bin opd_mul (de_var (pv 4)) (de_int)) (de_var (pv 2))) (da_nil))) (de_int)) (de_int)) (da_nil))) (de_var (pv 1)))))))))
theorem ok_l_cells (h : Fx K mg a) : FnOk P w K mg base (CX P w) (0 + 1) a.f_l_cells a.e_l_cells p_l_cells (spA K mg 2 d_l_cells) := fn_A (k := 0) h.F_l_cells sc_l_cells rfl (by decide) fun cdv A outer s H E hr hx hp =>
  dss_cons (ds_set sc_l_cells.nd rfl (by first | exact .inl rfl | exact .inr rfl) (dsl_or (dsl_list rfl h.b_list (da_cons (de_slice (de_var (pv 0)) do_none (do_some (de_var (pv 1)))) (da_nil))) (dsl_one (dsl_lst (da_cons (de_int) (da_nil)))))) (dss_cons (ds_for [3, 4, 5] hp rfl (di_en rfl h.b_enumerate (da_cons (de_slice (de_var (pv 0)) (do_some (de_var (pv 1))) (do_some (de_int))) (da_nil))) (dg_tup rfl (dgs_cons (dg_name sc_l_cells.nd rfl (by first | exact .inl rfl | exact .inr rfl)) (dgs_cons (dg_name sc_l_cells.nd rfl (by first | exact .inl rfl | exact .inr rfl)) (dgs_nil)))) (dss_cons (ds_set sc_l_cells.nd rfl (by first | exact .inl rfl | exact .inr rfl) (dsl_d (de_bin opd_mod (de_callTy cd_int rfl h.b_int boot_int (da_cons (de_var (pv 3)) (da_nil))) (de_var (pv 1))))) (dss_one (ds_putL (pv 2) (de_var (pv 5)) (de_bin opd_add (de_ixO (pv 2) (de_var (pv 5))) (de_bin opd_mul (de_var (pv 4)) (de_bin opd_add (de_var (pv 3)) (de_int)))))))) (dss_one (ds_ret (de_var (pv 2)))))
theorem ok_l_of (h : Fx K mg a) : FnOk P w K mg base (CX P w) (1 + 1) a.f_l_of a.e_l_of p_l_of (spM K mg 2 d_l_of) := fn_M (k := 1) h.F_l_of sc_l_of rfl (by decide) fun cdv A outer s H E hr hx hp =>
  dss_one (ds_ret (de_ix ixd_seq (de_var (pv 1)) (de_callM (ok_l_take h) (hr.mono (by omega)) rfl h.g_l_take h.F_l_take.kp (bi_l_take h) hx (pv 0) (da_cons (de_callB cd_len rfl h.b_len boot_len (da_cons (de_var (pv 1)) (da_nil))) (da_nil)))))
theorem ok_l_lists (h : Fx K mg a) : ∀ k : Nat, FnOk P w K mg base (CX P w) (0 + k + 1) a.f_l_lists a.e_l_lists p_l_lists (spA K mg 1 (d_l_lists k))
  | 0 => fn_A h.F_l_lists sc_l_lists rfl (by decide) fun cdv A outer s H E hr hx hp => pss_stuck
  | k + 1 => fn_A (k := 0 + k + 1) h.F_l_lists sc_l_lists rfl (by decide) fun cdv A outer s H E hr hx hp => dss_one (ds_ret (de_if (dt_val (de_callB cd_isiT rfl h.b_isinstance boot_isinstance (da_cons (de_var (pv 0)) (da_cons (de_tup (da_cons (de_ty rfl h.b_list boot_list) (da_cons (de_ty rfl h.b_tuple boot_tuple) (da_nil)))) (da_nil))))) (de_lc (own := [("_law_bit", 1)]) rfl sc_l_lists.nd (di_val (de_var (pv 0))) (blkOk_of rfl (by kernel_rfl)) (fun _ _ _ _ _ => dg_name sc_l_lists.nd rfl (by first | exact .inl rfl | exact .inr rfl)) (fun _ _ _ _ _ => dts_nil) (fun _ _ _ _ _ => de_callA (ok_l_lists h k) (hr.mono (by omega)) rfl h.g_l_lists h.F_l_lists.kp (bi_l_lists h) passL (da_cons (de_var (pv 1)) (da_nil)))) (de_var (pv 0))))
theorem ok_l_same (h : Fx K mg a) : ∀ k : Nat, FnOk P w K mg base (CX P w) (0 + k + 1) a.f_l_same a.e_l_same p_l_same (spA K mg 2 (d_l_same k))
  | 0 => fn_A h.F_l_same sc_l_same rfl (by decide) fun cdv A outer s H E hr hx hp => pss_stuck
  | k + 1 => fn_A (k := 0 + k + 1) h.F_l_same sc_l_same rfl (by decide) fun cdv A outer s H E hr hx hp => dss_cons (ds_if (dt_val (de_callB cd_isiT rfl h.b_isinstance boot_isinstance (da_cons (de_var (pv 1)) (da_cons (de_tup (da_cons (de_ty rfl h.b_list boot_list) (da_cons (de_ty rfl h.b_tuple boot_tuple) (da_nil)))) (da_nil))))) (dss_cons (ds_if (dt_w (dw_or (dt_cmp (opd_Ne hr.units) (de_callB cd_isi rfl h.b_isinstance boot_isinstance (da_cons (de_var (pv 0)) (da_cons (de_ty rfl h.b_list boot_list) (da_nil)))) (de_callB cd_isi rfl h.b_isinstance boot_isinstance (da_cons (de_var (pv 1)) (da_cons (de_ty rfl h.b_list boot_list) (da_nil)))) rfl) (dw_or1 (dt_cmp (opd_Ne hr.units) (de_callB cd_isi rfl h.b_isinstance boot_isinstance (da_cons (de_var (pv 0)) (da_cons (de_ty rfl h.b_tuple boot_tuple) (da_nil)))) (de_callB cd_isi rfl h.b_isinstance boot_isinstance (da_cons (de_var (pv 1)) (da_cons (de_ty rfl h.b_tuple boot_tuple) (da_nil)))) rfl)))) (dss_one (ds_ret (de_bl))) (dss_nil)) (dss_one (ds_ret (de_and (de_cmp (opd_Eq hr.units) (de_callB cd_len rfl h.b_len boot_len (da_cons (de_var (pv 0)) (da_nil))) (de_callB cd_len rfl h.b_len boot_len (da_cons (de_var (pv 1)) (da_nil))) rfl) (de_one (de_callB (cd_all rfl) rfl h.b_all boot_all (da_cons (de_lc (own := [("_law_mine", 2), ("_law_its", 3)]) rfl sc_l_same.nd (di_zip2 rfl h.b_zip (da_cons (de_var (pv 0)) (da_cons (de_var (pv 1)) (da_nil)))) (blkOk_of rfl (by kernel_rfl)) (fun _ _ _ _ _ => dg_tup rfl (dgs_cons (dg_name sc_l_same.nd rfl (by first | exact .inl rfl | exact .inr rfl)) (dgs_cons (dg_name sc_l_same.nd rfl (by first | exact .inl rfl | exact .inr rfl)) (dgs_nil)))) (fun _ _ _ _ _ => dts_nil) (fun _ _ _ _ _ => de_callA (ok_l_same h k) (hr.mono (by omega)) rfl h.g_l_same h.F_l_same.kp (bi_l_same h) passL (da_cons (de_var (pv 2)) (da_cons (de_var (pv 3)) (da_nil))))) (da_nil)))))))) (dss_nil)) (dss_cons (ds_if (dt_w (dw_or (dt_isN (de_var (pv 1))) (dw_or1 (dt_val (de_callB cd_isiT rfl h.b_isinstance boot_isinstance (da_cons (de_var (pv 1)) (da_cons (de_tup (da_cons (de_ty rfl h.b_bool boot_bool) (da_cons (de_ty rfl h.b_str boot_str) (da_nil)))) (da_nil)))))))) (dss_one (ds_ret (de_and (de_cmp (opd_Eq hr.units) (de_var (pv 0)) (de_var (pv 1)) rfl) (de_and (de_cmp (opd_Eq hr.units) (de_callB cd_isi rfl h.b_isinstance boot_isinstance (da_cons (de_var (pv 0)) (da_cons (de_ty rfl h.b_bool boot_bool) (da_nil)))) (de_callB cd_isi rfl h.b_isinstance boot_isinstance (da_cons (de_var (pv 1)) (da_cons (de_ty rfl h.b_bool boot_bool) (da_nil)))) rfl) (de_one (de_cmp (opd_Eq hr.units) (de_isN (de_var (pv 0))) (de_isN (de_var (pv 1))) rfl)))))) (dss_nil)) (dss_one (ds_ret (de_and (de_callB cd_isi rfl h.b_isinstance boot_isinstance (da_cons (de_var (pv 0)) (da_cons (de_ty rfl h.b_int boot_int) (da_nil)))) (de_and (de_not (de_callB cd_isi rfl h.b_isinstance boot_isinstance (da_cons (de_var (pv 0)) (da_cons (de_ty rfl h.b_bool boot_bool) (da_nil))))) (de_one (de_cmp (opd_Eq hr.units) (de_var (pv 0)) (de_var (pv 1)) rfl)))))))
theorem ok_l_pairs (h : Fx K mg a) : FnOk P w K mg base (CX P w) (0 + 1) a.f_l_pairs a.e_l_pairs p_l_pairs (spA K mg 1 d_l_pairs) := fn_A (k := 0) h.F_l_pairs sc_l_pairs rfl (by decide) fun cdv A outer s H E hr hx hp =>
  dss_cons (ds_set sc_l_pairs.nd rfl (by first | exact .inl rfl | exact .inr rfl) (dsl_d (de_lst (da_nil)))) (dss_cons (ds_for [2] hp rfl (di_range1 rfl h.b_range (da_cons (de_var (pv 0)) (da_nil))) (dg_name sc_l_pairs.nd rfl (by first | exact .inl rfl | exact .inr rfl)) (dss_one (ds_set sc_l_pairs.nd rfl (by first | exact .inl rfl | exact .inr rfl) (dsl_d (de_bin opd_add (de_var (pv 1)) (de_lc (own := [("_law_two_so", 3)]) rfl sc_l_pairs.nd (di_range2 rfl h.b_range (da_cons (de_bin opd_add (de_var (pv 2)) (de_int)) (da_cons (de_var (pv 0)) (da_nil)))) (blkOk_of rfl (by kernel_rfl)) (fun _ _ _ _ _ => dg_name sc_l_pairs.nd rfl (by first | exact .inl rfl | exact .inr rfl)) (fun _ _ _ _ _ => dts_nil) (fun _ _ _ _ _ => de_tup (da_cons (de_var (pv 2)) (da_cons (de_var (pv 3)) (da_nil)))))))))) (dss_one (ds_ret (de_var (pv 1)))))
theorem ok_l_tally (h : Fx K mg a) : FnOk P w K mg base (CX P w) (1 + 1) a.f_l_tally a.e_l_tally p_l_tally (spM K mg 3 d_l_tally) := fn_M (k := 1) h.F_l_tally sc_l_tally rfl (by decide) fun cdv A outer s H E hr hx hp =>
  dss_cons (ds_par rfl sc_l_tally.nd rfl rfl (by decide) rfl rfl (dsl_d (de_callM (ok_l_take h) (hr.mono (by omega)) rfl h.g_l_take h.F_l_take.kp (bi_l_take h) hx (pv 0) (da_cons (de_int) (da_nil)))) (dsl_lst (da_nil))) (dss_cons (ds_for [5, 6] hp rfl (di_val (de_callA (ok_l_pairs h) (hr.mono (by omega)) rfl h.g_l_pairs h.F_l_pairs.kp (bi_l_pairs h) hx (da_cons (de_var (pv 1)) (da_nil)))) (dg_name sc_l_tally.nd rfl (by first | exact .inl rfl | exact .inr rfl)) (dss_cons (ds_set sc_l_tally.nd rfl (by first | exact .inl rfl | exact .inr rfl) (dsl_d (de_if (dt_w (dw_or (dt_cmp (opd_lt hr.units) (de_var (pv 3)) (de_int) rfl) (dw_or1 (dt_cmp (opd_Eq hr.units) (de_callM (ok_l_take h) (hr.mono (by omega)) rfl h.g_l_take h.F_l_take.kp (bi_l_take h) hx (pv 0) (da_cons (de_int) (da_nil))) (de_int) rfl)))) (de_callM (ok_l_take h) (hr.mono (by omega)) rfl h.g_l_take h.F_l_take.kp (bi_l_take h) hx (pv 0) (da_cons (de_bin opd_add (de_var (pv 2)) (de_int)) (da_nil))) (de_int)))) (dss_one (ds_if (dt_cmp (opd_gt hr.units) (de_var (pv 6)) (de_int) rfl) (dss_one (ds_app (pv 4) (de_tup (da_cons (de_var (pv 5)) (da_cons (de_var (pv 6)) (da_nil)))))) (dss_nil))))) (dss_one (ds_ret (de_tup (da_cons (de_var (pv 1)) (da_cons (de_callTy cd_tuple rfl h.b_tuple boot_tuple (da_cons (de_var (pv 4)) (da_nil))) (da_nil)))))))
theorem ok_l_is_whole (h : Fx K mg a) : FnOk P w K mg base (CX P w) (0 + 1) a.f_l_is_whole a.e_l_is_whole p_l_is_whole (spA K mg 1 d_l_is_whole) := fn_A (k := 0) h.F_l_is_whole sc_l_is_whole rfl (by decide) fun cdv A outer s H E hr hx hp =>
  dss_one (ds_ret (de_and (de_callB cd_isi rfl h.b_isinstance boot_isinstance (da_cons (de_var (pv 0)) (da_cons (de_ty rfl h.b_int boot_int) (da_nil)))) (de_one (de_not (de_callB cd_isi rfl h.b_isinstance boot_isinstance (da_cons (de_var (pv 0)) (da_cons (de_ty rfl h.b_bool boot_bool) (da_nil))))))))
theorem ok_l_is_tally (h : Fx K mg a) : FnOk P w K mg base (CX P w) (1 + 1) a.f_l_is_tally a.e_l_is_tally p_l_is_tally (spA K mg 1 d_l_is_tally) := fn_A (k := 1) h.F_l_is_tally sc_l_is_tally rfl (by decide) fun cdv A outer s H E hr hx hp =>
  dss_cons (ds_if (dt_w (dw_or (dt_not (dt_val (de_callB cd_isi rfl h.b_isinstance boot_isinstance (da_cons (de_var (pv 0)) (da_cons (de_ty rfl h.b_tuple boot_tuple) (da_nil)))))) (dw_or (dt_cmp (opd_Ne hr.units) (de_callB cd_len rfl h.b_len boot_len (da_cons (de_var (pv 0)) (da_nil))) (de_int) rfl) (dw_or (dt_not (dt_val (de_callA (ok_l_is_whole h) (hr.mono (by omega)) rfl h.g_l_is_whole h.F_l_is_whole.kp (bi_l_is_whole h) hx (da_cons (de_ix ixd_seq (de_var (pv 0)) (de_int)) (da_nil))))) (dw_or1 (dt_cmp (opd_lt hr.units) (de_ix ixd_seq (de_var (pv 0)) (de_int)) (de_int) rfl)))))) (dss_one (ds_ret (de_bl))) (dss_nil)) (dss_cons (ds_if (dt_not (dt_val (de_callB cd_isi rfl h.b_isinstance boot_isinstance (da_cons (de_ix ixd_seq (de_var (pv 0)) (de_int)) (da_cons (de_ty rfl h.b_tuple boot_tuple) (da_nil)))))) (dss_one (ds_ret (de_bl))) (dss_nil)) (dss_cons (ds_for [1] hp rfl (di_val (de_ix ixd_seq (de_var (pv 0)) (de_int))) (dg_name sc_l_is_tally.nd rfl (by first | exact .inl rfl | exact .inr rfl)) (dss_cons (ds_if (dt_w (dw_or (dt_not (dt_val (de_callB cd_isi rfl h.b_isinstance boot_isinstance (da_cons (de_var (pv 1)) (da_cons (de_ty rfl h.b_tuple boot_tuple) (da_nil)))))) (dw_or (dt_cmp (opd_Ne hr.units) (de_callB cd_len rfl h.b_len boot_len (da_cons (de_var (pv 1)) (da_nil))) (de_int) rfl) (dw_or (dt_not (dt_val (de_callA (ok_l_is_whole h) (hr.mono (by omega)) rfl h.g_l_is_whole h.F_l_is_whole.kp (bi_l_is_whole h) hx (da_cons (de_ix ixd_seq (de_var (pv 1)) (de_int)) (da_nil))))) (dw_or1 (dt_cmp (opd_lt hr.units) (de_ix ixd_seq (de_var (pv 1)) (de_int)) (de_int) rfl)))))) (dss_one (ds_ret (de_bl))) (dss_nil)) (dss_cons (ds_if (dt_w (dw_or (dt_not (dt_val (de_callB cd_isi rfl h.b_isinstance boot_isinstance (da_cons (de_ix ixd_seq (de_var (pv 1)) (de_int)) (da_cons (de_ty rfl h.b_tuple boot_tuple) (da_nil)))))) (dw_or (dt_cmp (opd_Ne hr.units) (de_callB cd_len rfl h.b_len boot_len (da_cons (de_ix ixd_seq (de_var (pv 1)) (de_int)) (da_nil))) (de_int) rfl) (dw_or1 (dt_not (dt_val (de_callB (cd_all rfl) rfl h.b_all boot_all (da_cons (de_lc (own := [("_law_bit", 3)]) rfl sc_l_is_tally.nd (di_val (de_ix ixd_seq (de_var (pv 1)) (de_int))) (blkOk_of rfl (by kernel_rfl)) (fun _ _ _ _ _ => dg_name sc_l_is_tally.nd rfl (by first | exact .inl rfl | exact .inr rfl)) (fun _ _ _ _ _ => dts_nil) (fun _ _ _ _ _ => de_callA (ok_l_is_whole h) (hr.mono (by omega)) rfl h.g_l_is_whole h.F_l_is_whole.kp (bi_l_is_whole h) passL (da_cons (de_var (pv 3)) (da_nil)))) (da_nil))))))))) (dss_one (ds_ret (de_bl))) (dss_nil)) (dss_one (ds_if (dt_not (dt_chain (de_int) (.cons (opd_le hr.units) (de_ix ixd_seq (de_ix ixd_seq (de_var (pv 1)) (de_int)) (de_int)) (.cons (opd_lt hr.units) (de_ix ixd_seq (de_ix ixd_seq (de_var (pv 1)) (de_int)) (de_int)) (.one (opd_lt hr.units) (de_ix ixd_seq (de_var (pv 0)) (de_int))))))) (dss_one (ds_ret (de_bl))) (dss_nil)))))) (dss_one (ds_ret (de_cmp (opd_Eq hr.units) (de_lc (own := [("_law_k", 2)]) rfl sc_l_is_tally.nd (di_range2 rfl h.b_range (da_cons (de_int) (da_cons (de_callB cd_len rfl h.b_len boot_len (da_cons (de_ix ixd_seq (de_var (pv 0)) (de_int)) (da_nil))) (da_nil)))) (blkOk_of rfl (by kernel_rfl)) (fun _ _ _ _ _ => dg_name sc_l_is_tally.nd rfl (by first | exact .inl rfl | exact .inr rfl)) (fun _ _ _ _ _ => dts_one (dt_cmp (opd_le hr.units) (de_ix ixd_seq (de_ix ixd_seq (de_ix ixd_seq (de_var (pv 0)) (de_int)) (de_var (pv 2))) (de_int)) (de_ix ixd_seq (de_ix ixd_seq (de_ix ixd_seq (de_var (pv 0)) (de_int)) (de_bin opd_sub (de_var (pv 2)) (de_int))) (de_int)) rfl)) (fun _ _ _ _ _ => de_var (pv 2))) (de_lst (da_nil)) rfl)))))
theorem ok_l_odd (h : Fx K mg a) : ∀ k : Nat, FnOk P w K mg base (CX P w) (2 + k + 1) a.f_l_odd a.e_l_odd p_l_odd (spM K mg 2 (d_l_odd k))
  | 0 => fn_M h.F_l_odd sc_l_odd rfl (by decide) fun cdv A outer s H E hr hx hp => pss_stuck
  | k + 1 => fn_M (k := 2 + k + 1) h.F_l_odd sc_l_odd rfl (by decide) fun cdv A outer s H E hr hx hp => dss_cons (ds_if (dt_w (dw_and (dt_val (de_callB cd_isi rfl h.b_isinstance boot_isinstance (da_cons (de_var (pv 1)) (da_cons (de_ty rfl h.b_tuple boot_tuple) (da_nil))))) (dw_and (dt_cmp (opd_Ne hr.units) (de_var (pv 1)) (de_tup (da_nil)) rfl) (dw_and1 (dt_cmp (opd_gt hr.units) (de_callM (ok_l_take h) (hr.mono (by omega)) rfl h.g_l_take h.F_l_take.kp (bi_l_take h) hx (pv 0) (da_cons (de_int) (da_nil))) (de_int) rfl))))) (dss_cons (ds_set sc_l_odd.nd rfl (by first | exact .inl rfl | exact .inr rfl) (dsl_d (de_callM (ok_l_take h) (hr.mono (by omega)) rfl h.g_l_take h.F_l_take.kp (bi_l_take h) hx (pv 0) (da_cons (de_callB cd_len rfl h.b_len boot_len (da_cons (de_var (pv 1)) (da_nil))) (da_nil))))) (dss_one (ds_ret (de_bin opd_add (de_bin opd_add (de_slice (de_var (pv 1)) do_none (do_some (de_var (pv 3)))) (de_tup (da_cons (de_callM (ok_l_odd h k) (hr.mono (by omega)) rfl h.g_l_odd h.F_l_odd.kp (bi_l_odd h) hx (pv 0) (da_cons (de_ix ixd_seq (de_var (pv 1)) (de_var (pv 3))) (da_nil))) (da_nil)))) (de_slice (de_var (pv 1)) (do_some (de_bin opd_add (de_var (pv 3)) (de_int))) do_none))))) (dss_nil)) (dss_cons (ds_set sc_l_odd.nd rfl (by first | exact .inl rfl | exact .inr rfl) (dsl_d (de_lst (da_cons (de_non) (da_cons (de_bl) (da_cons (de_bl) (da_cons (de_int) (da_cons (de_int) (da_cons (de_neg (de_int)) (da_cons (de_int) (da_cons (de_int) (da_cons (de_str) (da_cons (de_str) (da_cons (de_tup (da_nil)) (da_cons (de_lst (da_nil)) (da_cons (de_tup (da_cons (de_int) (da_nil))) (da_cons (de_tup (da_cons (de_int) (da_cons (de_int) (da_nil)))) (da_cons (de_tup (da_cons (de_tup (da_cons (de_int) (da_cons (de_int) (da_nil)))) (da_cons (de_int) (da_nil)))) (da_cons (de_bin opd_pow (de_int) (de_int)) (da_nil)))))))))))))))))))) (dss_cons (ds_if (dt_val (de_callB cd_isi rfl h.b_isinstance boot_isinstance (da_cons (de_var (pv 1)) (da_cons (de_ty rfl h.b_tuple boot_tuple) (da_nil))))) (dss_one (ds_set sc_l_odd.nd rfl (by first | exact .inl rfl | exact .inr rfl) (dsl_d (de_bin opd_add (de_var (pv 2)) (de_lst (da_cons (de_callTy cd_list rfl h.b_list boot_list (da_cons (de_var (pv 1)) (da_nil))) (da_cons (de_rev (de_var (pv 1))) (da_cons (de_slice (de_var (pv 1)) (do_some (de_int)) do_none) (da_cons (de_bin opd_add (de_var (pv 1)) (de_slice (de_var (pv 1)) (do_some (de_neg (de_int))) do_none)) (da_cons (de_tup (da_cons (de_var (pv 1)) (da_nil))) (da_cons (de_slice (de_var (pv 1)) do_none (do_some (de_int))) (da_nil)))))))))))) (dss_nil)) (dss_one (ds_ret (de_callM (ok_l_of h) (hr.mono (by omega)) rfl h.g_l_of h.F_l_of.kp (bi_l_of h) hx (pv 0) (da_cons (de_var (pv 2)) (da_nil)))))))
theorem ok_l_by_hand_right (h : Fx K mg a) : FnOk P w K mg base (CX P w) (25 + 1) a.f_l_by_hand_right a.e_l_by_hand_right p_l_by_hand_right (spA K mg 0 d_l_by_hand_right) := fn_A (k := 25) h.F_l_by_hand_right sc_l_by_hand_right rfl (by decide) fun cdv A outer s H E hr hx hp =>
  dss_cons (ds_set sc_l_by_hand_right.nd rfl (by first | exact .inl rfl | exact .inr rfl) (dsl_d (de_lst (da_cons (de_tup (da_cons (de_int) (da_cons (de_tup (da_nil)) (da_nil)))) (da_cons (de_tup (da_cons (de_int) (da_cons (de_tup (da_cons (de_tup (da_cons (de_tup (da_cons (de_int) (da_cons (de_int) (da_nil)))) (da_cons (de_int) (da_nil)))) (da_nil))) (da_nil)))) (da_cons (de_tup (da_cons (de_int) (da_cons (de_tup (da_cons (de_tup (da_cons (de_tup (da_cons (de_int) (da_cons (de_int) (da_nil)))) (da_cons (de_int) (da_nil)))) (da_cons (de_tup (da_cons (de_tup (da_cons (de_int) (da_cons (de_int) (da_nil)))) (da_cons (de_bin opd_pow (de_int) (de_int)) (da_nil)))) (da_cons (de_tup (da_cons (de_tup (da_cons (de_int) (da_cons (de_int) (da_nil)))) (da_cons (de_int) (da_nil)))) (da_nil))))) (da_nil)))) (da_cons (de_tup (da_cons (de_int) (da_cons (de_tup (da_cons (de_tup (da_cons (de_tup (da_cons (de_int) (da_cons (de_int) (da_nil)))) (da_cons (de_int) (da_nil)))) (da_nil))) (da_nil)))) (da_nil)))))))) (dss_cons (ds_set sc_l_by_hand_right.nd rfl (by first | exact .inl rfl | exact .inr rfl) (dsl_lst (da_cons (de_tup (da_cons (de_int) (da_cons (de_tup (da_nil)) (da_nil)))) (da_cons (de_tup (da_cons (de_int) (da_cons (de_tup (da_nil)) (da_nil)))) (da_cons (de_tup (da_cons (de_neg (de_int)) (da_cons (de_tup (da_nil)) (da_nil)))) (da_cons (de_tup (da_cons (de_bl) (da_cons (de_tup (da_nil)) (da_nil)))) (da_cons (de_tup (da_cons (de_non) (da_cons (de_tup (da_nil)) (da_nil)))) (da_cons (de_tup (da_cons (de_str) (da_cons (de_tup (da_nil)) (da_nil)))) (da_cons (de_tup (da_cons (de_int) (da_nil))) (da_cons (de_tup (da_cons (de_int) (da_cons (de_tup (da_nil)) (da_cons (de_tup (da_nil)) (da_nil))))) (da_cons (de_lst (da_cons (de_int) (da_cons (de_tup (da_nil)) (da_nil)))) (da_cons (de_tup (da_cons (de_int) (da_cons (de_lst (da_nil)) (da_nil)))) (da_nil))))))))))))) (dss_cons (ds_set sc_l_by_hand_right.nd rfl (by first | exact .inl rfl | exact .inr rfl) (dsl_cat (de_var (pv 1)) (de_lst (da_cons (de_tup (da_cons (de_int) (da_cons (de_non) (da_nil)))) (da_cons (de_int) (da_cons (de_non) (da_cons (de_str) (da_cons (de_tup (da_nil)) (da_cons (de_lst (da_nil)) (da_cons (de_tup (da_cons (de_tup (da_nil)) (da_cons (de_int) (da_nil)))) (da_cons (de_tup (da_cons (de_int) (da_cons (de_tup (da_cons (de_tup (da_cons (de_tup (da_cons (de_int) (da_cons (de_int) (da_nil)))) (da_cons (de_int) (da_nil)))) (da_nil))) (da_nil)))) (da_cons (de_tup (da_cons (de_int) (da_cons (de_tup (da_cons (de_tup (da_cons (de_tup (da_cons (de_int) (da_cons (de_int) (da_nil)))) (da_cons (de_int) (da_nil)))) (da_nil))) (da_nil)))) (da_nil))))))))))))) (dss_cons (ds_app (pv 1) (de_tup (da_cons (de_int) (da_cons (de_tup (da_cons (de_tup (da_cons (de_tup (da_cons (de_int) (da_cons (de_int) (da_nil)))) (da_cons (de_int) (da_nil)))) (da_nil))) (da_nil))))) (dss_cons (ds_set sc_l_by_hand_right.nd rfl (by first | exact .inl rfl | exact .inr rfl) (dsl_cat (de_var (pv 1)) (de_lst (da_cons (de_tup (da_cons (de_int) (da_cons (de_tup (da_cons (de_tup (da_cons (de_tup (da_cons (de_neg (de_int)) (da_cons (de_int) (da_nil)))) (da_cons (de_int) (da_nil)))) (da_nil))) (da_nil)))) (da_cons (de_tup (da_cons (de_int) (da_cons (de_tup (da_cons (de_tup (da_cons (de_tup (da_cons (de_int) (da_cons (de_int) (da_nil)))) (da_cons (de_int) (da_nil)))) (da_nil))) (da_nil)))) (da_cons (de_tup (da_cons (de_int) (da_cons (de_tup (da_cons (de_tup (da_cons (de_tup (da_cons (de_int) (da_cons (de_int) (da_nil)))) (da_cons (de_neg (de_int)) (da_nil)))) (da_nil))) (da_nil)))) (da_cons (de_tup (da_cons (de_int) (da_cons (de_tup (da_cons (de_tup (da_cons (de_tup (da_cons (de_int) (da_cons (de_int) (da_nil)))) (da_cons (de_bl) (da_nil)))) (da_nil))) (da_nil)))) (da_nil)))))))) (dss_cons (ds_set sc_l_by_hand_right.nd rfl (by first | exact .inl rfl | exact .inr rfl) (dsl_cat (de_var (pv 1)) (de_lst (da_cons (de_tup (da_cons (de_int) (da_cons (de_tup (da_cons (de_tup (da_cons (de_tup (da_cons (de_int) (da_cons (de_int) (da_nil)))) (da_cons (de_str) (da_nil)))) (da_nil))) (da_nil)))) (da_cons (de_tup (da_cons (de_int) (da_cons (de_tup (da_cons (de_tup (da_cons (de_tup (da_cons (de_int) (da_cons (de_int) (da_nil)))) (da_nil))) (da_nil))) (da_nil)))) (da_cons (de_tup (da_cons (de_int) (da_cons (de_tup (da_cons (de_tup (da_cons (de_int) (da_cons (de_int) (da_nil)))) (da_nil))) (da_nil)))) (da_cons (de_tup (da_cons (de_int) (da_cons (de_tup (da_cons (de_tup (da_cons (de_tup (da_cons (de_int) (da_cons (de_int) (da_cons (de_int) (da_nil))))) (da_cons (de_int) (da_nil)))) (da_nil))) (da_nil)))) (da_nil)))))))) (dss_cons (ds_app (pv 1) (de_tup (da_cons (de_int) (da_cons (de_tup (da_cons (de_tup (da_cons (de_int) (da_cons (de_int) (da_nil)))) (da_cons (de_int) (da_nil)))) (da_nil))))) (dss_cons (ds_set sc_l_by_hand_right.nd rfl (by first | exact .inl rfl | exact .inr rfl) (dsl_cat (de_var (pv 1)) (de_lst (da_cons (de_tup (da_cons (de_int) (da_cons (de_tup (da_cons (de_tup (da_cons (de_tup (da_cons (de_int) (da_cons (de_int) (da_nil)))) (da_cons (de_int) (da_nil)))) (da_cons (de_tup (da_cons (de_tup (da_cons (de_int) (da_cons (de_int) (da_nil)))) (da_cons (de_int) (da_nil)))) (da_nil)))) (da_nil)))) (da_cons (de_tup (da_cons (de_int) (da_cons (de_tup (da_cons (de_tup (da_cons (de_tup (da_cons (de_int) (da_cons (de_int) (da_nil)))) (da_cons (de_int) (da_nil)))) (da_cons (de_tup (da_cons (de_tup (da_cons (de_int) (da_cons (de_int) (da_nil)))) (da_cons (de_int) (da_nil)))) (da_nil)))) (da_nil)))) (da_cons (de_tup (da_cons (de_int) (da_cons (de_tup (da_cons (de_lst (da_cons (de_tup (da_cons (de_int) (da_cons (de_int) (da_nil)))) (da_cons (de_int) (da_nil)))) (da_nil))) (da_nil)))) (da_nil))))))) (dss_cons (ds_set sc_l_by_hand_right.nd rfl (by first | exact .inl rfl | exact .inr rfl) (dsl_cat (de_var (pv 1)) (de_lst (da_cons (de_tup (da_cons (de_int) (da_cons (de_tup (da_cons (de_tup (da_cons (de_lst (da_cons (de_int) (da_cons (de_int) (da_nil)))) (da_cons (de_int) (da_nil)))) (da_nil))) (da_nil)))) (da_cons (de_tup (da_cons (de_int) (da_cons (de_tup (da_cons (de_tup (da_cons (de_tup (da_cons (de_bl) (da_cons (de_int) (da_nil)))) (da_cons (de_int) (da_nil)))) (da_nil))) (da_nil)))) (da_cons (de_tup (da_cons (de_int) (da_cons (de_tup (da_cons (de_tup (da_cons (de_tup (da_cons (de_int) (da_cons (de_non) (da_nil)))) (da_cons (de_int) (da_nil)))) (da_nil))) (da_nil)))) (da_cons (de_tup (da_cons (de_int) (da_cons (de_tup (da_cons (de_non) (da_nil))) (da_nil)))) (da_cons (de_tup (da_cons (de_int) (da_cons (de_str) (da_nil)))) (da_nil))))))))) (dss_cons (ds_set sc_l_by_hand_right.nd rfl (by first | exact .inl rfl | exact .inr rfl) (dsl_d (de_tup (da_cons (de_int) (da_cons (de_tup (da_nil)) (da_nil)))))) (dss_cons (ds_for [3] hp rfl (di_range1 rfl h.b_range (da_cons (de_int) (da_nil))) (dg_name sc_l_by_hand_right.nd rfl (by first | exact .inl rfl | exact .inr rfl)) (dss_one (ds_set sc_l_by_hand_right.nd rfl (by first | exact .inl rfl | exact .inr rfl) (dsl_d (de_tup (da_cons (de_var (pv 2)) (da_nil))))))) (dss_cons (ds_setLc (own := [("_law_own", 5)]) rfl sc_l_by_hand_right.nd (di_val (de_bin opd_add (de_var (pv 0)) (de_var (pv 1)))) (blkOk_of rfl (by kernel_rfl)) (fun _ _ _ _ _ => dg_name sc_l_by_hand_right.nd rfl (by first | exact .inl rfl | exact .inr rfl)) (fun _ _ _ _ _ => dts_nil) (fun _ _ _ _ _ => de_callA (ok_is_tally h) (hr.mono (by omega)) rfl h.g_is_tally h.F_is_tally.kp (bi_is_tally h) passL (da_cons (de_var (pv 5)) (da_nil))) rfl rfl rfl) (dss_cons (ds_set sc_l_by_hand_right.nd rfl (by first | exact .inl rfl | exact .inr rfl) (dsl_d (de_bin opd_add (de_var (pv 4)) (de_lst (da_cons (de_callA (ok_is_tally h) (hr.mono (by omega)) rfl h.g_is_tally h.F_is_tally.kp (bi_is_tally h) hx (da_cons (de_var (pv 2)) (da_nil))) (da_cons (de_callK0 (ks := ["thing"]) (ok_is_tally h) (hr.mono (by omega)) rfl h.g_is_tally h.F_is_tally.kp (kb_is_tally_0 h) hx (dk_cons (de_ix ixd_seq (de_var (pv 0)) (de_int)) (dk_nil))) (da_cons (de_callK0 (ks := ["thing"]) (ok_is_tally h) (hr.mono (by omega)) rfl h.g_is_tally h.F_is_tally.kp (kb_is_tally_0 h) hx (dk_cons (de_ixO (pv 1) (de_int)) (dk_nil))) (da_nil)))))))) (dss_one (ds_ret (de_callA (ok_l_same h 24) (hr.mono (by omega)) rfl h.g_l_same h.F_l_same.kp (bi_l_same h) hx (da_cons (de_var (pv 4)) (da_cons (de_bin opd_add (de_bin opd_add (de_bin opd_mul (de_lst (da_cons (de_bl) (da_nil))) (de_callB cd_len rfl h.b_len boot_len (da_cons (de_var (pv 0)) (da_nil)))) (de_bin opd_mul (de_lst (da_cons (de_bl) (da_nil))) (de_lenO (pv 1) rfl h.b_len))) (de_lst (da_cons (de_bl) (da_cons (de_bl) (da_cons (de_bl) (da_nil)))))) (da_nil))))))))))))))))))
theorem ok_l_right (h : Fx K mg a) : FnOk P w K mg base (CX P w) (27 + 1) a.f_l_right a.e_l_right p_l_right (spM K mg 1 d_l_right) := fn_M (k := 27) h.F_l_right sc_l_right rfl (by decide) fun cdv A outer s H E hr hx hp =>
  dss_cons (ds_for [1, 2, 3, 4, 5] hp rfl (di_range1 rfl h.b_range (da_cons (de_int) (da_nil))) (dg_name sc_l_right.nd rfl (by first | exact .inl rfl | exact .inr rfl)) (dss_cons (ds_set sc_l_right.nd rfl (by first | exact .inl rfl | exact .inr rfl) (dsl_d (de_callM (ok_l_tally h) (hr.mono (by omega)) rfl h.g_l_tally h.F_l_tally.kp (bi_l_tally h) hx (pv 0) (da_cons (de_bin opd_add (de_int) (de_callM (ok_l_take h) (hr.mono (by omega)) rfl h.g_l_take h.F_l_take.kp (bi_l_take h) hx (pv 0) (da_cons (de_int) (da_nil)))) (da_cons (de_int) (da_nil)))))) (dss_cons (ds_set sc_l_right.nd rfl (by first | exact .inl rfl | exact .inr rfl) (dsl_d (de_lst (da_cons (de_callA (ok_is_tally h) (hr.mono (by omega)) rfl h.g_is_tally h.F_is_tally.kp (bi_is_tally h) hx (da_cons (de_var (pv 2)) (da_nil))) (da_cons (de_callA (ok_is_tally h) (hr.mono (by omega)) rfl h.g_is_tally h.F_is_tally.kp (bi_is_tally h) hx (da_cons (de_callA (ok_l_lists h 24) (hr.mono (by omega)) rfl h.g_l_lists h.F_l_lists.kp (bi_l_lists h) hx (da_cons (de_var (pv 2)) (da_nil))) (da_nil))) (da_cons (de_callK0 (ks := ["thing"]) (ok_is_tally h) (hr.mono (by omega)) rfl h.g_is_tally h.F_is_tally.kp (kb_is_tally_0 h) hx (dk_cons (de_callTy cd_list rfl h.b_list boot_list (da_cons (de_var (pv 2)) (da_nil))) (dk_nil))) (da_nil))))))) (dss_cons (ds_if (dt_not (dt_val (de_callA (ok_l_same h 24) (hr.mono (by omega)) rfl h.g_l_same h.F_l_same.kp (bi_l_same h) hx (da_cons (de_var (pv 3)) (da_cons (de_lst (da_cons (de_bl) (da_cons (de_bl) (da_cons (de_bl) (da_nil))))) (da_nil)))))) (dss_one (ds_ret (de_bl))) (dss_nil)) (dss_one (ds_for [4, 5] hp rfl (di_range1 rfl h.b_range (da_cons (de_int) (da_nil))) (dg_name sc_l_right.nd rfl (by first | exact .inl rfl | exact .inr rfl)) (dss_cons (ds_set sc_l_right.nd rfl (by first | exact .inl rfl | exact .inr rfl) (dsl_d (de_callM (ok_l_odd h 24) (hr.mono (by omega)) rfl h.g_l_odd h.F_l_odd.kp (bi_l_odd h) hx (pv 0) (da_cons (de_var (pv 2)) (da_nil))))) (dss_cons (ds_set sc_l_right.nd rfl (by first | exact .inl rfl | exact .inr rfl) (dsl_d (de_if (dt_cmp (opd_Eq hr.units) (de_callM (ok_l_take h) (hr.mono (by omega)) rfl h.g_l_take h.F_l_take.kp (bi_l_take h) hx (pv 0) (da_cons (de_int) (da_nil))) (de_int) rfl) (de_callM (ok_l_odd h 24) (hr.mono (by omega)) rfl h.g_l_odd h.F_l_odd.kp (bi_l_odd h) hx (pv 0) (da_cons (de_var (pv 5)) (da_nil))) (de_var (pv 5))))) (dss_one (ds_if (dt_not (dt_val (de_callA (ok_l_same h 24) (hr.mono (by omega)) rfl h.g_l_same h.F_l_same.kp (bi_l_same h) hx (da_cons (de_lst (da_cons (de_callA (ok_is_tally h) (hr.mono (by omega)) rfl h.g_is_tally h.F_is_tally.kp (bi_is_tally h) hx (da_cons (de_var (pv 5)) (da_nil))) (da_cons (de_callK0 (ks := ["thing"]) (ok_is_tally h) (hr.mono (by omega)) rfl h.g_is_tally h.F_is_tally.kp (kb_is_tally_0 h) hx (dk_cons (de_var (pv 5)) (dk_nil))) (da_nil)))) (da_cons (de_bin opd_mul (de_lst (da_cons (de_callA (ok_l_is_tally h) (hr.mono (by omega)) rfl h.g_l_is_tally h.F_l_is_tally.kp (bi_l_is_tally h) hx (da_cons (de_var (pv 5)) (da_nil))) (da_nil))) (de_int)) (da_nil)))))) (dss_one (ds_ret (de_bl))) (dss_nil))))))))))) (dss_one (ds_ret (de_bl)))
theorem ok_law (h : Fx K mg a) : FnOk P w K mg base (CX P w) (28 + 1) a.f_law a.e_law p_law (spA K mg 1 d_law) := fn_A (k := 28) h.F_law sc_law rfl (by decide) fun cdv A outer s H E hr hx hp =>
  dss_cons (ds_if (dt_not (dt_val (de_call0A (ok_l_by_hand_right h) (hr.mono (by omega)) rfl h.g_l_by_hand_right h.F_l_by_hand_right.kp (bi_l_by_hand_right h) hx))) (dss_one (ds_ret (de_bl))) (dss_nil)) (dss_cons (ds_set sc_law.nd rfl (by first | exact .inl rfl | exact .inr rfl) (dsl_d (de_callA (ok_l_cells h) (hr.mono (by omega)) rfl h.g_l_cells h.F_l_cells.kp (bi_l_cells h) hx (da_cons (de_var (pv 0)) (da_cons (de_int) (da_nil)))))) (dss_one (ds_ret (de_callB (cd_all rfl) rfl h.b_all boot_all (da_cons (de_lc (own := [("_law_k", 2)]) rfl sc_law.nd (di_range1 rfl h.b_range (da_cons (de_callB cd_len rfl h.b_len boot_len (da_cons (de_var (pv 1)) (da_nil))) (da_nil))) (blkOk_of rfl (by kernel_rfl)) (fun _ _ _ _ _ => dg_name sc_law.nd rfl (by first | exact .inl rfl | exact .inr rfl)) (fun _ _ _ _ _ => dts_nil) (fun _ _ _ _ _ => de_callT (ok_l_right h) (hr.mono (by omega)) rfl h.g_l_right h.F_l_right.kp (bi_l_right h) passL (dsl_callO (ok_l_box h) (hr.mono (by omega)) rfl h.g_l_box h.F_l_box.kp (bi_l_box h) passL (da_cons (de_var (pv 1)) (da_cons (de_var (pv 2)) (da_nil)))))) (da_nil))))))
end
end Lk09

namespace Lk09
open PySem PySem.Spec PyProof.Rows L2 DL
theorem mulOk_l {i j : Int} (h0 : 0 ≤ i) (h : i < 18446744073709551616) : mulOk i j = true := by
  unfold mulOk
  rw [Bool.or_eq_true, Bool.or_eq_true]
  exact .inl (.inl (decide_eq_true (by omega)))
theorem mulOk_r {i j : Int} (h0 : 0 ≤ j) (h : j < 18446744073709551616) : mulOk i j = true := by
  unfold mulOk
  rw [Bool.or_eq_true, Bool.or_eq_true]
  exact .inl (.inr (decide_eq_true (by omega)))
theorem divOk_s {j : Int} (h0 : 0 < j) (h : j < 1073741824) : divOk j = true := by
  unfold divOk
  simp [h0, h]
theorem take_pos (a b c n : Int) (ha : 0 < a) (hn : divOk n = true) (hn0 : 0 < n) : d_l_take [.int a, .int b, .int c] [.int n] = .ok (.int (a % n)) [.int (a / n), .int b, .int c] := by
  unfold d_l_take s_l_take
  simp [runM, un, ha, hn, hn0, ixN]
theorem take_zero (a b c n : Int) (ha : ¬ 0 < a) (hc : 0 ≤ c) (hc1 : c < 1152921504606846976) (hn0 : 0 < n) : ∃ r, d_l_take [.int a, .int b, .int c] [.int n] = .ok (.int (r % n)) [.int a, .int b, .int (c + 1)] := by
  have h1 : ∀ x : Int, mulOk 48271 x = true := fun x => mulOk_l (by omega) (by omega)
  have h2 : ∀ x : Int, mulOk x 48271 = true := fun x => mulOk_r (by omega) (by omega)
  have h3 : ∀ x : Int, mulOk x (39373 + (c + 1)) = true := fun x => mulOk_r (by omega) (by omega)
  have h4 : ∀ x y : Int, mulOk x (y % 40009 + 7) = true := fun x y => mulOk_r (by omega) (by omega)
  have h5 : divOk 64 = true := by decide
  have h6 : divOk 1000003 = true := by decide
  obtain ⟨R, hR⟩ : ∃ R, R = d_l_take [.int a, .int b, .int c] [.int n] := ⟨_, rfl⟩
  have q := hR
  simp [d_l_take, s_l_take, runM, un, ha, hn0, ixN, h1, h2, h3, h4, h5, h6] at q
  exact ⟨_, hR.symm.trans q⟩
/-- a box of draws: not below nought, few draws so far -/
def BoxOk (l : List D) (m : Nat) : Prop := ∃ a b c : Int, l = [.int a, .int b, .int c] ∧ 0 ≤ a ∧ 0 ≤ c ∧ c ≤ (m : Nat)
theorem BoxOk.mono {l : List D} {m n : Nat} (h : BoxOk l m) (hm : m ≤ n) : BoxOk l n := by
  obtain ⟨a, b, c, e, h1, h2, h3⟩ := h
  exact ⟨a, b, c, e, h1, h2, by omega⟩
theorem take_ok {l : List D} {m : Nat} (h : BoxOk l m) (hm : m < 1000000000) {n : Int} (hn : 0 < n) (hd : divOk n = true) : ∃ r l', d_l_take l [.int n] = .ok (.int r) l' ∧ 0 ≤ r ∧ r < n ∧ BoxOk l' (m + 1) := by
  obtain ⟨a, b, c, rfl, h1, h2, h3⟩ := h
  by_cases ha : 0 < a
  · exact ⟨_, _, take_pos a b c n ha hd hn, Int.emod_nonneg _ (by omega), Int.emod_lt_of_pos _ hn, _, _, _, rfl, Int.ediv_nonneg (by omega) (by omega), h2, by omega⟩
  · obtain ⟨r, e⟩ := take_zero a b c n ha h2 (by omega) hn
    exact ⟨_, _, e, Int.emod_nonneg _ (by omega), Int.emod_lt_of_pos _ hn, _, _, _, rfl, h1, by omega, by omega⟩
theorem box_ok (cs : List Int) (k : Nat) (hk : k < 1000) : ∃ l, d_l_box [.lst (cs.map .int), .int k] = .ok l ∧ BoxOk l 0 := by
  have h1 : ∀ x : Int, mulOk 39373 x = true := fun x => mulOk_l (by omega) (by omega)
  have h2 : ∀ (x : Int) (p : Prop) [Decidable p], mulOk x (if p then 1 else 0) = true := fun x p _ => mulOk_r (by split <;> omega) (by split <;> omega)
  have h3 : powOk 10 18 = true := by decide
  obtain ⟨R, hR⟩ : ∃ R, R = d_l_box [.lst (cs.map .int), .int k] := ⟨_, rfl⟩
  have q := hR
  by_cases hl : k < cs.length
  · have e : atI (cs.map D.int) (k : Int) = some (.int cs[k]) := at_nat (by rw [List.getElem?_map, List.getElem?_eq_getElem hl]; rfl)
    simp [d_l_box, s_l_box, runO, un, hl, e, h1, h2, h3, pPow] at q
    refine ⟨_, hR.symm.trans q, _, _, 0, rfl, ?_, by omega, by omega⟩
    exact Int.mul_nonneg (by split <;> omega) (by split <;> omega)
  · simp [d_l_box, s_l_box, runO, un, hl, h1, h2, h3, pPow] at q
    refine ⟨_, hR.symm.trans q, _, _, 0, rfl, ?_, by omega, by omega⟩
    first | omega | exact Int.mul_nonneg (by split <;> omega) (by split <;> omega)
end Lk09

namespace Lk09
open PySem PySem.Spec PyProof.Rows L2 DL
theorem enD_mem : ∀ (l : List D) (j : Nat) (d : D), d ∈ enD j l → ∃ (k : Nat) (x : D), d = .tup [.int (k : Nat), x] ∧ k < j + l.length ∧ x ∈ l
  | [], _, _, h => by cases h
  | y :: l, j, d, h => by
    rw [enD] at h
    rcases List.mem_cons.mp h with rfl | h
    · exact ⟨j, y, rfl, by rw [List.length_cons]; omega, List.mem_cons_self ..⟩
    · obtain ⟨k, x, e, h1, h2⟩ := enD_mem l (j + 1) d h
      exact ⟨k, x, e, by rw [List.length_cons]; omega, List.mem_cons_of_mem _ h2⟩
theorem sIx_pos (n d : Nat) (v : Nat) : HT.sIx n d (some (v : Int)) = min v n := by
  show (if (v : Int) < 0 then ((v : Int) + (n : Int)).toNat else min (v : Int).toNat n) = _
  rw [if_neg (by omega)]
  rfl
theorem sIx_none (n d : Nat) : HT.sIx n d none = d := rfl
theorem cells_ok (ns : List Int) (hn : ns.length ≤ 63) : ∃ cs : List Int, d_l_cells [.scr ns, .int 3] = .ok (.lst (cs.map .int)) ∧ 1 ≤ cs.length ∧ cs.length ≤ 3 := by
  have c1 : DL.cutD ns none (some 3) = ns.take (min 3 ns.length) := by
    unfold DL.cutD
    rw [sIx_none, show HT.sIx ns.length ns.length (some 3) = min 3 ns.length from sIx_pos _ _ 3]
    simp
  have c2 : DL.cutD ns (some 3) (some 63) = (ns.drop (min 3 ns.length)).take (min 63 ns.length - min 3 ns.length) := by
    unfold DL.cutD
    rw [show HT.sIx ns.length 0 (some 3) = min 3 ns.length from sIx_pos _ _ 3, show HT.sIx ns.length ns.length (some 63) = min 63 ns.length from sIx_pos _ _ 63]
  by_cases hns : ns = []
  · subst hns
    exact ⟨[0], by kernel_rfl, by decide, by decide⟩
  have hpos : 0 < ns.length := List.length_pos_iff.mpr hns
  obtain ⟨cs0, hcs0⟩ : ∃ cs0 : List Int, cs0 = ns.take (min 3 ns.length) := ⟨_, rfl⟩
  have hl0 : cs0.length = min 3 ns.length := by
    rw [hcs0, List.length_take]
    omega
  have hne : cs0 ≠ [] := fun z => by
    rw [z] at hl0
    simp at hl0
    omega
  have hl3 : 3 < ns.length → cs0.length = 3 := fun h => by omega
  have loop : ∀ (items : List D) (cs : List Int), (∀ d ∈ items, ∃ (k : Nat) (c : Int), d = .tup [.int (k : Nat), .int c] ∧ k < 100) → cs.length = cs0.length → (items ≠ [] → cs0.length = 3) →
      ∃ cs' : List Int, cs'.length = cs0.length ∧ loopD (.t [.n 3, .n 4]) [3, 4, 5] (sSeq (sSet 5 (dD (dBin pMod (dCall gIntOf (dCons (dVar 3) (dNil))) (dVar 1)))) (sPutL 2 (dVar 5) (dBin pAdd (dIxO 2 (dVar 5)) (dBin pMul (dVar 4) (dBin pAdd (dVar 3) (dC (.int 2))))))) items
        [.d (.scr ns), .d (.int 3), .own (cs.map .int), .un, .un, .un] = .nx [.d (.scr ns), .d (.int 3), .own (cs'.map .int), .un, .un, .un] := by
    intro items
    induction items with
    | nil => exact fun cs _ h _ => ⟨cs, h, rfl⟩
    | cons d r ih =>
      intro cs hi hc h3
      obtain ⟨k, c, rfl, hk⟩ := hi d (List.mem_cons_self ..)
      have hc3 : cs.length = 3 := hc.trans (h3 (by simp))
      have hkm : (k : Int) % 3 < 3 := by omega
      have hix : ixN cs.length ((k : Int) % 3) = some (k % 3) := by
        unfold ixN
        rw [if_pos (by omega), if_pos (by omega)]
        exact congrArg some (by omega)
      have hlt : k % 3 < cs.length := by omega
      have hat : atI (cs.map D.int) ((k : Int) % 3) = some (.int cs[k % 3]) := by
        unfold atI
        rw [List.length_map, hix]
        simp [hlt]
      have hmul : mulOk c ((k : Int) + 2) = true := mulOk_r (by omega) (by omega)
      obtain ⟨cs', h1, h2⟩ := ih (cs.set (k % 3) (cs[k % 3] + c * ((k : Int) + 2))) (fun d hd => hi d (List.mem_cons_of_mem _ hd)) (by rw [List.length_set]; exact hc) (fun _ => h3 (by simp))
      refine ⟨cs', h1, ?_⟩
      rw [loop_cons, ← h2]
      simp [hat, hmul, hix, List.map_set]
  obtain ⟨cs', h1, h2⟩ := loop (enD 0 (((ns.drop (min 3 ns.length)).take (min 63 ns.length - min 3 ns.length)).map .int)) cs0 (fun d hd => by
    obtain ⟨k, x, rfl, hk, hx⟩ := enD_mem _ _ _ hd
    obtain ⟨c, _, rfl⟩ := List.mem_map.mp hx
    refine ⟨k, c, rfl, ?_⟩
    rw [List.length_map, List.length_take, List.length_drop] at hk
    omega) rfl (fun h => by
    refine hl3 (Nat.lt_of_not_le fun hle => h ?_)
    have : ns.drop (min 3 ns.length) = [] := List.drop_eq_nil_of_le (by omega)
    rw [this, List.take_nil]
    rfl)
  refine ⟨cs', ?_, by omega, by omega⟩
  obtain ⟨R, hR⟩ : ∃ R, R = d_l_cells [.scr ns, .int 3] := ⟨_, rfl⟩
  have q := hR
  rw [← hcs0] at c1
  simp only [d_l_cells, s_l_cells] at q
  simp [runA, un, gSl, gFL, gEn, c1, c2, hne, -List.map_take, -List.map_drop] at q
  rw [h2] at q
  simp at q
  exact hR.symm.trans q
end Lk09

namespace Lk09
open PySem PySem.Spec PyProof.Rows L2 DL
theorem rgD_mem {lo : Int} {n : Nat} {d : D} (h : d ∈ rgD lo n) : ∃ i : Nat, i < n ∧ d = .int (lo + (i : Nat)) := by
  unfold rgD at h
  obtain ⟨i, hi, rfl⟩ := List.mem_map.mp h
  exact ⟨i, List.mem_range.mp hi, rfl⟩
theorem law_gen (h0 : List D → FR) (hc : List D → FR) (hb : List D → FO) (hg : List D → List D → FM) (hh : h0 [] = .ok (.bl true)) (ns : List Int) (cs : List Int) (hcs : hc [.scr ns, .int 3] = .ok (.lst (cs.map .int))) (h3 : cs.length ≤ 3)
    (hr : ∀ i : Nat, i < cs.length → ∃ l l' : List D, hb [.lst (cs.map .int), .int (i : Nat)] = .ok l ∧ hg l [] = .ok (.bl true) l') :
    runA 1 3 (sSeq (sIf (dNotB (dTest (dFn (dArgs 0 h0) dNil))) (sRet (dC (.bl false))) (sNop)) (sSeq (sSet 1 (dD (dFn (dArgs 2 hc) (dCons (dVar 0) (dCons (dC (.int 3)) (dNil)))))) (sRet (dCall gAll (dCons (dLstOf (dComp (.n 2) [2] (dRange gRange1 (dCons (dCall gLen (dCons (dVar 1) (dNil))) (dNil))) (fun ρ => .ok true ρ) (dFnT hg (dFnO (dArgsO 2 hb) (dCons (dVar 1) (dCons (dVar 2) (dNil))))))) (dNil)))))) [.scr ns] = .ok (.bl true) := by
  obtain ⟨te, hte⟩ : ∃ te, te = dFnT hg (dFnO (dArgsO 2 hb) (dCons (dVar 1) (dCons (dVar 2) (dNil)))) := ⟨_, rfl⟩
  have comp : dComp (.n 2) [2] (dRange gRange1 (dCons (dCall gLen (dCons (dVar 1) (dNil))) (dNil))) (fun ρ => .ok true ρ) te [.d (.scr ns), .d (.lst (cs.map .int)), .un] = .ok ((rgD 0 cs.length).map fun _ => .bl true) [.d (.scr ns), .d (.lst (cs.map .int)), .un] := by
    refine dComp_map (fun _ => .bl true) (items := rgD 0 cs.length) ?_ rfl fun d hd => ?_
    · have := range1_ok (j := (cs.length : Nat)) (by omega) (by omega)
      simp [this]
    · obtain ⟨i, hi, rfl⟩ := rgD_mem hd
      obtain ⟨l, l', e1, e2⟩ := hr i hi
      refine ⟨[.d (.scr ns), .d (.lst (cs.map .int)), .d (.int (0 + (i : Nat)))], [.d (.scr ns), .d (.lst (cs.map .int)), .d (.int (0 + (i : Nat)))], by simp, ?_, rfl⟩
      rw [hte]
      simp [e1, e2]
  have hall : gAll [.lst ((rgD 0 cs.length).map fun _ => D.bl true)] = some (.bl true) := by
    refine all_true _ fun y hy => ?_
    obtain ⟨_, _, rfl⟩ := List.mem_map.mp hy
    rfl
  rw [← hte]
  simp [runA, un, hh, hcs, comp, hall, -List.map_const_fun]
theorem law_ok (hh : d_l_by_hand_right [] = .ok (.bl true)) (hr : ∀ l, BoxOk l 0 → ∃ l', d_l_right l [] = .ok (.bl true) l') (ns : List Int) (hn : ns.length ≤ 63) : d_law [.scr ns] = .ok (.bl true) := by
  obtain ⟨cs, hc, h1, h3⟩ := cells_ok ns hn
  exact law_gen d_l_by_hand_right d_l_cells d_l_box d_l_right hh ns cs hc h3 fun i hi => by
    obtain ⟨l, e1, b1⟩ := box_ok cs i (by omega)
    obtain ⟨l', e2⟩ := hr l b1
    exact ⟨l, l', e1, e2⟩
end Lk09

namespace Lk09
open PySem PySem.Spec PyProof.Rows L2 DL
/-! ### plain data -/
def flatP : D → Bool
  | .non => true
  | .bl _ => true
  | .int _ => true
  | .str x => PyData.strOk x
  | _ => false
def PL (B : Nat) : Nat → D → Prop
  | 0, d => flatP d = true
  | h + 1, d => flatP d = true ∨ ∃ l, (d = .tup l ∨ d = .lst l) ∧ l.length ≤ B ∧ ∀ x ∈ l, PL B h x
def isTupB : D → Bool
  | .tup _ => true
  | _ => false
def isNumB : D → Bool
  | .int _ => true
  | _ => false
/-- plain at its top -/
def topP : D → Bool
  | .tup _ => true
  | .lst _ => true
  | d => flatP d
theorem PL.top {B h : Nat} {d : D} (p : PL B h d) : topP d = true := by
  cases h with
  | zero => cases d <;> first | rfl | exact p
  | succ h =>
    rcases p with p | ⟨l, rfl | rfl, _, _⟩
    · cases d <;> first | rfl | exact p
    · rfl
    · rfl
theorem isi_tup {d : D} (p : topP d = true) : gIsi [d, .ty "tuple"] = some (.bl (isTupB d)) := by
  cases d <;> first | rfl | (cases p; done)
theorem num_ok {d : D} (p : topP d = true) : d_is_number [d] = .ok (.bl (isNumB d)) := by
  cases d <;> first | rfl | (cases p; done)
theorem whole_ok {d : D} (p : topP d = true) : d_l_is_whole [d] = .ok (.bl (isNumB d)) := by
  cases d <;> first | rfl | (cases p; done)
/-! ### what a tally is -/
def pairF (n : Int) : D → Bool
  | .tup [.int i, .int j] => decide (0 ≤ i) && (decide (i < j) && decide (j < n))
  | _ => false
def visF (n : Int) : D → Bool
  | .tup [p, .int m] => decide (1 ≤ m) && pairF n p
  | _ => false
theorem len2 {l : List D} : decide ((l.length : Int) ≠ 2) = !decide (l.length = 2) := by
  by_cases h : l.length = 2
  · simp [h]
  · have : (l.length : Int) ≠ 2 := by omega
    simp [h, this]
theorem nums2 (f : List D → FR) (hf : ∀ x, topP x = true → f [x] = .ok (.bl (isNumB x))) (a b : D) (ha : topP a = true) (hb : topP b = true) {vs : List Nat} {i : Nat} {fi : Den (List D)} {ρ ρ1 : En} (hi : fi ρ = .ok [a, b] ρ1) (hn : noOwn [i] ρ1 = true) (hl : i < ρ1.length) :
    dComp (.n i) [i] fi (fun ρ => .ok true ρ) (dFn (dArgs 1 f) (dCons (dVar i) (dNil))) ρ = .ok [.bl (isNumB a), .bl (isNumB b)] ρ1 := by
  have := dComp_map (t := .n i) (vs := [i]) (te := dFn (dArgs 1 f) (dCons (dVar i) (dNil))) (fun d => .bl (isNumB d)) hi hn fun d hd => by
    have hd' : topP d = true := by
      rcases List.mem_cons.mp hd with rfl | hd
      · exact ha
      · rw [List.mem_singleton.mp hd]
        exact hb
    refine ⟨(killE [i] ρ1).set i (.d d), (killE [i] ρ1).set i (.d d), by simp, ?_, ?_⟩
    · have : ((killE [i] ρ1).set i (Sl.d d))[i]? = some (.d d) := List.getElem?_set_self (by rw [killE_len]; exact hl)
      rw [e_dFn, e_dCons, e_dVar, this, e_varD]
      simp [hf d hd']
    · simp
  exact this
theorem PL.kids {B h : Nat} {l : List D} (p : PL B h (.tup l)) : l.length ≤ B ∧ ∃ k, ∀ x ∈ l, PL B k x := by
  cases h with
  | zero => cases p
  | succ h =>
    rcases p with p | ⟨l', e | e, h1, h2⟩
    · cases p
    · cases e
      exact ⟨h1, h, h2⟩
    · cases e
theorem pair_cases (n : Int) (a b : D) (ha : topP a = true) (hb : topP b = true) : (isNumB a && isNumB b) = true ∨ ((isNumB a && isNumB b) = false ∧ pairF n (.tup [a, b]) = false) := by
  cases a <;> cases b <;> simp [isNumB, pairF]
theorem visit_ok {n : Int} {B h : Nat} {d : D} (p : PL B h d) : d_is_visit [.int n, d] = .ok (.bl (visF n d)) := by
  have pt := p.top
  have e1 := isi_tup pt
  obtain ⟨R, hR⟩ : ∃ R, R = d_is_visit [.int n, d] := ⟨_, rfl⟩
  have q := hR
  rw [← hR]
  by_cases ht : isTupB d = true
  · cases d <;> first
      | (cases ht; done)
      | skip
    rename_i l
    rw [ht] at e1
    obtain ⟨hB, k, hk⟩ := p.kids
    match l, hk with
    | [], _ =>
      simp [d_is_visit, s_is_visit, runA, un, e1] at q
      rw [q]
      simp [visF]
    | [a], _ =>
      simp [d_is_visit, s_is_visit, runA, un, e1] at q
      rw [q]
      simp [visF]
    | a :: b :: c :: r, _ =>
      have hl : ((r.length : Int) + 1 + 1 + 1 = 2) = False := by
        simp
        omega
      simp [d_is_visit, s_is_visit, runA, un, e1, hl] at q
      rw [q]
      simp [visF]
    | [a, b], hk =>
      have pa := hk a (by simp)
      have pb := (hk b (by simp)).top
      have ea := isi_tup pa.top
      have eb := num_ok pb
      cases b <;> first
        | (cases pb; done)
        | (simp [d_is_visit, s_is_visit, runA, un, e1, eb, isNumB] at q
           rw [q]
           simp [visF]
           done)
        | skip
      rename_i m
      have em : isNumB (.int m) = true := rfl
      by_cases hm : m < 1
      · have : ¬ 1 ≤ m := by omega
        simp [d_is_visit, s_is_visit, runA, un, e1, eb, em, hm] at q
        rw [q]
        simp [visF, this]
      have hm1 : 1 ≤ m := by omega
      by_cases hta : isTupB a = true
      · cases a <;> first
          | (cases hta; done)
          | skip
        rename_i l2
        rw [hta] at ea
        obtain ⟨_, k2, hk2⟩ := pa.kids
        match l2, hk2 with
        | [], _ =>
          simp [d_is_visit, s_is_visit, runA, un, e1, eb, ea, em, hm] at q
          rw [q]
          simp [visF, pairF]
        | [x], _ =>
          simp [d_is_visit, s_is_visit, runA, un, e1, eb, ea, em, hm] at q
          rw [q]
          simp [visF, pairF]
        | x :: y :: z :: r, _ =>
          have hl : ((r.length : Int) + 1 + 1 + 1 = 2) = False := by
            simp
            omega
          simp [d_is_visit, s_is_visit, runA, un, e1, eb, ea, em, hm, hl] at q
          rw [q]
          simp [visF, pairF]
        | [x, y], hk2 =>
          have px := (hk2 x (by simp)).top
          have py := (hk2 y (by simp)).top
          have cm := nums2 d_is_number (fun x hx => num_ok hx) x y px py (vs := [3]) (i := 3) (fi := dItems (dVar 2)) (ρ := [.d (.int n), .d (.tup [.tup [x, y], .int m]), .d (.tup [x, y]), .un]) (ρ1 := [.d (.int n), .d (.tup [.tup [x, y], .int m]), .d (.tup [x, y]), .un]) (by simp) rfl (by simp)
          have hal : gAll [.lst [D.bl (isNumB x), D.bl (isNumB y)]] = some (.bl (isNumB x && isNumB y)) := by
            have := all_map (fun b : Bool => b) [isNumB x, isNumB y]
            simpa using this
          simp [d_is_visit, s_is_visit, runA, un, e1, eb, ea, em, hm, cm, hal] at q
          rw [q]
          cases x with
          | int ix =>
            cases y with
            | int iy =>
              simp [isNumB, visF, pairF, hm1]
              by_cases h1 : 0 ≤ ix <;> by_cases h2 : ix < iy <;> by_cases h3 : iy < n <;> simp [h1, h2, h3]
            | _ => first
              | (cases py; done)
              | (simp [visF, pairF, isNumB]; done)
          | _ => first
            | (cases px; done)
            | (simp [visF, pairF, isNumB]; done)
      · have hta : isTupB a = false := by simpa using hta
        rw [hta] at ea
        simp [d_is_visit, s_is_visit, runA, un, e1, eb, ea, em, hm] at q
        rw [q]
        cases a <;> first
          | (cases hta; done)
          | simp [visF, pairF]
  · have ht : isTupB d = false := by simpa using ht
    rw [ht] at e1
    simp [d_is_visit, s_is_visit, runA, un, e1] at q
    rw [q]
    cases d <;> first
      | (cases ht; done)
      | simp [visF]
end Lk09

namespace Lk09
open PySem PySem.Spec PyProof.Rows L2 DL
def ltP : D → D → Bool
  | .tup [.int a, .int b], .tup [.int c, .int d] => decide (a < c ∨ (a = c ∧ b < d))
  | _, _ => false
def pairOf : D → D
  | .tup [p, _] => p
  | d => d
def risesF : List D → Bool
  | a :: b :: r => ltP a b && risesF (b :: r)
  | _ => true
def tallyF : D → Bool
  | .tup [.int n, .tup vs] => decide (2 ≤ n) && (vs.all (visF n) && risesF (vs.map pairOf))
  | _ => false
def isIP (d : D) : Prop := ∃ a b : Int, d = .tup [.int a, .int b]
theorem visF_inv {n : Int} {d : D} (h : visF n d = true) : ∃ p m, d = .tup [p, .int m] ∧ isIP p := by
  unfold visF at h
  split at h
  · rename_i p m
    rw [Bool.and_eq_true] at h
    refine ⟨p, m, rfl, ?_⟩
    have h2 := h.2
    unfold pairF at h2
    split at h2
    · exact ⟨_, _, rfl⟩
    · cases h2
  · cases h
theorem py_pair (a b : Int) : toPy (.tup [.int a, .int b]) = some (.tuple [.int a, .int b]) := by
  simp [toPy, toPyL]
theorem ord_pair (a b c d : Int) : ordOk (.tuple [.int a, .int b]) (.tuple [.int c, .int d]) = true := by
  simp [ordOk, SeqAt.shaped, PyData.canLay0, PyData.canLayAll0, PyData.depth, PyData.depthAll, PySem.W.alike, PySem.W.alikeAll]
theorem lt_pair (a b c d : Int) : pLt (.tup [.int a, .int b]) (.tup [.int c, .int d]) = some (.bl (decide (a < c ∨ (a = c ∧ b < d)))) := by
  have e : pLt (.tup [.int a, .int b]) (.tup [.int c, .int d]) = gOrd (fun a b => PySem.W.dataLt a b) (.tup [.int a, .int b]) (.tup [.int c, .int d]) := rfl
  rw [e]
  unfold gOrd
  rw [py_pair, py_pair]
  dsimp only
  rw [if_pos (ord_pair a b c d), PySem.W.dataLt_ii]
theorem le_pair (a b c d : Int) : pLe (.tup [.int a, .int b]) (.tup [.int c, .int d]) = some (.bl (!decide (c < a ∨ (c = a ∧ d < b)))) := by
  have e : pLe (.tup [.int a, .int b]) (.tup [.int c, .int d]) = gOrd (fun a b => !PySem.W.dataLt b a) (.tup [.int a, .int b]) (.tup [.int c, .int d]) := rfl
  rw [e]
  unfold gOrd
  rw [py_pair, py_pair]
  dsimp only
  rw [if_pos (ord_pair a b c d), PySem.W.dataLt_ii]
def fR : D → Bool
  | .tup [x, y] => ltP x y
  | _ => true
theorem rises_zip : ∀ ps : List D, (List.zipWith (fun x y => D.tup [x, y]) ps (ps.drop 1)).all fR = risesF ps
  | [] => rfl
  | [_] => rfl
  | a :: b :: r => by
    have ih := rises_zip (b :: r)
    simp only [List.drop_succ_cons, List.drop_zero, List.zipWith_cons_cons, List.all_cons] at ih ⊢
    rw [risesF, ← ih]
    rfl
theorem cut1 (l : List D) : DL.cutD l (some 1) none = l.drop 1 := by
  unfold DL.cutD
  rw [show HT.sIx l.length 0 (some 1) = min 1 l.length from sIx_pos _ _ 1, sIx_none]
  by_cases h : 1 ≤ l.length
  · rw [Nat.min_eq_left h]
    exact List.take_of_length_le (by rw [List.length_drop]; omega)
  · have : l = [] := List.eq_nil_of_length_eq_zero (by omega)
    subst this
    rfl
theorem zip_mem : ∀ {l m : List D} {d : D}, d ∈ List.zipWith (fun x y => D.tup [x, y]) l m → ∃ x y, d = .tup [x, y] ∧ x ∈ l ∧ y ∈ m
  | [], _, _, h => by simp at h
  | _ :: _, [], _, h => by simp at h
  | a :: l, b :: m, d, h => by
    rw [List.zipWith_cons_cons] at h
    rcases List.mem_cons.mp h with rfl | h
    · exact ⟨a, b, rfl, List.mem_cons_self .., List.mem_cons_self ..⟩
    · obtain ⟨x, y, e, h1, h2⟩ := zip_mem h
      exact ⟨x, y, e, List.mem_cons_of_mem _ h1, List.mem_cons_of_mem _ h2⟩
theorem rises_ok (ps : List D) (hp : ∀ p ∈ ps, isIP p) : d_rises [.lst ps] = .ok (.bl (risesF ps)) := by
  obtain ⟨te, hte⟩ : ∃ te, te = dBin pLt (dVar 1) (dVar 2) := ⟨_, rfl⟩
  have comp : dComp (.t [.n 1, .n 2]) [1, 2] (dRange gZip2 (dCons (dVar 0) (dCons (dSl (dVar 0) (some (dC (.int 1))) none) (dNil)))) (fun ρ => .ok true ρ) te [.d (.lst ps), .un, .un] = .ok ((List.zipWith (fun x y => D.tup [x, y]) ps (ps.drop 1)).map fun d => .bl (fR d)) [.d (.lst ps), .un, .un] := by
    refine dComp_map (fun d => .bl (fR d)) ?_ rfl fun d hd => ?_
    · simp [gSl, cut1, gZip2]
    · obtain ⟨x, y, rfl, hx, hy⟩ := zip_mem hd
      obtain ⟨a, b, rfl⟩ := hp x hx
      obtain ⟨a', b', rfl⟩ := hp y (List.mem_of_mem_drop hy)
      refine ⟨[.d (.lst ps), .d (.tup [.int a, .int b]), .d (.tup [.int a', .int b'])], [.d (.lst ps), .d (.tup [.int a, .int b]), .d (.tup [.int a', .int b'])], by simp, ?_, by simp⟩
      rw [hte]
      simp [lt_pair, fR, ltP]
  rw [hte] at comp
  have hall := all_map fR (List.zipWith (fun x y => D.tup [x, y]) ps (ps.drop 1))
  rw [rises_zip] at hall
  obtain ⟨R, hR⟩ : ∃ R, R = d_rises [.lst ps] := ⟨_, rfl⟩
  have q := hR
  simp only [d_rises, s_rises] at q
  simp [runA, un, comp, hall, -List.drop_one, -List.map_zipWith] at q
  exact hR.symm.trans q
end Lk09

namespace Lk09
open PySem PySem.Spec PyProof.Rows L2 DL
theorem is_tally_ok {B h : Nat} {d : D} (p : PL B h d) : d_is_tally [d] = .ok (.bl (tallyF d)) := by
  have pt := p.top
  have e1 := isi_tup pt
  obtain ⟨R, hR⟩ : ∃ R, R = d_is_tally [d] := ⟨_, rfl⟩
  have q := hR
  rw [← hR]
  by_cases ht : isTupB d = true
  · cases d <;> first
      | (cases ht; done)
      | skip
    rename_i l
    rw [ht] at e1
    obtain ⟨hB, k, hk⟩ := p.kids
    match l, hk with
    | [], _ =>
      simp [d_is_tally, s_is_tally, runA, un, e1] at q
      rw [q]
      simp [tallyF]
    | [a], _ =>
      simp [d_is_tally, s_is_tally, runA, un, e1] at q
      rw [q]
      simp [tallyF]
    | a :: b :: c :: r, _ =>
      have hl : ((r.length : Int) + 1 + 1 + 1 = 2) = False := by
        simp
        omega
      simp [d_is_tally, s_is_tally, runA, un, e1, hl] at q
      rw [q]
      simp [tallyF]
    | [a, b], hk =>
      have pa := (hk a (by simp)).top
      have pb := hk b (by simp)
      have ea := num_ok pa
      have eb := isi_tup pb.top
      cases a with
      | int n =>
        have em : isNumB (.int n) = true := rfl
        by_cases hm : n < 2
        · have : ¬ 2 ≤ n := by omega
          simp [d_is_tally, s_is_tally, runA, un, e1, ea, em, hm] at q
          rw [q]
          cases b <;> simp [tallyF, this]
        · have hm1 : 2 ≤ n := by omega
          by_cases htb : isTupB b = true
          · cases b <;> first
              | (cases htb; done)
              | skip
            rename_i vs
            rw [htb] at eb
            obtain ⟨_, k2, hk2⟩ := pb.kids
            obtain ⟨te, hte⟩ : ∃ te, te = dFn (dArgs 2 d_is_visit) (dCons (dBin gIxS (dVar 0) (dC (.int 0))) (dCons (dVar 3) (dNil))) := ⟨_, rfl⟩
            have c1 : dComp (.n 3) [3] (dItems (dBin gIxS (dVar 0) (dC (.int 1)))) (fun ρ => .ok true ρ) te [.d (.tup [.int n, .tup vs]), .un, .un, .un] = .ok (vs.map fun d => .bl (visF n d)) [.d (.tup [.int n, .tup vs]), .un, .un, .un] := by
              refine dComp_map (fun d => .bl (visF n d)) (by simp) rfl fun d hd => ?_
              refine ⟨[.d (.tup [.int n, .tup vs]), .un, .un, .d d], [.d (.tup [.int n, .tup vs]), .un, .un, .d d], by simp, ?_, by simp⟩
              rw [hte]
              simp [visit_ok (hk2 d hd)]
            rw [hte] at c1
            have h1 := all_map (visF n) vs
            by_cases hv : vs.all (visF n) = true
            · have c2 : dComp (.t [.n 1, .n 2]) [1, 2] (dItems (dBin gIxS (dVar 0) (dC (.int 1)))) (fun ρ => .ok true ρ) (dVar 1) [.d (.tup [.int n, .tup vs]), .un, .un, .un] = .ok (vs.map pairOf) [.d (.tup [.int n, .tup vs]), .un, .un, .un] := by
                refine dComp_map pairOf (by simp) rfl fun d hd => ?_
                obtain ⟨p, m, rfl, _⟩ := visF_inv (List.all_eq_true.mp hv d hd)
                exact ⟨[.d (.tup [.int n, .tup vs]), .d p, .d (.int m), .un], [.d (.tup [.int n, .tup vs]), .d p, .d (.int m), .un], by simp, by simp [pairOf], by simp⟩
              have c3 := rises_ok (vs.map pairOf) fun x hx => by
                obtain ⟨d, hd, rfl⟩ := List.mem_map.mp hx
                obtain ⟨p, m, rfl, h⟩ := visF_inv (List.all_eq_true.mp hv d hd)
                exact h
              rw [hv] at h1
              simp only [d_is_tally, s_is_tally] at q
              simp [runA, un, e1, ea, em, hm, eb, c1, h1, c2, c3, -List.all_eq_true] at q
              rw [q]
              simp only [tallyF, hv, decide_eq_true hm1, Bool.true_and]
            · have hv : vs.all (visF n) = false := by simpa using hv
              rw [hv] at h1
              simp only [d_is_tally, s_is_tally] at q
              simp [runA, un, e1, ea, em, hm, eb, c1, h1] at q
              rw [q]
              simp only [tallyF, hv, Bool.false_and, Bool.and_false]
          · have htb : isTupB b = false := by simpa using htb
            rw [htb] at eb
            simp [d_is_tally, s_is_tally, runA, un, e1, ea, em, hm, eb] at q
            rw [q]
            cases b <;> first
              | (cases htb; done)
              | simp [tallyF]
      | _ => first
        | (cases pa; done)
        | (simp [d_is_tally, s_is_tally, runA, un, e1, ea, isNumB] at q
           rw [q]
           simp [tallyF]
           done)
  · have ht : isTupB d = false := by simpa using ht
    rw [ht] at e1
    simp [d_is_tally, s_is_tally, runA, un, e1] at q
    rw [q]
    cases d <;> first
      | (cases ht; done)
      | simp [tallyF]
end Lk09

namespace Lk09
open PySem PySem.Spec PyProof.Rows L2 DL
def bodyT : Ds := (sSeq (sIf (dOrB (dNotB (dTest (dCall gIsi (dCons (dVar 1) (dCons (dC (.ty "tuple")) (dNil)))))) (dOrB (dTest (dBin pNe (dCall gLen (dCons (dVar 1) (dNil))) (dC (.int 2)))) (dOrB (dNotB (dTest (dFn (dArgs 1 d_l_is_whole) (dCons (dBin gIxS (dVar 1) (dC (.int 1))) (dNil))))) (dTest (dBin pLt (dBin gIxS (dVar 1) (dC (.int 1))) (dC (.int 1))))))) (sRet (dC (.bl false))) (sNop)) (sSeq (sIf (dOrB (dNotB (dTest (dCall gIsi (dCons (dBin gIxS (dVar 1) (dC (.int 0))) (dCons (dC (.ty "tuple")) (dNil)))))) (dOrB (dTest (dBin pNe (dCall gLen (dCons (dBin gIxS (dVar 1) (dC (.int 0))) (dNil))) (dC (.int 2)))) (dNotB (dTest (dCall gAll (dCons (dLstOf (dComp (.n 3) [3] (dItems (dBin gIxS (dVar 1) (dC (.int 0)))) (fun ρ => .ok true ρ) (dFn (dArgs 1 d_l_is_whole) (dCons (dVar 3) (dNil))))) (dNil))))))) (sRet (dC (.bl false))) (sNop)) (sIf (dNotB (dChain (dC (.int 0)) [(pLe, dBin gIxS (dBin gIxS (dVar 1) (dC (.int 0))) (dC (.int 0))), (pLt, dBin gIxS (dBin gIxS (dVar 1) (dC (.int 0))) (dC (.int 1))), (pLt, dBin gIxS (dVar 0) (dC (.int 0)))])) (sRet (dC (.bl false))) (sNop))))
theorem body_ok {n : Int} {X d : D} {B h : Nat} (p : PL B h d) : bodyT [.d (.tup [.int n, X]), .d d, .un, .un] = if visF n d = true then .nx [.d (.tup [.int n, X]), .d d, .un, .un] else .rt (.bl false) [.d (.tup [.int n, X]), .d d, .un, .un] := by
  have pt := p.top
  have e1 := isi_tup pt
  obtain ⟨R, hR⟩ : ∃ R, R = bodyT [.d (.tup [.int n, X]), .d d, .un, .un] := ⟨_, rfl⟩
  have q := hR
  rw [← hR]
  by_cases ht : isTupB d = true
  · cases d <;> first
      | (cases ht; done)
      | skip
    rename_i l
    rw [ht] at e1
    obtain ⟨hB, k, hk⟩ := p.kids
    match l, hk with
    | [], _ =>
      simp [bodyT, e1] at q
      rw [q]
      simp [visF]
    | [a], _ =>
      simp [bodyT, e1] at q
      rw [q]
      simp [visF]
    | a :: b :: c :: r, _ =>
      have hl : ((r.length : Int) + 1 + 1 + 1 = 2) = False := by
        simp
        omega
      simp [bodyT, e1, hl] at q
      rw [q]
      simp [visF]
    | [a, b], hk =>
      have pa := hk a (by simp)
      have pb := (hk b (by simp)).top
      have ea := isi_tup pa.top
      have eb := whole_ok pb
      cases b with
      | int m =>
        have em : isNumB (.int m) = true := rfl
        by_cases hm : m < 1
        · have : ¬ 1 ≤ m := by omega
          simp [bodyT, e1, eb, em, hm] at q
          rw [q]
          simp [visF, this]
        · have hm1 : 1 ≤ m := by omega
          by_cases hta : isTupB a = true
          · cases a <;> first
              | (cases hta; done)
              | skip
            rename_i l2
            rw [hta] at ea
            obtain ⟨_, k2, hk2⟩ := pa.kids
            match l2, hk2 with
            | [], _ =>
              simp [bodyT, e1, eb, ea, em, hm] at q
              rw [q]
              simp [visF, pairF]
            | [x], _ =>
              simp [bodyT, e1, eb, ea, em, hm] at q
              rw [q]
              simp [visF, pairF]
            | x :: y :: z :: r, _ =>
              have hl : ((r.length : Int) + 1 + 1 + 1 = 2) = False := by
                simp
                omega
              simp [bodyT, e1, eb, ea, em, hm, hl] at q
              rw [q]
              simp [visF, pairF]
            | [x, y], hk2 =>
              have px := (hk2 x (by simp)).top
              have py := (hk2 y (by simp)).top
              have cm := nums2 d_l_is_whole (fun x hx => whole_ok hx) x y px py (vs := [3]) (i := 3) (fi := dItems (dBin gIxS (dVar 1) (dC (.int 0)))) (ρ := [.d (.tup [.int n, X]), .d (.tup [.tup [x, y], .int m]), .un, .un]) (ρ1 := [.d (.tup [.int n, X]), .d (.tup [.tup [x, y], .int m]), .un, .un]) (by simp) rfl (by simp)
              have hal : gAll [.lst [D.bl (isNumB x), D.bl (isNumB y)]] = some (.bl (isNumB x && isNumB y)) := by
                have := all_map (fun b : Bool => b) [isNumB x, isNumB y]
                simpa using this
              simp [bodyT, e1, eb, ea, em, hm, cm, hal] at q
              rw [q]
              cases x with
              | int ix =>
                cases y with
                | int iy =>
                  simp [isNumB, visF, pairF, hm1]
                  by_cases h1 : 0 ≤ ix <;> by_cases h2 : ix < iy <;> by_cases h3 : iy < n <;> simp [h1, h2, h3]
                | _ => first
                  | (cases py; done)
                  | (simp [visF, pairF, isNumB]; done)
              | _ => first
                | (cases px; done)
                | (simp [visF, pairF, isNumB]; done)
          · have hta : isTupB a = false := by simpa using hta
            rw [hta] at ea
            simp [bodyT, e1, eb, ea, em, hm] at q
            rw [q]
            cases a <;> first
              | (cases hta; done)
              | simp [visF, pairF]
      | _ => first
        | (cases pb; done)
        | (simp [bodyT, e1, eb, isNumB] at q
           rw [q]
           simp [visF]
           done)
  · have ht : isTupB d = false := by simpa using ht
    rw [ht] at e1
    simp [bodyT, e1] at q
    rw [q]
    cases d <;> first
      | (cases ht; done)
      | simp [visF]
theorem loopT (n : Int) (X : D) (B k : Nat) : ∀ (vs : List D), (∀ x ∈ vs, PL B k x) → ∃ ρ', loopD (.n 1) [1] bodyT vs [.d (.tup [.int n, X]), .un, .un, .un] = if vs.all (visF n) = true then .nx [.d (.tup [.int n, X]), .un, .un, .un] else .rt (.bl false) ρ'
  | [], _ => ⟨[], rfl⟩
  | d :: r, h => by
    obtain ⟨ρ', ih⟩ := loopT n X B k r fun x hx => h x (List.mem_cons_of_mem _ hx)
    have hb := body_ok (n := n) (X := X) (h d (List.mem_cons_self ..))
    rw [loop_cons]
    cases hv : visF n d with
    | true =>
      rw [hv, if_pos rfl] at hb
      refine ⟨ρ', ?_⟩
      simp [hb, ih, hv]
    | false =>
      rw [hv, if_neg Bool.false_ne_true] at hb
      refine ⟨[.d (.tup [.int n, X]), .d d, .un, .un], ?_⟩
      simp [hb, hv]
theorem rises_iff : ∀ ps : List D, risesF ps = true ↔ ∀ i : Nat, i + 1 < ps.length → ltP (ps.getD i .non) (ps.getD (i + 1) .non) = true
  | [] => by simp [risesF]
  | [_] => by simp [risesF]
  | a :: b :: r => by
    rw [risesF, Bool.and_eq_true, rises_iff (b :: r)]
    constructor
    · rintro ⟨h1, h2⟩ i hi
      cases i with
      | zero => simpa using h1
      | succ i =>
        have := h2 i (by simp at hi ⊢; omega)
        simpa using this
    · intro h
      refine ⟨by simpa using h 0 (by simp), fun i hi => ?_⟩
      have := h (i + 1) (by simp at hi ⊢; omega)
      simpa using this
theorem eq_nil (ns : List Int) : pEq (.lst (ns.map .int)) (.lst []) = some (.bl ns.isEmpty) := by
  have e : pEq (.lst (ns.map .int)) (.lst []) = gEq (.lst (ns.map .int)) (.lst []) := rfl
  have h1 : ∀ ns : List Int, toPyL (ns.map .int) = some (ns.map .int) := fun ns => by
    induction ns with
    | nil => simp [toPyL]
    | cons n ns ih => simp [toPyL, toPy, ih]
  have h2 : toPy (.lst (ns.map .int)) = some (.list (ns.map .int)) := by
    rw [toPy, h1]
    rfl
  have h3 : toPy (.lst []) = some (.list []) := by simp [toPy, toPyL]
  have h4 : ∀ ns : List Int, SeqAt.shaped (.list (ns.map .int)) = true := fun ns => by
    have d0 : PyData.depthAll (ns.map .int) = 0 := PySem.W.depth_ints ns
    have c0 : PyData.canLayAll0 (ns.map .int) = true := by
      induction ns with
      | nil => simp [PyData.canLayAll0]
      | cons n ns ih => simp [PyData.canLayAll0, PyData.canLay0, ih (PySem.W.depth_ints ns)]
    simp [SeqAt.shaped, PyData.canLay0, PyData.depth, d0, c0]
  rw [e]
  unfold gEq
  rw [h2, h3]
  dsimp only
  rw [h4 ns, show SeqAt.shaped (.list []) = true from h4 []]
  cases ns <;> simp [PyData.eqv, PyData.eqvAll]
end Lk09

namespace Lk09
open PySem PySem.Spec PyProof.Rows L2 DL
/-- a place at which it does not rise -/
def fK (ps : List D) : D → Bool
  | .int k => !ltP (ps.getD (k - 1).toNat .non) (ps.getD k.toNat .non)
  | _ => false
theorem fK_int (ps : List D) (k : Int) : fK ps (.int k) = !ltP (ps.getD (k - 1).toNat .non) (ps.getD k.toNat .non) := rfl
theorem places (ps : List D) : ∃ ns : List Int, (rgD 1 (ps.length - 1)).filter (fK ps) = ns.map .int ∧ ns.isEmpty = risesF ps := by
  have h1 : rgD 1 (ps.length - 1) = ((List.range (ps.length - 1)).map fun i => (1 : Int) + (i : Nat)).map D.int := by
    unfold rgD
    rw [List.map_map]
    rfl
  refine ⟨(((List.range (ps.length - 1)).map fun i => (1 : Int) + (i : Nat))).filter fun k => fK ps (.int k), ?_, ?_⟩
  · rw [h1, List.filter_map]
    rfl
  · have key : ((((List.range (ps.length - 1)).map fun i => (1 : Int) + (i : Nat))).filter fun k => fK ps (.int k)) = [] ↔ risesF ps = true := by
      rw [rises_iff, List.filter_eq_nil_iff]
      constructor
      · intro h i hi
        have := h ((1 : Int) + (i : Nat)) (List.mem_map.mpr ⟨i, List.mem_range.mpr (by omega), rfl⟩)
        rw [fK_int] at this
        have e1 : ((1 : Int) + (i : Nat) - 1).toNat = i := by omega
        have e2 : ((1 : Int) + (i : Nat)).toNat = i + 1 := by omega
        rw [e1, e2] at this
        simpa using this
      · intro h k hk
        obtain ⟨i, hi, rfl⟩ := List.mem_map.mp hk
        have hi := List.mem_range.mp hi
        have := h i (by omega)
        rw [fK_int]
        have e1 : ((1 : Int) + (i : Nat) - 1).toNat = i := by omega
        have e2 : ((1 : Int) + (i : Nat)).toNat = i + 1 := by omega
        rw [e1, e2, this]
        simp
    cases hr : risesF ps with
    | true => rw [key.mpr hr]; rfl
    | false =>
      cases e : ((((List.range (ps.length - 1)).map fun i => (1 : Int) + (i : Nat))).filter fun k => fK ps (.int k)) with
      | nil =>
        have := key.mp e
        rw [hr] at this
        cases this
      | cons a l => rfl
theorem l_is_tally_ok {B h : Nat} {d : D} (hB1 : B ≤ 1000) (p : PL B h d) : d_l_is_tally [d] = .ok (.bl (tallyF d)) := by
  have pt := p.top
  have e1 := isi_tup pt
  obtain ⟨R, hR⟩ : ∃ R, R = d_l_is_tally [d] := ⟨_, rfl⟩
  have q := hR
  rw [← hR]
  by_cases ht : isTupB d = true
  · cases d <;> first
      | (cases ht; done)
      | skip
    rename_i l
    rw [ht] at e1
    obtain ⟨hB, k, hk⟩ := p.kids
    match l, hk with
    | [], _ =>
      simp [d_l_is_tally, s_l_is_tally, runA, un, e1] at q
      rw [q]
      simp [tallyF]
    | [a], _ =>
      simp [d_l_is_tally, s_l_is_tally, runA, un, e1] at q
      rw [q]
      simp [tallyF]
    | a :: b :: c :: r, _ =>
      have hl : ((r.length : Int) + 1 + 1 + 1 = 2) = False := by
        simp
        omega
      simp [d_l_is_tally, s_l_is_tally, runA, un, e1, hl] at q
      rw [q]
      simp [tallyF]
    | [a, b], hk =>
      have pa := (hk a (by simp)).top
      have pb := hk b (by simp)
      have ea := whole_ok pa
      have eb := isi_tup pb.top
      cases a with
      | int n =>
        have em : isNumB (.int n) = true := rfl
        by_cases hm : n < 2
        · have : ¬ 2 ≤ n := by omega
          simp [d_l_is_tally, s_l_is_tally, runA, un, e1, ea, em, hm] at q
          rw [q]
          cases b <;> simp [tallyF, this]
        · have hm1 : 2 ≤ n := by omega
          by_cases htb : isTupB b = true
          · cases b <;> first
              | (cases htb; done)
              | skip
            rename_i vs
            rw [htb] at eb
            obtain ⟨hvl, k2, hk2⟩ := pb.kids
            obtain ⟨ρ', lp⟩ := loopT n (.tup vs) B k2 vs hk2
            by_cases hv : vs.all (visF n) = true
            · rw [if_pos hv] at lp
              have hall := List.all_eq_true.mp hv
              have vat : ∀ i : Nat, i < vs.length → ∃ p m, vs[i]? = some (.tup [p, .int m]) ∧ (vs.map pairOf).getD i .non = p ∧ isIP p := fun i hi => by
                obtain ⟨p, m, e, ip⟩ := visF_inv (hall _ (List.getElem_mem hi))
                refine ⟨p, m, by rw [List.getElem?_eq_getElem hi, e], ?_, ip⟩
                rw [List.getD_eq_getElem?_getD, List.getElem?_map, List.getElem?_eq_getElem hi, e]
                rfl
              obtain ⟨tt, htt⟩ : ∃ tt, tt = dTest (dBin pLe (dBin gIxS (dBin gIxS (dBin gIxS (dVar 0) (dC (.int 1))) (dVar 2)) (dC (.int 0))) (dBin gIxS (dBin gIxS (dBin gIxS (dVar 0) (dC (.int 1))) (dBin pSub (dVar 2) (dC (.int 1)))) (dC (.int 0)))) := ⟨_, rfl⟩
              have hrg : gRange2 [.int 1, .int (vs.length : Nat)] = some (rgD 1 (vs.length - 1)) := by
                rw [range2_ok (by omega) (by omega) (by omega) (by omega)]
                congr 2
                omega
              have c2 : dComp (.n 2) [2] (dRange gRange2 (dCons (dC (.int 1)) (dCons (dCall gLen (dCons (dBin gIxS (dVar 0) (dC (.int 1))) (dNil))) (dNil)))) tt (dVar 2) [.d (.tup [.int n, .tup vs]), .un, .un, .un] = .ok (((rgD 1 (vs.length - 1)).filter (fK (vs.map pairOf))).map id) [.d (.tup [.int n, .tup vs]), .un, .un, .un] := by
                refine dComp_of (fK (vs.map pairOf)) id (by simp [hrg]) rfl fun d hd => ?_
                obtain ⟨i, hi, rfl⟩ := rgD_mem hd
                obtain ⟨p1, m1, v1, g1, a1, b1, rfl⟩ := vat i (by omega)
                obtain ⟨p2, m2, v2, g2, a2, b2, rfl⟩ := vat (i + 1) (by omega)
                have t1 : atI vs (1 + (i : Int)) = some (.tup [.tup [.int a2, .int b2], .int m2]) := by
                  have z := at_nat v2
                  rw [show ((i + 1 : Nat) : Int) = 1 + (i : Int) by omega] at z
                  exact z
                have t2 : atI vs (1 + (i : Int) - 1) = some (.tup [.tup [.int a1, .int b1], .int m1]) := by
                  have z := at_nat v1
                  rw [show ((i : Nat) : Int) = 1 + (i : Int) - 1 by omega] at z
                  exact z
                refine ⟨[.d (.tup [.int n, .tup vs]), .un, .d (.int (1 + (i : Int))), .un], [.d (.tup [.int n, .tup vs]), .un, .d (.int (1 + (i : Int))), .un], by simp, ?_, by simp, fun _ => ⟨[.d (.tup [.int n, .tup vs]), .un, .d (.int (1 + (i : Int))), .un], by simp, by simp⟩⟩
                rw [htt]
                have ef : fK (vs.map pairOf) (.int (1 + (i : Int))) = !decide (a1 < a2 ∨ (a1 = a2 ∧ b1 < b2)) := by
                  rw [fK_int]
                  have z1 : (1 + (i : Int) - 1).toNat = i := by omega
                  have z2 : (1 + (i : Int)).toNat = i + 1 := by omega
                  rw [z1, z2, g1, g2]
                  rfl
                rw [ef]
                simp [t1, t2, le_pair]
              rw [htt] at c2
              rw [List.map_id] at c2
              obtain ⟨ns, n1, n2⟩ := places (vs.map pairOf)
              rw [List.length_map] at n1
              rw [n1] at c2
              have n3 := eq_nil ns
              rw [n2] at n3
              simp only [d_l_is_tally, s_l_is_tally] at q
              rw [show (sSeq (sIf (dOrB (dNotB (dTest (dCall gIsi (dCons (dVar 1) (dCons (dC (.ty "tuple")) (dNil)))))) _) _ _) _ : Ds) = bodyT from rfl] at q
              simp [runA, un, e1, ea, em, hm, eb, lp, c2, n3] at q
              rw [q]
              simp only [tallyF, hv, decide_eq_true hm1, Bool.true_and]
            · have hv : vs.all (visF n) = false := by simpa using hv
              rw [hv, if_neg Bool.false_ne_true] at lp
              simp only [d_l_is_tally, s_l_is_tally] at q
              rw [show (sSeq (sIf (dOrB (dNotB (dTest (dCall gIsi (dCons (dVar 1) (dCons (dC (.ty "tuple")) (dNil)))))) _) _ _) _ : Ds) = bodyT from rfl] at q
              simp [runA, un, e1, ea, em, hm, eb, lp] at q
              rw [q]
              simp only [tallyF, hv, Bool.false_and, Bool.and_false]
          · have htb : isTupB b = false := by simpa using htb
            rw [htb] at eb
            simp [d_l_is_tally, s_l_is_tally, runA, un, e1, ea, em, hm, eb] at q
            rw [q]
            cases b <;> first
              | (cases htb; done)
              | simp [tallyF]
      | _ => first
        | (cases pa; done)
        | (simp [d_l_is_tally, s_l_is_tally, runA, un, e1, ea, isNumB] at q
           rw [q]
           simp [tallyF]
           done)
  · have ht : isTupB d = false := by simpa using ht
    rw [ht] at e1
    simp [d_l_is_tally, s_l_is_tally, runA, un, e1] at q
    rw [q]
    cases d <;> first
      | (cases ht; done)
      | simp [tallyF]
end Lk09

namespace Lk09
open PySem PySem.Spec PyProof.Rows L2 DL
def pairsOf (n : Int) : List D := match d_l_pairs [.int n] with
  | .ok (.lst P) => P
  | _ => []
def pwB : List D → Bool
  | [] => true
  | a :: r => r.all (ltP a) && pwB r
def goodB (n : Int) (P : List D) : Bool := (P.all (pairF n) && pwB P) && decide (P.length ≤ 28)
theorem pairs_ok (n : Int) (h2 : 2 ≤ n) (h8 : n ≤ 8) : d_l_pairs [.int n] = .ok (.lst (pairsOf n)) ∧ goodB n (pairsOf n) = true := by
  have : n = 2 ∨ n = 3 ∨ n = 4 ∨ n = 5 ∨ n = 6 ∨ n = 7 ∨ n = 8 := by omega
  rcases this with rfl | rfl | rfl | rfl | rfl | rfl | rfl <;> exact ⟨by kernel_rfl, by kernel_rfl⟩
theorem pw_sub : ∀ {l m : List D}, l.Sublist m → pwB m = true → pwB l = true
  | _, _, .slnil, _ => rfl
  | _, _, .cons a s, h => by
    rw [pwB, Bool.and_eq_true] at h
    exact pw_sub s h.2
  | _, _, .cons₂ a s, h => by
    rw [pwB, Bool.and_eq_true] at h ⊢
    refine ⟨?_, pw_sub s h.2⟩
    rw [List.all_eq_true] at h ⊢
    exact fun x hx => h.1 x (s.subset hx)
theorem pw_rises : ∀ {l : List D}, pwB l = true → risesF l = true
  | [], _ => rfl
  | [_], _ => rfl
  | a :: b :: r, h => by
    rw [pwB, Bool.and_eq_true] at h
    rw [risesF, Bool.and_eq_true]
    exact ⟨List.all_eq_true.mp h.1 b (List.mem_cons_self ..), pw_rises h.2⟩
theorem flat_int (B h : Nat) (i : Int) : PL B h (.int i) := by
  cases h with
  | zero => rfl
  | succ h => exact .inl rfl
theorem pair_PL {n : Int} {B : Nat} {p : D} (hB : 2 ≤ B) (h : pairF n p = true) : PL B 1 p := by
  unfold pairF at h
  split at h
  · refine .inr ⟨_, .inl rfl, hB, fun x hx => ?_⟩
    rcases List.mem_cons.mp hx with rfl | hx
    · exact flat_int ..
    · rw [List.mem_singleton.mp hx]
      exact flat_int ..
  · cases h
def bodyY : Ds := sSeq (sSet 6 (dD (dIf (dOrB (dTest (dBin pLt (dVar 3) (dC (.int 2)))) (dTest (dBin pEq (dFnM 0 (dArgsM 2 d_l_take) (dCons (dC (.int 2)) (dNil))) (dC (.int 0))))) (dFnM 0 (dArgsM 2 d_l_take) (dCons (dBin pAdd (dVar 2) (dC (.int 1))) (dNil))) (dC (.int 0))))) (sIf (dTest (dBin pGt (dVar 6) (dC (.int 0)))) (sApp 4 (dTup (dCons (dVar 5) (dCons (dVar 6) (dNil))))) (sNop))
theorem bodyY_ok {n top s : Int} {box found : List D} {p : D} {m : Nat} (hb : BoxOk box m) (hm : m < 999999990) (ht : 0 ≤ top) (ht1 : top < 1000) (hf : found.length < 1000) :
    ∃ box' found' k, bodyY [.own box, .d (.int n), .d (.int top), .d (.int s), .own found, .d p, .un] = .nx [.own box', .d (.int n), .d (.int top), .d (.int s), .own found', .d p, .d (.int k)] ∧ BoxOk box' (m + 2) ∧
      (found' = found ∨ (1 ≤ k ∧ found' = found ++ [.tup [p, .int k]])) := by
  have fin : ∀ (box2 : List D) (k : Int), 0 ≤ k → ∃ found', (sIf (dTest (dBin pGt (dVar 6) (dC (.int 0)))) (sApp 4 (dTup (dCons (dVar 5) (dCons (dVar 6) (dNil))))) (sNop)) [.own box2, .d (.int n), .d (.int top), .d (.int s), .own found, .d p, .d (.int k)] = .nx [.own box2, .d (.int n), .d (.int top), .d (.int s), .own found', .d p, .d (.int k)] ∧ (found' = found ∨ (1 ≤ k ∧ found' = found ++ [.tup [p, .int k]])) := fun box2 k hk => by
    have hz : found.length + 1 ≤ 16777216 := by omega
    by_cases h : 0 < k
    · exact ⟨found ++ [.tup [p, .int k]], by simp [h, hz], .inr ⟨by omega, rfl⟩⟩
    · exact ⟨found, by simp [h], .inl rfl⟩
  by_cases hs : s < 2
  · obtain ⟨r, l', e, h0, h1, hb'⟩ := take_ok hb (by omega) (n := top + 1) (by omega) (divOk_s (by omega) (by omega))
    obtain ⟨found', e2, h2⟩ := fin l' r h0
    refine ⟨l', found', r, ?_, hb'.mono (by omega), h2⟩
    rw [← e2]
    simp [bodyY, hs, e]
  · obtain ⟨r2, l2, ea, _, _, hb2⟩ := take_ok hb (by omega) (n := 2) (by omega) (by decide)
    by_cases hr : r2 = 0
    · subst hr
      obtain ⟨r, l', e, h0, h1, hb'⟩ := take_ok hb2 (by omega) (n := top + 1) (by omega) (divOk_s (by omega) (by omega))
      obtain ⟨found', e2, h2⟩ := fin l' r h0
      refine ⟨l', found', r, ?_, hb'.mono (by omega), h2⟩
      rw [← e2]
      simp [bodyY, hs, e, ea]
    · obtain ⟨found', e2, h2⟩ := fin l2 0 (by omega)
      refine ⟨l2, found', 0, ?_, hb2.mono (by omega), h2⟩
      rw [← e2]
      simp [bodyY, hs, ea, hr]
def Found (P done found : List D) : Prop := (found.map pairOf).Sublist done ∧ ∀ v ∈ found, ∃ p m, v = .tup [p, .int m] ∧ 1 ≤ m
theorem loopY {n top s : Int} (ht : 0 ≤ top) (ht1 : top < 1000) : ∀ (r done box found : List D) (m : Nat), BoxOk box m → m + 2 * r.length < 999999000 → done.length + r.length < 900 → Found done done found →
    ∃ box' found', loopD (.n 5) [5, 6] bodyY r [.own box, .d (.int n), .d (.int top), .d (.int s), .own found, .un, .un] = .nx [.own box', .d (.int n), .d (.int top), .d (.int s), .own found', .un, .un] ∧ BoxOk box' (m + 2 * r.length) ∧ Found (done ++ r) (done ++ r) found'
  | [], done, box, found, m, hb, _, _, hF => ⟨box, found, rfl, hb, by rw [List.append_nil]; exact hF⟩
  | p :: r, done, box, found, m, hb, hm, hd, hF => by
    have hl : found.length ≤ done.length := by
      have := hF.1.length_le
      rwa [List.length_map] at this
    obtain ⟨b1, f1, k, e1, hb1, h1⟩ := bodyY_ok (n := n) (s := s) (p := p) hb (by simp at hm; omega) ht ht1 (found := found) (by omega)
    have hF1 : Found (done ++ [p]) (done ++ [p]) f1 := by
      rcases h1 with rfl | ⟨hk, rfl⟩
      · exact ⟨hF.1.trans (List.sublist_append_left ..), hF.2⟩
      · refine ⟨?_, fun v hv => ?_⟩
        · rw [List.map_append]
          exact hF.1.append (List.Sublist.refl _)
        · rcases List.mem_append.mp hv with hv | hv
          · exact hF.2 v hv
          · rw [List.mem_singleton.mp hv]
            exact ⟨p, k, rfl, hk⟩
    obtain ⟨box', found', e2, hb2, hF2⟩ := loopY (n := n) (s := s) ht ht1 r (done ++ [p]) b1 f1 (m + 2) hb1 (by simp at hm; omega) (by simp at hd ⊢; omega) hF1
    refine ⟨box', found', ?_, hb2.mono (by simp; omega), by rw [List.append_assoc] at hF2; exact hF2⟩
    rw [loop_cons]
    simp [e1, e2]
theorem tally_ok {n top : Int} {box : List D} {m : Nat} (hb : BoxOk box m) (hm : m < 900000000) (h2 : 2 ≤ n) (h8 : n ≤ 8) (ht : 0 ≤ top) (ht1 : top < 1000) :
    ∃ vs box', d_l_tally box [.int n, .int top] = .ok (.tup [.int n, .tup vs]) box' ∧ BoxOk box' (m + 57) ∧ tallyF (.tup [.int n, .tup vs]) = true ∧ PL 28 4 (.tup [.int n, .tup vs]) := by
  obtain ⟨hp, hg⟩ := pairs_ok n h2 h8
  unfold goodB at hg
  rw [Bool.and_eq_true, Bool.and_eq_true, decide_eq_true_eq] at hg
  obtain ⟨⟨g1, g2⟩, g3⟩ := hg
  obtain ⟨s, b1, e1, _, _, hb1⟩ := take_ok hb (by omega) (n := 4) (by omega) (by decide)
  obtain ⟨b2, vs, e2, hb2, hF⟩ := loopY (n := n) (s := s) ht ht1 (pairsOf n) [] b1 [] (m + 1) hb1 (by omega) (by simp; omega) ⟨List.Sublist.refl _, fun v hv => by cases hv⟩
  rw [List.nil_append] at hF
  have hin : ∀ v ∈ vs, visF n v = true := fun v hv => by
    obtain ⟨p, k, rfl, hk⟩ := hF.2 v hv
    have : p ∈ pairsOf n := hF.1.subset (List.mem_map.mpr ⟨_, hv, rfl⟩)
    rw [visF, List.all_eq_true.mp g1 p this, decide_eq_true hk]
    rfl
  have hvl : vs.length ≤ 28 := by
    have := hF.1.length_le
    rw [List.length_map] at this
    omega
  refine ⟨vs, b2, ?_, hb2.mono (by omega), ?_, ?_⟩
  · obtain ⟨R, hR⟩ : ∃ R, R = d_l_tally box [.int n, .int top] := ⟨_, rfl⟩
    have q := hR
    simp only [d_l_tally, s_l_tally] at q
    rw [show (sSeq (sSet 6 (dD (dIf (dOrB _ _) _ _))) _ : Ds) = bodyY from rfl] at q
    simp [runM, un, e1, hp, e2] at q
    exact hR.symm.trans q
  · rw [tallyF, decide_eq_true h2, List.all_eq_true.mpr hin, pw_rises (pw_sub hF.1 g2)]
    rfl
  · refine .inr ⟨_, .inl rfl, by simp, fun x hx => ?_⟩
    rcases List.mem_cons.mp hx with rfl | hx
    · exact flat_int ..
    · rw [List.mem_singleton.mp hx]
      refine .inr ⟨_, .inl rfl, hvl, fun v hv => ?_⟩
      obtain ⟨p, k, rfl, hk⟩ := hF.2 v hv
      have : p ∈ pairsOf n := hF.1.subset (List.mem_map.mpr ⟨_, hv, rfl⟩)
      have h1 := pair_PL (B := 28) (by decide) (List.all_eq_true.mp g1 p this)
      refine .inr ⟨_, .inl rfl, by simp, fun x hx => ?_⟩
      rcases List.mem_cons.mp hx with rfl | hx
      · exact h1
      · rw [List.mem_singleton.mp hx]
        exact flat_int ..
end Lk09

namespace Lk09
open PySem PySem.Spec PyProof.Rows L2 DL
theorem of_ok {L box : List D} {m : Nat} (hb : BoxOk box m) (hm : m < 900000000) (h0 : 0 < L.length) (h1 : L.length < 1000) : ∃ x box', d_l_of box [.lst L] = .ok x box' ∧ x ∈ L ∧ BoxOk box' (m + 1) := by
  obtain ⟨r, b1, e1, r0, r1, hb1⟩ := take_ok hb (by omega) (n := (L.length : Nat)) (by omega) (divOk_s (by omega) (by omega))
  have hr : r.toNat < L.length := by omega
  have hat : atI L r = some L[r.toNat] := by
    have := at_nat (List.getElem?_eq_getElem hr)
    rwa [show ((r.toNat : Nat) : Int) = r by omega] at this
  refine ⟨L[r.toNat], b1, ?_, List.getElem_mem hr, hb1⟩
  obtain ⟨R, hR⟩ : ∃ R, R = d_l_of box [.lst L] := ⟨_, rfl⟩
  have q := hR
  simp only [d_l_of, s_l_of] at q
  simp [runM, un, e1, hat] at q
  exact hR.symm.trans q
theorem mem_cut {l : List D} {lo hi : Option Int} {x : D} (h : x ∈ DL.cutD l lo hi) : x ∈ l := List.mem_of_mem_drop (List.mem_of_mem_take h)
theorem len_cut (l : List D) (lo hi : Option Int) : (DL.cutD l lo hi).length ≤ l.length := by
  unfold DL.cutD
  rw [List.length_take, List.length_drop]
  omega
theorem len_last (l : List D) : (DL.cutD l (some (-1)) none).length ≤ 1 := by
  unfold DL.cutD
  have : HT.sIx l.length 0 (some (-1)) = l.length - 1 := by
    show (if (-1 : Int) < 0 then ((-1 : Int) + (l.length : Int)).toNat else min (-1 : Int).toNat l.length) = _
    rw [if_pos (by decide)]
    omega
  rw [this, List.length_take, List.length_drop]
  omega
theorem flat_py {d : D} (p : flatP d = true) (h : Nat) : ∃ q, toPy d = some q ∧ q.depth ≤ h ∧ q.canLay0 = true := by
  cases d with
  | str x => exact ⟨.str x, by simp [toPy], by simp [PyData.depth], by simp only [PyData.canLay0]; exact p⟩
  | non => exact ⟨.none, by simp [toPy], by simp [PyData.depth], by simp [PyData.canLay0]⟩
  | bl b => exact ⟨.bool b, by simp [toPy], by simp [PyData.depth], by simp [PyData.canLay0]⟩
  | int i => exact ⟨.int i, by simp [toPy], by simp [PyData.depth], by simp [PyData.canLay0]⟩
  | _ => cases p
theorem PL.py {B : Nat} : ∀ {h : Nat} {d : D}, PL B h d → ∃ p, toPy d = some p ∧ p.depth ≤ h ∧ p.canLay0 = true
  | 0, d, p => by
    exact flat_py p 0
  | h + 1, d, p => by
    rcases p with p | ⟨l, e, _, hk⟩
    · exact flat_py p _
    · have key : ∀ l : List D, (∀ x ∈ l, PL B h x) → ∃ ps, toPyL l = some ps ∧ PyData.depthAll ps ≤ h ∧ PyData.canLayAll0 ps = true := fun l => by
        induction l with
        | nil => exact fun _ => ⟨[], by simp [toPyL], by simp [PyData.depthAll], by simp [PyData.canLayAll0]⟩
        | cons x l ih =>
          intro hx
          obtain ⟨p, e1, e2, e3⟩ := PL.py (hx x (List.mem_cons_self ..))
          obtain ⟨ps, f1, f2, f3⟩ := ih fun y hy => hx y (List.mem_cons_of_mem _ hy)
          exact ⟨p :: ps, by simp [toPyL, e1, f1], by simp [PyData.depthAll]; omega, by simp [PyData.canLayAll0, e3, f3]⟩
      obtain ⟨ps, f1, f2, f3⟩ := key l hk
      rcases e with rfl | rfl
      · exact ⟨.tuple ps, by simp [toPy, f1], by simp [PyData.depth]; omega, by simp [PyData.canLay0, f3]⟩
      · exact ⟨.list ps, by simp [toPy, f1], by simp [PyData.depth]; omega, by simp [PyData.canLay0, f3]⟩
theorem ne_empty {B h : Nat} {l : List D} (p : PL B h (.tup l)) (hh : h ≤ 60) : pNe (.tup l) (.tup []) = some (.bl (!l.isEmpty)) := by
  obtain ⟨q, e1, e2, e3⟩ := p.py
  have e : pNe (.tup l) (.tup []) = gNe (.tup l) (.tup []) := rfl
  have h3 : toPy (.tup []) = some (.tuple []) := by simp [toPy, toPyL]
  have s1 : SeqAt.shaped q = true := by
    unfold SeqAt.shaped
    rw [e3, decide_eq_true (by omega)]
    rfl
  have s2 : SeqAt.shaped (.tuple []) = true := by simp [SeqAt.shaped, PyData.canLay0, PyData.canLayAll0, PyData.depth, PyData.depthAll]
  rw [e]
  unfold gNe
  rw [e1, h3]
  dsimp only
  rw [s1, s2]
  cases l with
  | nil =>
    rw [h3] at e1
    cases e1
    simp [PyData.eqv, PyData.eqvAll]
  | cons x l =>
    rw [toPy] at e1
    cases f : toPyL (x :: l) with
    | none => rw [f] at e1; cases e1
    | some ps =>
      rw [f] at e1
      cases e1
      cases ps with
      | nil =>
        rw [toPyL] at f
        split at f <;> cases f
      | cons y ps => simp [PyData.eqv, PyData.eqvAll]
theorem PL.wide {B B' : Nat} (hB : B ≤ B') : ∀ {h h' : Nat} {d : D}, PL B h d → h ≤ h' → PL B' h' d
  | 0, 0, _, p, _ => p
  | 0, h' + 1, d, p, _ => .inl p
  | h + 1, 0, _, _, hh => by omega
  | h + 1, h' + 1, d, p, hh => by
    rcases p with p | ⟨l, e, h1, h2⟩
    · exact .inl p
    · exact .inr ⟨l, e, by omega, fun x hx => PL.wide hB (h2 x hx) (by omega)⟩
theorem mkT {B h : Nat} {l : List D} (hl : l.length ≤ B) (hk : ∀ x ∈ l, PL B h x) : PL B (h + 1) (.tup l) := .inr ⟨l, .inl rfl, hl, hk⟩
theorem mkL {B h : Nat} {l : List D} (hl : l.length ≤ B) (hk : ∀ x ∈ l, PL B h x) : PL B (h + 1) (.lst l) := .inr ⟨l, .inr rfl, hl, hk⟩
def C16 : List D := [.non, .bl true, .bl false, .int 0, .int 1, .int (-1), .int 2, .int 7, .str "", .str "1", .tup [], .lst [], .tup [.int 0], .tup [.int 0, .int 1], .tup [.tup [.int 0, .int 1], .int 1], .int 100000000000000000000000000000000000000000000000000]
theorem c16_PL {B : Nat} (hB : 2 ≤ B) {x : D} (hx : x ∈ C16) : PL B 2 x := by
  have i2 : ∀ a b : Int, PL B 1 (.tup [.int a, .int b]) := fun a b => mkT hB fun x hx => by
    rcases List.mem_cons.mp hx with rfl | hx
    · exact flat_int ..
    · rw [List.mem_singleton.mp hx]
      exact flat_int ..
  have i3 : PL B 2 (.tup [.tup [.int 0, .int 1], .int 1]) := mkT hB fun x z => by
    rcases List.mem_cons.mp z with rfl | z
    · exact i2 0 1
    · rw [List.mem_singleton.mp z]
      exact flat_int ..
  have i1 : PL B 2 (.tup [.int 0]) := mkT (by simp; omega) fun x z => by
    rw [List.mem_singleton.mp z]
    exact flat_int ..
  have s0 : PL B 2 (.str "") := .inl (by kernel_rfl)
  have s1 : PL B 2 (.str "1") := .inl (by kernel_rfl)
  unfold C16 at hx
  simp only [List.mem_cons, List.not_mem_nil, or_false] at hx
  rcases hx with rfl | rfl | rfl | rfl | rfl | rfl | rfl | rfl | rfl | rfl | rfl | rfl | rfl | rfl | rfl | rfl
  all_goals first
    | exact .inl rfl
    | exact s0
    | exact s1
    | exact i1
    | exact i3
    | exact (i2 0 1).wide (Nat.le_refl _) (by omega)
    | exact mkT (l := []) (by simp) fun _ z => nomatch z
    | exact mkL (l := []) (by simp) fun _ z => nomatch z
end Lk09

namespace Lk09
open PySem PySem.Spec PyProof.Rows L2 DL
def odd2 (f : List D → List D → FM) : Ds := sRet (dFnM 0 (dArgsM 2 f) (dCons (dVar 2) (dNil)))
theorem odd_ok {B : Nat} (hB : 2 ≤ B) (hB1 : B ≤ 900) : ∀ (fuel h : Nat) (d : D) (box : List D) (m : Nat), PL B h d → h < fuel → h ≤ 50 → BoxOk box m → m + 3 * (h + 1) < 800000000 →
    ∃ d' box', d_l_odd fuel box [d] = .ok d' box' ∧ BoxOk box' (m + 3 * (h + 1)) ∧ PL (B + 1) (h + 3) d'
  | 0, h, _, _, _, _, hf, _, _, _ => by omega
  | fuel + 1, h, d, box, m, p, hf, hh, hb, hm => by
    have hpow : pPow (.int 10) (.int 50) = some (.int 100000000000000000000000000000000000000000000000000) := by kernel_rfl
    have e1 := isi_tup p.top
    obtain ⟨R, hR⟩ : ∃ R, R = d_l_odd (fuel + 1) box [d] := ⟨_, rfl⟩
    have q := hR
    rw [← hR]
    cases ht : isTupB d with
    | false =>
      rw [ht] at e1
      obtain ⟨x, b1, e2, hx, hb1⟩ := of_ok (L := C16) hb (by omega) (by decide) (by decide)
      unfold C16 at e2
      simp only [d_l_odd, s_l_odd] at q
      simp [runM, un, e1, hpow, e2] at q
      exact ⟨x, b1, q, hb1.mono (by omega), (c16_PL hB hx).wide (by omega) (by omega)⟩
    | true =>
      rw [ht] at e1
      cases d with
      | tup l =>
        obtain ⟨h', rfl⟩ : ∃ h', h = h' + 1 := by
          cases h with
          | zero => cases p
          | succ h' => exact ⟨h', rfl⟩
        have hl : l.length ≤ B ∧ ∀ x ∈ l, PL B h' x := by
          rcases p with p | ⟨l', e | e, h1, h2⟩
          · cases p
          · cases e
            exact ⟨h1, h2⟩
          · cases e
        obtain ⟨hl1, hl2⟩ := hl
        have hw : ∀ x ∈ l, PL (B + 1) h' x := fun x hx => (hl2 x hx).wide (by omega) (Nat.le_refl _)
        have ene := ne_empty p (by omega)
        have z1 : l.length ≤ 16777216 := by omega
        have z2 : l.length + (DL.cutD l (some (-1)) none).length ≤ 16777216 := by
          have := len_cut l (some (-1)) none
          omega
        have z3 := len_last l
        -- the second half
        have snd : ∀ (b0 : List D) (m0 : Nat), BoxOk b0 m0 → m0 < 800000000 → ∃ x b1, d_l_of b0 [.lst (C16 ++ [.lst l, .tup l.reverse, .tup (DL.cutD l (some 1) none), .tup (l ++ DL.cutD l (some (-1)) none), .tup [.tup l], .tup (DL.cutD l none (some 1))])] = .ok x b1 ∧ BoxOk b1 (m0 + 1) ∧ PL (B + 1) (h' + 1 + 3) x := fun b0 m0 hb0 hm0 => by
          obtain ⟨x, b1, e2, hx, hb1⟩ := of_ok (L := C16 ++ [.lst l, .tup l.reverse, .tup (DL.cutD l (some 1) none), .tup (l ++ DL.cutD l (some (-1)) none), .tup [.tup l], .tup (DL.cutD l none (some 1))]) hb0 (by omega) (by simp) (by simp [C16])
          refine ⟨x, b1, e2, hb1, ?_⟩
          have tl : PL (B + 1) (h' + 1) (.tup l) := mkT (by omega) hw
          rcases List.mem_append.mp hx with hx | hx
          · exact (c16_PL hB hx).wide (by omega) (by omega)
          · simp only [List.mem_cons, List.not_mem_nil, or_false] at hx
            rcases hx with rfl | rfl | rfl | rfl | rfl | rfl
            · exact (mkL (by omega) hw : PL (B + 1) (h' + 1) _).wide (Nat.le_refl _) (by omega)
            · exact (mkT (by rw [List.length_reverse]; omega) fun x hx => hw x (List.mem_reverse.mp hx) : PL (B + 1) (h' + 1) _).wide (Nat.le_refl _) (by omega)
            · exact (mkT (by have := len_cut l (some 1) none; omega) fun x hx => hw x (mem_cut hx) : PL (B + 1) (h' + 1) _).wide (Nat.le_refl _) (by omega)
            · refine (mkT (by rw [List.length_append]; omega) fun x hx => ?_ : PL (B + 1) (h' + 1) _).wide (Nat.le_refl _) (by omega)
              rcases List.mem_append.mp hx with hx | hx
              · exact hw x hx
              · exact hw x (mem_cut hx)
            · exact (mkT (by simp) fun x hx => by
                rw [List.mem_singleton.mp hx]
                exact tl : PL (B + 1) (h' + 1 + 1) _).wide (Nat.le_refl _) (by omega)
            · exact (mkT (by have := len_cut l none (some 1); omega) fun x hx => hw x (mem_cut hx) : PL (B + 1) (h' + 1) _).wide (Nat.le_refl _) (by omega)
        cases hne : l.isEmpty with
        | true =>
          rw [hne] at ene
          obtain ⟨x, b1, e2, hb1, hx⟩ := snd box m hb (by omega)
          unfold C16 at e2
          simp only [d_l_odd, s_l_odd] at q
          simp [runM, un, e1, ene, hpow, gSl, pRev, z1, z2] at q
          simp only [List.cons_append, List.nil_append] at e2
          rw [e2] at q
          simp at q
          exact ⟨x, b1, q, hb1.mono (by omega), hx⟩
        | false =>
          rw [hne] at ene
          obtain ⟨r6, c1, f1, _, _, hc1⟩ := take_ok hb (by omega) (n := 6) (by omega) (by decide)
          by_cases hr6 : 0 < r6
          · have hpos : 0 < l.length := List.length_pos_iff.mpr fun z => by rw [z] at hne; cases hne
            obtain ⟨rk, c2, f2, k0, k1, hc2⟩ := take_ok hc1 (by omega) (n := (l.length : Nat)) (by omega) (divOk_s (by omega) (by omega))
            have hk : rk.toNat < l.length := by omega
            have hat : atI l rk = some l[rk.toNat] := by
              have := at_nat (List.getElem?_eq_getElem hk)
              rwa [show ((rk.toNat : Nat) : Int) = rk by omega] at this
            obtain ⟨d', c3, f3, hc3, hd'⟩ := odd_ok hB hB1 fuel h' l[rk.toNat] c2 (m + 1 + 1) (hl2 _ (List.getElem_mem hk)) (by omega) (by omega) hc2 (by omega)
            have y1 : (DL.cutD l none (some rk)).length + 1 ≤ 16777216 := by
              have := len_cut l none (some rk)
              omega
            have y2 : (DL.cutD l none (some rk)).length + 1 + (DL.cutD l (some (rk + 1)) none).length ≤ 16777216 := by
              have := len_cut l none (some rk)
              have := len_cut l (some (rk + 1)) none
              omega
            have y3 : (DL.cutD l none (some rk)).length + (DL.cutD l (some (rk + 1)) none).length ≤ l.length - 1 := by
              have w1 : HT.sIx l.length l.length (some rk) = min rk.toNat l.length := by
                have := sIx_pos l.length l.length rk.toNat
                rwa [show ((rk.toNat : Nat) : Int) = rk by omega] at this
              have w2 : HT.sIx l.length 0 (some (rk + 1)) = min (rk.toNat + 1) l.length := by
                have := sIx_pos l.length 0 (rk.toNat + 1)
                rwa [show ((rk.toNat + 1 : Nat) : Int) = rk + 1 by omega] at this
              unfold DL.cutD
              rw [w1, w2, sIx_none, sIx_none]
              simp only [List.length_take, List.length_drop]
              omega
            simp only [d_l_odd, s_l_odd] at q
            simp [runM, un, e1, ene, f1, hr6, f2, hat, f3, gSl, y1, y2] at q
            refine ⟨_, c3, q, hc3.mono (by omega), ?_⟩
            refine (mkT ?_ fun x hx => ?_ : PL (B + 1) (h' + 3 + 1) _)
            · simp only [List.length_append, List.length_cons, List.length_nil]
              omega
            · simp only [List.mem_append, List.mem_cons, List.not_mem_nil, or_false] at hx
              rcases hx with hx | rfl | hx
              · exact (hw x (mem_cut hx)).wide (Nat.le_refl _) (by omega)
              · exact hd'
              · exact (hw x (mem_cut hx)).wide (Nat.le_refl _) (by omega)
          · obtain ⟨x, b1, e2, hb1, hx⟩ := snd c1 (m + 1) hc1 (by omega)
            unfold C16 at e2
            simp only [d_l_odd, s_l_odd] at q
            simp [runM, un, e1, ene, f1, hr6, hpow, gSl, pRev, z1, z2] at q
            simp only [List.cons_append, List.nil_append] at e2
            rw [e2] at q
            simp at q
            exact ⟨x, b1, q, hb1.mono (by omega), hx⟩
      | _ => cases ht
end Lk09

namespace Lk09
open PySem PySem.Spec PyProof.Rows L2 DL
def isSeqB : D → Bool
  | .tup _ => true
  | .lst _ => true
  | _ => false
theorem isi_seq {d : D} (p : topP d = true) : gIsiT [d, .tup [.ty "list", .ty "tuple"]] = some (.bl (isSeqB d)) := by
  cases d <;> first | rfl | (cases p; done)
theorem tally_not {d : D} (h : isTupB d = false) : tallyF d = false := by
  cases d <;> first | rfl | (cases h; done)
theorem lists_ok {B : Nat} (hB1 : B ≤ 900) : ∀ (fuel h : Nat) (d : D), PL B h d → h < fuel → ∃ d', d_l_lists fuel [d] = .ok d' ∧ PL B h d' ∧ isTupB d' = false
  | 0, h, _, _, hf => by omega
  | fuel + 1, h, d, p, hf => by
    have e1 := isi_seq p.top
    obtain ⟨R, hR⟩ : ∃ R, R = d_l_lists (fuel + 1) [d] := ⟨_, rfl⟩
    have q := hR
    rw [← hR]
    have core : ∀ l : List D, (d = .tup l ∨ d = .lst l) → ∃ d', R = .ok d' ∧ PL B h d' ∧ isTupB d' = false := fun l hd => by
      obtain ⟨h', rfl⟩ : ∃ h', h = h' + 1 := by
        cases h with
        | zero => rcases hd with rfl | rfl <;> cases p
        | succ h' => exact ⟨h', rfl⟩
      have hl : l.length ≤ B ∧ ∀ x ∈ l, PL B h' x := by
        rcases p with p | ⟨l', e, h1, h2⟩
        · rcases hd with rfl | rfl <;> cases p
        · rcases hd with rfl | rfl <;> rcases e with e | e <;> cases e <;> exact ⟨h1, h2⟩
      obtain ⟨hl1, hl2⟩ := hl
      have hr : ∀ x ∈ l, ∃ y, d_l_lists fuel [x] = .ok y ∧ PL B h' y := fun x hx => by
        obtain ⟨y, a, b, _⟩ := lists_ok hB1 fuel h' x (hl2 x hx) (by omega)
        exact ⟨y, a, b⟩
      let g : D → D := fun x => match d_l_lists fuel [x] with
        | .ok y => y
        | _ => .non
      have hg : ∀ x ∈ l, d_l_lists fuel [x] = .ok (g x) ∧ PL B h' (g x) := fun x hx => by
        obtain ⟨y, a, b⟩ := hr x hx
        have : g x = y := by
          show (match d_l_lists fuel [x] with | .ok y => y | _ => .non) = y
          rw [a]
        rw [this]
        exact ⟨a, b⟩
      obtain ⟨te, hte⟩ : ∃ te, te = dFn (dArgs 1 (d_l_lists fuel)) (dCons (dVar 1) (dNil)) := ⟨_, rfl⟩
      have hit : dItems (dVar 0) [.d d, .un] = .ok l [.d d, .un] := by
        rcases hd with rfl | rfl <;> simp
      have c1 : dComp (.n 1) [1] (dItems (dVar 0)) (fun ρ => .ok true ρ) te [.d d, .un] = .ok (l.map g) [.d d, .un] := by
        refine dComp_map g hit rfl fun x hx => ⟨[.d d, .d x], [.d d, .d x], by simp, ?_, by simp⟩
        rw [hte]
        simp [(hg x hx).1]
      rw [hte] at c1
      have es : isSeqB d = true := by rcases hd with rfl | rfl <;> rfl
      rw [es] at e1
      simp only [d_l_lists, s_l_lists] at q
      simp [runA, un, e1, c1] at q
      refine ⟨_, q, mkL (by rw [List.length_map]; exact hl1) fun y hy => ?_, rfl⟩
      obtain ⟨x, hx, rfl⟩ := List.mem_map.mp hy
      exact (hg x hx).2
    cases d with
    | tup l => exact core l (.inl rfl)
    | lst l => exact core l (.inr rfl)
    | _ =>
      have pt := p.top
      first
        | (cases pt; done)
        | (simp only [d_l_lists, s_l_lists] at q
           simp [runA, un, e1, isSeqB] at q
           exact ⟨_, q, p, rfl⟩)
theorem same2 (b : Bool) : d_l_same 24 [.lst [.bl b, .bl b], .lst [.bl b, .bl b]] = .ok (.bl true) := by
  cases b <;> kernel_rfl
theorem same3 : d_l_same 24 [.lst [.bl true, .bl false, .bl false], .lst [.bl true, .bl false, .bl false]] = .ok (.bl true) := by kernel_rfl
theorem mul2 (x : D) : pMul (.lst [x]) (.int 2) = some (.lst [x, x]) := rfl
theorem pk1 (x : D) : pick [x] [0] = [x] := rfl
def bodyI : Ds := sSeq (sSet 5 (dD (dFnM 0 (dArgsM 2 (d_l_odd 24)) (dCons (dVar 2) (dNil))))) (sSeq (sSet 5 (dD (dIf (dTest (dBin pEq (dFnM 0 (dArgsM 2 d_l_take) (dCons (dC (.int 3)) (dNil))) (dC (.int 0)))) (dFnM 0 (dArgsM 2 (d_l_odd 24)) (dCons (dVar 5) (dNil))) (dVar 5)))) (sIf (dNotB (dTest (dFn (dArgs 2 (d_l_same 24)) (dCons (dLst (dCons (dFn (dArgs 1 d_is_tally) (dCons (dVar 5) (dNil))) (dCons (dFnK 0 1 1 [0] d_is_tally (dNil) (dCons (dVar 5) (dNil))) (dNil)))) (dCons (dBin pMul (dLst (dCons (dFn (dArgs 1 d_l_is_tally) (dCons (dVar 5) (dNil))) (dNil))) (dC (.int 2))) (dNil)))))) (sRet (dC (.bl false))) (sNop)))
theorem bodyI_ok {s1 : Sl} {T got lap : D} {box : List D} {m : Nat} (hT : PL 28 4 T) (hb : BoxOk box m) (hm : m < 700000000) : ∃ box' o, bodyI [.own box, s1, .d T, .d got, .d lap, .un] = .nx [.own box', s1, .d T, .d got, .d lap, .d o] ∧ BoxOk box' (m + 48) := by
  obtain ⟨o1, b1, e1, hb1, p1⟩ := odd_ok (B := 28) (by omega) (by omega) 24 4 T box m hT (by omega) (by omega) hb (by omega)
  obtain ⟨r, b2, e2, _, _, hb2⟩ := take_ok hb1 (by omega) (n := 3) (by omega) (by decide)
  have fin : ∀ (b : List D) (o : D), (∃ h, PL 30 h o) → (sIf (dNotB (dTest (dFn (dArgs 2 (d_l_same 24)) (dCons (dLst (dCons (dFn (dArgs 1 d_is_tally) (dCons (dVar 5) (dNil))) (dCons (dFnK 0 1 1 [0] d_is_tally (dNil) (dCons (dVar 5) (dNil))) (dNil)))) (dCons (dBin pMul (dLst (dCons (dFn (dArgs 1 d_l_is_tally) (dCons (dVar 5) (dNil))) (dNil))) (dC (.int 2))) (dNil)))))) (sRet (dC (.bl false))) (sNop)) [.own b, s1, .d T, .d got, .d lap, .d o] = .nx [.own b, s1, .d T, .d got, .d lap, .d o] := fun b o ho => by
    obtain ⟨h, ho⟩ := ho
    simp [is_tally_ok ho, l_is_tally_ok (by omega) ho, mul2, pk1, same2]
  by_cases hr : r = 0
  · subst hr
    obtain ⟨o2, b3, e3, hb3, p3⟩ := odd_ok (B := 29) (by omega) (by omega) 24 7 o1 b2 (m + 3 * (4 + 1) + 1) p1 (by omega) (by omega) hb2 (by omega)
    refine ⟨b3, o2, ?_, hb3.mono (by omega)⟩
    rw [← fin b3 o2 ⟨_, p3⟩]
    simp [bodyI, e1, e2, e3]
  · refine ⟨b2, o1, ?_, hb2.mono (by omega)⟩
    rw [← fin b2 o1 ⟨_, p1.wide (by omega) (Nat.le_refl _)⟩]
    simp [bodyI, e1, e2, hr]
theorem loopI {s1 : Sl} {T got : D} (hT : PL 28 4 T) : ∀ (r box : List D) (m : Nat), BoxOk box m → m + 48 * r.length < 700000000 → ∃ box', loopD (.n 4) [4, 5] bodyI r [.own box, s1, .d T, .d got, .un, .un] = .nx [.own box', s1, .d T, .d got, .un, .un] ∧ BoxOk box' (m + 48 * r.length)
  | [], box, m, hb, _ => ⟨box, rfl, hb⟩
  | d :: r, box, m, hb, hm => by
    rw [List.length_cons] at hm
    obtain ⟨b1, o, e1, hb1⟩ := bodyI_ok (s1 := s1) (got := got) (lap := d) hT hb (by omega)
    obtain ⟨b2, e2, hb2⟩ := loopI (s1 := s1) (got := got) hT r b1 (m + 48) hb1 (by omega)
    refine ⟨b2, ?_, hb2.mono (by rw [List.length_cons]; omega)⟩
    rw [loop_cons]
    simp [e1, e2]
end Lk09

namespace Lk09
open PySem PySem.Spec PyProof.Rows L2 DL
def bodyR : Ds := (sSeq (sSet 2 (dD (dFnM 0 (dArgsM 3 d_l_tally) (dCons (dBin pAdd (dC (.int 2)) (dFnM 0 (dArgsM 2 d_l_take) (dCons (dC (.int 7)) (dNil)))) (dCons (dC (.int 30)) (dNil)))))) (sSeq (sSet 3 (dD (dLst (dCons (dFn (dArgs 1 d_is_tally) (dCons (dVar 2) (dNil))) (dCons (dFn (dArgs 1 d_is_tally) (dCons (dFn (dArgs 1 (d_l_lists 24)) (dCons (dVar 2) (dNil))) (dNil))) (dCons (dFnK 0 1 1 [0] d_is_tally (dNil) (dCons (dCall gListOf (dCons (dVar 2) (dNil))) (dNil))) (dNil))))))) (sSeq (sIf (dNotB (dTest (dFn (dArgs 2 (d_l_same 24)) (dCons (dVar 3) (dCons (dLst (dCons (dC (.bl true)) (dCons (dC (.bl false)) (dCons (dC (.bl false)) (dNil))))) (dNil)))))) (sRet (dC (.bl false))) (sNop)) (sFor (.n 4) (dRange gRange1 (dCons (dC (.int 6)) (dNil))) [4, 5] bodyI))))
theorem rg6 : gRange1 [.int 6] = some (rgD 0 6) := by kernel_rfl
theorem rg8 : gRange1 [.int 8] = some (rgD 0 8) := by kernel_rfl
theorem bodyR_ok {t : D} {box : List D} {m : Nat} (hb : BoxOk box m) (hm : m < 600000000) : ∃ box' T got, bodyR [.own box, .d t, .un, .un, .un, .un] = .nx [.own box', .d t, .d T, .d got, .un, .un] ∧ BoxOk box' (m + 400) := by
  obtain ⟨r, b1, e1, r0, r1, hb1⟩ := take_ok hb (by omega) (n := 7) (by omega) (by decide)
  obtain ⟨vs, b2, e2, hb2, ht, hp⟩ := tally_ok (n := 2 + r) (top := 30) hb1 (by omega) (by omega) (by omega) (by omega) (by omega)
  obtain ⟨L, e3, pL, nL⟩ := lists_ok (B := 28) (by omega) 24 4 _ hp (by omega)
  have e4 := is_tally_ok hp
  rw [ht] at e4
  have e5 := is_tally_ok pL
  rw [tally_not nL] at e5
  have pk : PL 28 4 (.lst [.int (2 + r), .tup vs]) := by
    rcases hp with hp | ⟨l, e | e, h1, h2⟩
    · cases hp
    · cases e
      exact mkL h1 h2
    · cases e
  have e6 := is_tally_ok pk
  rw [tally_not rfl] at e6
  have h6 : (rgD 0 6).length = 6 := rgD_length 0 6
  have key : ∀ got : D, ∃ box', loopD (.n 4) [4, 5] bodyI (rgD 0 6) [.own b2, .d t, .d (.tup [.int (2 + r), .tup vs]), .d got, .un, .un] = .nx [.own box', .d t, .d (.tup [.int (2 + r), .tup vs]), .d got, .un, .un] ∧ BoxOk box' (m + 400) := fun got => by
    obtain ⟨b', a1, a2⟩ := loopI (s1 := .d t) (got := got) hp (rgD 0 6) b2 (m + 1 + 57) hb2 (by rw [h6]; omega)
    exact ⟨b', a1, a2.mono (by rw [h6]; omega)⟩
  obtain ⟨b3, e7, hb3⟩ := key (.lst [.bl true, .bl false, .bl false])
  refine ⟨b3, .tup [.int (2 + r), .tup vs], .lst [.bl true, .bl false, .bl false], ?_, hb3⟩
  · rw [← e7]
    simp [bodyR, e1, e2, e3, e4, e5, e6, same3, rg6, pk1]
theorem loopR : ∀ (r box : List D) (m : Nat), BoxOk box m → m + 400 * r.length < 600000000 → ∃ box', loopD (.n 1) [1, 2, 3, 4, 5] bodyR r [.own box, .un, .un, .un, .un, .un] = .nx [.own box', .un, .un, .un, .un, .un]
  | [], box, m, hb, _ => ⟨box, rfl⟩
  | d :: r, box, m, hb, hm => by
    rw [List.length_cons] at hm
    obtain ⟨b1, T, got, e1, hb1⟩ := bodyR_ok (t := d) hb (by omega)
    obtain ⟨b2, e2⟩ := loopR r b1 (m + 400) hb1 (by omega)
    refine ⟨b2, ?_⟩
    rw [loop_cons]
    simp [e1, e2]
theorem right_ok (l : List D) (hb : BoxOk l 0) : ∃ l', d_l_right l [] = .ok (.bl true) l' := by
  obtain ⟨b, e⟩ := loopR (rgD 0 8) l 0 hb (by rw [rgD_length]; omega)
  obtain ⟨R, hR⟩ : ∃ R, R = d_l_right l [] := ⟨_, rfl⟩
  have q := hR
  have es : s_l_right = sSeq (sFor (.n 1) (dRange gRange1 (dCons (dC (.int 8)) (dNil))) [1, 2, 3, 4, 5] bodyR) (sRet (dC (.bl true))) := rfl
  simp only [d_l_right, es] at q
  simp [runM, un, rg8, e] at q
  exact ⟨b, hR.symm.trans q⟩
theorem hand : d_l_by_hand_right [] = .ok (.bl true) := by kernel_rfl
theorem final (ns : List Int) (hn : ns.length ≤ 63) : d_law [.scr ns] = .ok (.bl true) := law_ok hand right_ok ns hn
end Lk09

namespace Lk09
open PySem PySem.Spec PyProof.Rows L2 DL
def D_is_number : He.DefD := ⟨("is_number", none), "is_number", "is_number", defArgs (top 1), defBody (top 1), defScope (top 1), [], []⟩
def D_rises : He.DefD := ⟨("rises", none), "rises", "rises", defArgs (top 2), defBody (top 2), defScope (top 2), [], []⟩
def D_is_visit : He.DefD := ⟨("is_visit", none), "is_visit", "is_visit", defArgs (top 4), defBody (top 4), defScope (top 4), [], []⟩
def D_is_tally : He.DefD := ⟨("is_tally", none), "is_tally", "is_tally", defArgs (top 5), defBody (top 5), defScope (top 5), [], []⟩
def D_l_box : He.DefD := ⟨("_law_box", none), "_law_box", "_law_box", defArgs (top 7), defBody (top 7), defScope (top 7), [], []⟩
def D_l_take : He.DefD := ⟨("_law_take", none), "_law_take", "_law_take", defArgs (top 8), defBody (top 8), defScope (top 8), [], []⟩
def D_l_cells : He.DefD := ⟨("_law_cells", none), "_law_cells", "_law_cells", defArgs (top 9), defBody (top 9), defScope (top 9), [], []⟩
def D_l_of : He.DefD := ⟨("_law_of", none), "_law_of", "_law_of", defArgs (top 10), defBody (top 10), defScope (top 10), [], []⟩
def D_l_lists : He.DefD := ⟨("_law_lists", none), "_law_lists", "_law_lists", defArgs (top 11), defBody (top 11), defScope (top 11), [], []⟩
def D_l_same : He.DefD := ⟨("_law_same", none), "_law_same", "_law_same", defArgs (top 12), defBody (top 12), defScope (top 12), [], []⟩
def D_l_pairs : He.DefD := ⟨("_law_pairs", none), "_law_pairs", "_law_pairs", defArgs (top 13), defBody (top 13), defScope (top 13), [], []⟩
def D_l_tally : He.DefD := ⟨("_law_tally", none), "_law_tally", "_law_tally", defArgs (top 14), defBody (top 14), defScope (top 14), [], []⟩
def D_l_is_whole : He.DefD := ⟨("_law_is_whole", none), "_law_is_whole", "_law_is_whole", defArgs (top 16), defBody (top 16), defScope (top 16), [], []⟩
def D_l_is_tally : He.DefD := ⟨("_law_is_tally", none), "_law_is_tally", "_law_is_tally", defArgs (top 15), defBody (top 15), defScope (top 15), [], []⟩
def D_l_odd : He.DefD := ⟨("_law_odd", none), "_law_odd", "_law_odd", defArgs (top 17), defBody (top 17), defScope (top 17), [], []⟩
def D_l_by_hand_right : He.DefD := ⟨("_law_by_hand_right", none), "_law_by_hand_right", "_law_by_hand_right", defArgs (top 18), defBody (top 18), defScope (top 18), [], []⟩
def D_l_right : He.DefD := ⟨("_law_right", none), "_law_right", "_law_right", defArgs (top 19), defBody (top 19), defScope (top 19), [], []⟩
def D_law : He.DefD := ⟨("law", none), "law", "law", defArgs (top 20), defBody (top 20), defScope (top 20), [], []⟩
def fnL : List He.DefD := [D_is_number, D_rises, D_is_visit, D_is_tally, D_l_box, D_l_take, D_l_cells, D_l_of, D_l_lists, D_l_same, D_l_pairs, D_l_tally, D_l_is_whole, D_l_is_tally, D_l_odd, D_l_by_hand_right, D_l_right, D_law]
def faL : List He.Fa := [.glo "is_number", .glo "rises", .glo "is_visit", .glo "is_tally", .glo "_law_box", .glo "_law_take", .glo "_law_cells", .glo "_law_of", .glo "_law_lists", .glo "_law_same", .glo "_law_pairs", .glo "_law_tally", .glo "_law_is_whole", .glo "_law_is_tally", .glo "_law_odd", .glo "_law_by_hand_right", .glo "_law_right", .glo "law", .free "abs", .free "all", .free "bool", .free "enumerate", .free "int", .free "isinstance", .free "len", .free "list", .free "range", .free "str", .free "tuple", .free "zip"]
def looseL : List PySem.Str := ["is_number", "rises", "is_visit", "is_tally", "_law_box", "_law_take", "_law_cells", "_law_of", "_law_lists", "_law_same", "_law_pairs", "_law_tally", "_law_is_whole", "_law_is_tally", "_law_odd", "_law_by_hand_right", "_law_right"]
abbrev RR : PySem.W.OpenRow := PySem.W.OpenLaw.row PySem.Challenge.rw_lakevisits_k09_tallies_or_not
abbrev hkL : PySem.W.Hook := He.hookD 4 faL fnL
def obL (s : PySem.W.SharedT) : He.AlD := He.obsDG 4 faL fnL (HandSHeadRun.getT s)
theorem obL_eq (s : PySem.W.SharedT) : obL s = hkL.obs s.abs := He.obsDG_eq (HandSHeadRun.getT_eq s)
theorem runL (w : World) : HandSHeadRun.RunEq RR (PySem.W.view RR.prog [20]) hkL obL 2000 looseL w := by
  intro os
  kernel_rfl
theorem factsL {K : PySem.W.Frag} {h : Heap} {mg : Str → Option Value} {f : Addr} (X : K.In h) (G : h.Ns mainGlobals mg) (hfa : mg ("law" : Str) = some (.ref f)) (c : He.SaysD faL fnL K) : ∃ a : As, a.f_law = f ∧ Fx K mg a := by
  obtain ⟨e0, F0⟩ := c.def_ 0 (d := D_is_number) rfl
  obtain ⟨e1, F1⟩ := c.def_ 1 (d := D_rises) rfl
  obtain ⟨e2, F2⟩ := c.def_ 2 (d := D_is_visit) rfl
  obtain ⟨e3, F3⟩ := c.def_ 3 (d := D_is_tally) rfl
  obtain ⟨e4, F4⟩ := c.def_ 4 (d := D_l_box) rfl
  obtain ⟨e5, F5⟩ := c.def_ 5 (d := D_l_take) rfl
  obtain ⟨e6, F6⟩ := c.def_ 6 (d := D_l_cells) rfl
  obtain ⟨e7, F7⟩ := c.def_ 7 (d := D_l_of) rfl
  obtain ⟨e8, F8⟩ := c.def_ 8 (d := D_l_lists) rfl
  obtain ⟨e9, F9⟩ := c.def_ 9 (d := D_l_same) rfl
  obtain ⟨e10, F10⟩ := c.def_ 10 (d := D_l_pairs) rfl
  obtain ⟨e11, F11⟩ := c.def_ 11 (d := D_l_tally) rfl
  obtain ⟨e12, F12⟩ := c.def_ 12 (d := D_l_is_whole) rfl
  obtain ⟨e13, F13⟩ := c.def_ 13 (d := D_l_is_tally) rfl
  obtain ⟨e14, F14⟩ := c.def_ 14 (d := D_l_odd) rfl
  obtain ⟨e15, F15⟩ := c.def_ 15 (d := D_l_by_hand_right) rfl
  obtain ⟨e16, F16⟩ := c.def_ 16 (d := D_l_right) rfl
  obtain ⟨e17, F17⟩ := c.def_ 17 (d := D_law) rfl
  have G0 := He.glo_ok X G (c.fact 0 (f := .glo "is_number") rfl)
  have G1 := He.glo_ok X G (c.fact 1 (f := .glo "rises") rfl)
  have G2 := He.glo_ok X G (c.fact 2 (f := .glo "is_visit") rfl)
  have G3 := He.glo_ok X G (c.fact 3 (f := .glo "is_tally") rfl)
  have G4 := He.glo_ok X G (c.fact 4 (f := .glo "_law_box") rfl)
  have G5 := He.glo_ok X G (c.fact 5 (f := .glo "_law_take") rfl)
  have G6 := He.glo_ok X G (c.fact 6 (f := .glo "_law_cells") rfl)
  have G7 := He.glo_ok X G (c.fact 7 (f := .glo "_law_of") rfl)
  have G8 := He.glo_ok X G (c.fact 8 (f := .glo "_law_lists") rfl)
  have G9 := He.glo_ok X G (c.fact 9 (f := .glo "_law_same") rfl)
  have G10 := He.glo_ok X G (c.fact 10 (f := .glo "_law_pairs") rfl)
  have G11 := He.glo_ok X G (c.fact 11 (f := .glo "_law_tally") rfl)
  have G12 := He.glo_ok X G (c.fact 12 (f := .glo "_law_is_whole") rfl)
  have G13 := He.glo_ok X G (c.fact 13 (f := .glo "_law_is_tally") rfl)
  have G14 := He.glo_ok X G (c.fact 14 (f := .glo "_law_odd") rfl)
  have G15 := He.glo_ok X G (c.fact 15 (f := .glo "_law_by_hand_right") rfl)
  have G16 := He.glo_ok X G (c.fact 16 (f := .glo "_law_right") rfl)
  have G17 := He.glo_ok X G (c.fact 17 (f := .glo "law") rfl)
  have el := hfa.symm.trans G17
  cases el
  refine ⟨⟨He.ga K "is_number", e0, He.ga K "rises", e1, He.ga K "is_visit", e2, He.ga K "is_tally", e3, He.ga K "_law_box", e4, He.ga K "_law_take", e5, He.ga K "_law_cells", e6, He.ga K "_law_of", e7, He.ga K "_law_lists", e8, He.ga K "_law_same", e9, He.ga K "_law_pairs", e10, He.ga K "_law_tally", e11, He.ga K "_law_is_whole", e12, He.ga K "_law_is_tally", e13, He.ga K "_law_odd", e14, He.ga K "_law_by_hand_right", e15, He.ga K "_law_right", e16, He.ga K "law", e17⟩, rfl, ?_⟩
  exact ⟨F0, G0, F1, G1, F2, G2, F3, G3, F4, G4, F5, G5, F6, G6, F7, G7, F8, G8, F9, G9, F10, G10, F11, G11, F12, G12, F13, G13, F14, G14, F15, G15, F16, G16, F17, G17, He.free_ok X G (c.fact 18 (f := .free "abs") rfl), He.free_ok X G (c.fact 19 (f := .free "all") rfl), He.free_ok X G (c.fact 20 (f := .free "bool") rfl), He.free_ok X G (c.fact 21 (f := .free "enumerate") rfl), He.free_ok X G (c.fact 22 (f := .free "int") rfl), He.free_ok X G (c.fact 23 (f := .free "isinstance") rfl), He.free_ok X G (c.fact 24 (f := .free "len") rfl), He.free_ok X G (c.fact 25 (f := .free "list") rfl), He.free_ok X G (c.fact 26 (f := .free "range") rfl), He.free_ok X G (c.fact 27 (f := .free "str") rfl), He.free_ok X G (c.fact 28 (f := .free "tuple") rfl), He.free_ok X G (c.fact 29 (f := .free "zip") rfl)⟩
end Lk09
open PySem PySem.W PySem.Calls PyProof.Rows
theorem PySem.Challenge.cw_lakevisits_k09_tallies_or_not_holds : PySem.Challenge.rw_lakevisits_k09_tallies_or_not.Holds := by
  w_on; o_law
  refine HandSHeadRun.head_any (r := OpenLaw.row PySem.Challenge.rw_lakevisits_k09_tallies_or_not) (q := view (OpenLaw.row PySem.Challenge.rw_lakevisits_k09_tallies_or_not).prog [20]) (H := Lk09.hkL) (ob := Lk09.obL) (M := 2000) (loose := Lk09.looseL) (d := HandSHeadRun.topDef (OpenLaw.row PySem.Challenge.rw_lakevisits_k09_tallies_or_not).prog 20) (kwd := []) Lk09.obL_eq
    (by kernel_rfl) (fun s => by kernel_rfl) Lk09.runL (by kernel_rfl) (by kernel_rfl) (by kernel_rfl) (by rfl) (by first | assumption | decide +kernel) (by decide +kernel) ⟨rfl, rfl, rfl, rfl, rfl, by decide +kernel⟩ ?hw ?hc
  case hw => w_witness2
  case hc =>
    refine DL.walk_w (l := PySem.Challenge.rw_lakevisits_k09_tallies_or_not) (n := 63) (k := 29) (x := "_law_script") rfl (by decide) (by kernel_rfl) ⟨rfl, by decide, by decide⟩ ?F
    intro w mg fa h Y G hmg0
    obtain ⟨K, KX, c⟩ := Y
    have hmg : mg ("law" : PySem.Str) = some (.ref fa) := by
      have e : (HandSHeadRun.topDef (OpenLaw.row PySem.Challenge.rw_lakevisits_k09_tallies_or_not).prog 20).name = ("law" : PySem.Str) := by kernel_rfl
      rw [← e]
      exact hmg0
    obtain ⟨a, rfl, hx⟩ := Lk09.factsL KX G hmg c
    have hb := L2.FunD.bindsA (ps := ["_law_script"]) hx.F_law fun _ _ _ _ _ _ us hl => match us, hl with | [_], _ => rfl
    refine ⟨K, a.e_law, DL.spA K mg 1 Lk09.d_law, KX, fun s v => hb s [v] rfl, fun H ad ns hl hS => ?_, fun base _ _ => Lk09.ok_law hx⟩
    refine ⟨rfl, H, [.scr ns], fun _ _ e => e, ⟨_, _, rfl, ⟨ad, rfl, hS⟩, rfl⟩, ?_⟩
    rw [Lk09.final ns hl]
    exact fun v _ _ _ _ _ _ r => r

