import PyProof.Rows.All
import Wide.All
import OpenK.AllK
import Wide.FinOn
import HandS.ForMost
import HandS.ForExc
import HandS.Defaults
import HandS.TryMany
import HandS.TupAny
import HandS.TupMul
import HandS.Wide
import HandS.Deep
import HandS.Text
import HandS.Style
import PyProof.StrOps2
import HandS.Flow
import HandS.IsInst
import HandS.Walk
import HandS.Iter
import HandS.Zip
import HandS.Comp
import KE.GoesEnum
import HandS.Replace
import HandS.WordsExc
import HandS.RaiseMore
import HandS.HeadEnd
import PySem.Challenge.RW_wordsaid_k01_letters_and_words
import KE.KStateDown
import HandS.Head0
import HandS.Head1
import HandS.Head2
import HandS.HeadHook1
import HandS.HeadHook2
-- text D1
section
set_option Elab.async false
set_option linter.all false
set_option maxRecDepth 100000
set_option maxHeartbeats 1000000
/-! Dl: a layer of plain data over the hand layer. Part 1: slots, answers, the state. -/
namespace Dl
open PySem L2

abbrev Dat := PyData

/-- what a changing object holds -/
inductive Cel where
  | lst (ds : List Dat)
  | dcK (kvs : List (Key × Dat))
  | dcT (kvs : List (List Key × Dat))

/-- what a name holds: nothing; settled data; an object of ours that may change; the script -/
inductive Slot where
  | un
  | dat (d : Dat)
  | cel (lk : Bool) (c : Cel)
  | scr (ns : List Int)

abbrev En := List Slot

/-- an expression's value: settled data; a new object; what the slot i holds -/
inductive Val where
  | dat (d : Dat)
  | cel (c : Cel)
  | bor (i : Nat)

structure Exn where
  cls : Str
  place : Dat

inductive R (α : Type) where
  | ok (a : α) (ρ : En)
  | ex (x : Exn) (ρ : En)
  | no

@[reducible] def M (α : Type) := En → R α

def R.bnd {α β : Type} (r : R α) (f : α → En → R β) : R β :=
  match r with
  | .ok a ρ => f a ρ
  | .ex x ρ => .ex x ρ
  | .no => .no

def gt : En → Nat → Slot
  | [], _ => .un
  | s :: _, 0 => s
  | _ :: r, i + 1 => gt r i
def pt : En → Nat → Slot → En
  | [], _, _ => []
  | _ :: r, 0, x => x :: r
  | s :: r, i + 1, x => s :: pt r i x

theorem pt_len : ∀ (ρ : En) (i : Nat) (x : Slot), (pt ρ i x).length = ρ.length
  | [], _, _ => rfl
  | _ :: _, 0, _ => rfl
  | _ :: r, i + 1, x => congrArg Nat.succ (pt_len r i x)
theorem gt_pt_ne : ∀ (ρ : En) (i j : Nat) (x : Slot), j ≠ i → gt (pt ρ i x) j = gt ρ j
  | [], _, _, _, _ => rfl
  | _ :: _, 0, 0, _, h => absurd rfl h
  | _ :: _, 0, _ + 1, _, _ => rfl
  | _ :: _, _ + 1, 0, _, _ => rfl
  | _ :: r, i + 1, j + 1, x, h => gt_pt_ne r i j x fun e => h (congrArg Nat.succ e)
theorem gt_pt_eq : ∀ (ρ : En) (i : Nat) (x : Slot), i < ρ.length → gt (pt ρ i x) i = x
  | [], _, _, h => absurd h (Nat.not_lt_zero _)
  | _ :: _, 0, _, _ => rfl
  | _ :: r, i + 1, x, h => gt_pt_eq r i x (Nat.lt_of_succ_lt_succ h)
theorem gt_out : ∀ (ρ : En) (i : Nat), ρ.length ≤ i → gt ρ i = .un
  | [], _, _ => rfl
  | _ :: _, 0, h => absurd h (Nat.not_succ_le_zero _)
  | _ :: r, i + 1, h => gt_out r i (Nat.le_of_succ_le_succ h)
theorem gt_in {ρ : En} {i : Nat} {s : Slot} (h : gt ρ i = s) (hs : s ≠ .un) : i < ρ.length := by
  by_cases q : i < ρ.length
  · exact q
  · exact absurd (h.symm.trans (gt_out ρ i (Nat.le_of_not_lt q))) hs

/-! ### data in a heap -/
mutual
def Rp (K : PySem.W.Frag) (F : Hp) : Dat → V → Prop
  | .none, v => v = .non
  | .bool b, v => v = .bl b
  | .int i, v => v = .int i
  | .str x, v => v = .str x
  | .list ds, v => ∃ a xs, v = .ref a ∧ F a = some (.lst xs) ∧ RpA K F ds xs
  | .tuple ds, v => ∃ a xs, v = .ref a ∧ SqT K F a xs ∧ RpA K F ds xs
  | .dict _, _ => False
def RpA (K : PySem.W.Frag) (F : Hp) : List Dat → List V → Prop
  | [], xs => xs = []
  | d :: ds, xs => ∃ v vs, xs = v :: vs ∧ Rp K F d v ∧ RpA K F ds vs
end

theorem same_t {K : PySem.W.Frag} {F F' : Hp} {a : Addr} {xs : List V} (s : Same F F') (h : SqT K F a xs) : SqT K F' a xs := by
  rcases h with (h | ⟨o, h⟩) | h
  · exact .inl (.inl (s _ _ h))
  · exact .inl (.inr ⟨o, s _ _ h⟩)
  · exact .inr h

section
variable {K : PySem.W.Frag} {F F' : Hp}
mutual
theorem Rp.mono (s : Same F F') : ∀ {d : Dat} {v : V}, Rp K F d v → Rp K F' d v
  | .none, _, h => by unfold Rp at h ⊢; exact h
  | .bool _, _, h => by unfold Rp at h ⊢; exact h
  | .int _, _, h => by unfold Rp at h ⊢; exact h
  | .str _, _, h => by unfold Rp at h ⊢; exact h
  | .list ds, _, h => by
    unfold Rp at h ⊢
    obtain ⟨a, xs, e, e2, q⟩ := h
    exact ⟨a, xs, e, s _ _ e2, RpA.mono s q⟩
  | .tuple ds, _, h => by
    unfold Rp at h ⊢
    obtain ⟨a, xs, e, e2, q⟩ := h
    exact ⟨a, xs, e, same_t s e2, RpA.mono s q⟩
  | .dict _, _, h => by unfold Rp at h; exact h.elim
theorem RpA.mono (s : Same F F') : ∀ {ds : List Dat} {vs : List V}, RpA K F ds vs → RpA K F' ds vs
  | [], _, h => by unfold RpA at h ⊢; exact h
  | d :: ds, _, h => by
    unfold RpA at h ⊢
    obtain ⟨v, vs, e, q1, q2⟩ := h
    exact ⟨v, vs, e, Rp.mono s q1, RpA.mono s q2⟩
end
mutual
theorem Rp.dp : ∀ {d : Dat} {v : V}, Rp K F d v → Dp K F v d
  | .none, _, h => by unfold Rp at h; subst h; exact .non
  | .bool _, _, h => by unfold Rp at h; subst h; exact .bl _
  | .int _, _, h => by unfold Rp at h; subst h; exact .int _
  | .str _, _, h => by unfold Rp at h; subst h; exact .str _
  | .list ds, _, h => by
    unfold Rp at h
    obtain ⟨a, xs, rfl, e2, q⟩ := h
    exact .lst (SqL.of e2) (RpA.dp q)
  | .tuple ds, _, h => by
    unfold Rp at h
    obtain ⟨a, xs, rfl, e2, q⟩ := h
    exact .tup e2 (RpA.dp q)
  | .dict _, _, h => by unfold Rp at h; exact h.elim
theorem RpA.dp : ∀ {ds : List Dat} {vs : List V}, RpA K F ds vs → DpAll K F vs ds
  | [], _, h => by unfold RpA at h; subst h; exact .nil
  | d :: ds, _, h => by
    unfold RpA at h
    obtain ⟨v, vs, rfl, q1, q2⟩ := h
    exact .cons (Rp.dp q1) (RpA.dp q2)
end
theorem RpA.nil : RpA K F [] [] := by unfold RpA; rfl
theorem RpA.cons {d : Dat} {v : V} {ds : List Dat} {vs : List V} (a : Rp K F d v) (b : RpA K F ds vs) : RpA K F (d :: ds) (v :: vs) := by
  unfold RpA
  exact ⟨v, vs, rfl, a, b⟩
theorem RpA.nil_inv {vs : List V} (h : RpA K F [] vs) : vs = [] := by unfold RpA at h; exact h
theorem RpA.cons_inv {d : Dat} {ds : List Dat} {vs : List V} (h : RpA K F (d :: ds) vs) : ∃ v r, vs = v :: r ∧ Rp K F d v ∧ RpA K F ds r := by unfold RpA at h; exact h
theorem RpA.len : ∀ {ds : List Dat} {vs : List V}, RpA K F ds vs → vs.length = ds.length
  | [], _, h => by rw [h.nil_inv]; rfl
  | d :: ds, _, h => by
    obtain ⟨v, r, rfl, _, q⟩ := h.cons_inv
    exact congrArg Nat.succ q.len
theorem RpA.app : ∀ {ds es : List Dat} {vs us : List V}, RpA K F ds vs → RpA K F es us → RpA K F (ds ++ es) (vs ++ us)
  | [], _, _, _, h, q => by rw [h.nil_inv]; exact q
  | d :: ds, _, _, _, h, q => by
    obtain ⟨v, r, rfl, a, b⟩ := h.cons_inv
    exact .cons a (b.app q)
theorem RpA.one {d : Dat} {v : V} (h : Rp K F d v) : RpA K F [d] [v] := .cons h .nil
theorem RpA.at : ∀ {ds : List Dat} {vs : List V} {i : Nat} {d : Dat}, RpA K F ds vs → ds[i]? = some d → ∃ v, vs[i]? = some v ∧ Rp K F d v
  | [], _, _, _, _, e => by simp at e
  | x :: ds, _, 0, d, h, e => by
    obtain ⟨v, r, rfl, a, b⟩ := h.cons_inv
    simp at e
    subst e
    exact ⟨v, by simp, a⟩
  | x :: ds, _, i + 1, d, h, e => by
    obtain ⟨v, r, rfl, a, b⟩ := h.cons_inv
    obtain ⟨u, e1, q⟩ := b.at (i := i) (by simpa using e)
    exact ⟨u, by simpa using e1, q⟩
theorem RpA.at' : ∀ {ds : List Dat} {vs : List V} {i : Nat} {v : V}, RpA K F ds vs → vs[i]? = some v → ∃ d, ds[i]? = some d ∧ Rp K F d v
  | [], _, _, _, h, e => by rw [h.nil_inv] at e; simp at e
  | x :: ds, _, 0, v, h, e => by
    obtain ⟨u, r, rfl, a, b⟩ := h.cons_inv
    simp at e
    subst e
    exact ⟨x, by simp, a⟩
  | x :: ds, _, i + 1, v, h, e => by
    obtain ⟨u, r, rfl, a, b⟩ := h.cons_inv
    obtain ⟨d, e1, q⟩ := b.at' (i := i) (by simpa using e)
    exact ⟨d, by simpa using e1, q⟩
theorem RpA.take : ∀ {ds : List Dat} {vs : List V} (n : Nat), RpA K F ds vs → RpA K F (ds.take n) (vs.take n)
  | _, _, 0, _ => by simp; exact .nil
  | [], _, n + 1, h => by rw [h.nil_inv]; simp; exact .nil
  | d :: ds, _, n + 1, h => by
    obtain ⟨v, r, rfl, a, b⟩ := h.cons_inv
    simp only [List.take_succ_cons]
    exact .cons a (b.take n)
theorem RpA.drop : ∀ {ds : List Dat} {vs : List V} (n : Nat), RpA K F ds vs → RpA K F (ds.drop n) (vs.drop n)
  | _, _, 0, h => h
  | [], _, n + 1, h => by rw [h.nil_inv]; simp; exact .nil
  | d :: ds, _, n + 1, h => by
    obtain ⟨v, r, rfl, a, b⟩ := h.cons_inv
    simp only [List.drop_succ_cons]
    exact b.drop n
theorem RpA.set : ∀ {ds : List Dat} {vs : List V} {d : Dat} {v : V} (n : Nat), RpA K F ds vs → Rp K F d v → RpA K F (ds.set n d) (vs.set n v)
  | [], _, _, _, n, h, _ => by rw [h.nil_inv]; simp; exact .nil
  | d :: ds, _, _, _, 0, h, q => by
    obtain ⟨v, r, rfl, a, b⟩ := h.cons_inv
    exact .cons q b
  | d :: ds, _, _, _, n + 1, h, q => by
    obtain ⟨v, r, rfl, a, b⟩ := h.cons_inv
    simp only [List.set_cons_succ]
    exact .cons a (b.set n q)
theorem RpA.rev : ∀ {ds : List Dat} {vs : List V}, RpA K F ds vs → RpA K F ds.reverse vs.reverse
  | [], _, h => by rw [h.nil_inv]; exact .nil
  | d :: ds, _, h => by
    obtain ⟨v, r, rfl, a, b⟩ := h.cons_inv
    simp only [List.reverse_cons]
    exact b.rev.app (.one a)
end

/-! ### what changes, in a heap -/
def KvR {κ : Type} (K : PySem.W.Frag) (F : Hp) (kvs : List (κ × Dat)) (us : List (κ × V)) : Prop := us.map (·.1) = kvs.map (·.1) ∧ RpA K F (kvs.map (·.2)) (us.map (·.2))
def CelAt (K : PySem.W.Frag) (F H : Hp) (p : Addr) : Cel → Prop
  | .lst ds => ∃ vs, H p = some (.lst vs) ∧ RpA K F ds vs
  | .dcK kvs => ∃ us, H p = some (.dK us) ∧ KvR K F kvs us
  | .dcT kvs => ∃ us, H p = some (.dT us) ∧ KvR K F kvs us
theorem CelAt.mono {K : PySem.W.Frag} {F F' H H' : Hp} {p : Addr} (s : Same F F') (e : H' p = H p) : ∀ {c : Cel}, CelAt K F H p c → CelAt K F' H' p c
  | .lst ds, ⟨vs, q, r⟩ => ⟨vs, e.trans q, r.mono s⟩
  | .dcK kvs, ⟨vs, q, r1, r2⟩ => ⟨vs, e.trans q, r1, r2.mono s⟩
  | .dcT kvs, ⟨vs, q, r1, r2⟩ => ⟨vs, e.trans q, r1, r2.mono s⟩
theorem CelAt.there {K : PySem.W.Frag} {F H : Hp} {p : Addr} {c : Cel} (h : CelAt K F H p c) : ∃ o, H p = some o := by
  cases c with
  | lst ds => obtain ⟨vs, e, _⟩ := h; exact ⟨_, e⟩
  | dcK ds => obtain ⟨vs, e, _⟩ := h; exact ⟨_, e⟩
  | dcT ds => obtain ⟨vs, e, _⟩ := h; exact ⟨_, e⟩

def SltR (K : PySem.W.Frag) (F H : Hp) (σ : L2.St) (i : Nat) : Slot → Prop
  | .un => True
  | .dat d => ∃ v, σ[i]? = some (some v) ∧ Rp K F d v
  | .cel _ c => ∃ p, σ[i]? = some (some (.ref p)) ∧ F p = none ∧ CelAt K F H p c
  | .scr ns => ∃ p, σ[i]? = some (some (.ref p)) ∧ SqL K F p (ns.map V.int)

/-- the entry: the heap, what was settled, the slots that are lent, their objects -/
structure Bs where
  H0 : Hp
  F0 : Hp
  L : List Nat
  rf : Nat → Option Addr

structure St (K : PySem.W.Frag) (B : Bs) (ρ : En) (σ : L2.St) (F H : Hp) : Prop where
  len : ρ.length = σ.length
  sub : Same F H
  slot : ∀ i, SltR K F H σ i (gt ρ i)
  dist : ∀ i j bi bj ci cj p, gt ρ i = .cel bi ci → gt ρ j = .cel bj cj → σ[i]? = some (some (.ref p)) → σ[j]? = some (some (.ref p)) → i = j
  base : Same B.F0 F
  fnew : ∀ a, B.F0 a = none → F a ≠ none → B.H0 a = none ∨ ∃ i ∈ B.L, B.rf i = some a
  keep : ∀ a o, B.H0 a = some o → (∀ i ∈ B.L, B.rf i ≠ some a) → H a = some o
  cnew : ∀ i b c p, gt ρ i = .cel b c → σ[i]? = some (some (.ref p)) → B.H0 p = none ∨ ∃ j ∈ B.L, B.rf j = some p
  refs : ∀ i ∈ B.L, ∀ p, B.rf i = some p → σ[i]? = some (some (.ref p)) ∧ ∃ c, gt ρ i = .cel true c

def VR (K : PySem.W.Frag) (B : Bs) (ρ : En) (σ : L2.St) (F H : Hp) (u : V) : Val → Prop
  | .dat d => Rp K F d u
  | .cel c => ∃ p, u = .ref p ∧ F p = none ∧ B.H0 p = none ∧ CelAt K F H p c ∧ (∀ i b c', gt ρ i = .cel b c' → σ[i]? ≠ some (some (.ref p))) ∧ ∀ i ∈ B.L, B.rf i ≠ some p
  | .bor i => σ[i]? = some (some u)

/-- a value that may be looked at: its top in the heap, what lies within settled -/
def RT (K : PySem.W.Frag) (F H : Hp) : Dat → V → Prop
  | .list ds, v => ∃ a xs, v = .ref a ∧ H a = some (.lst xs) ∧ RpA K F ds xs
  | d, v => Rp K F d v
theorem RT.rp {K : PySem.W.Frag} {F H : Hp} (s : Same F H) : ∀ {d : Dat} {v : V}, RT K F H d v → Rp K H d v
  | .list ds, v, ⟨a, xs, e, e2, q⟩ => by unfold Rp; exact ⟨a, xs, e, e2, q.mono s⟩
  | .none, v, h => Rp.mono s h
  | .bool _, v, h => Rp.mono s h
  | .int _, v, h => Rp.mono s h
  | .str _, v, h => Rp.mono s h
  | .tuple _, v, h => Rp.mono s h
  | .dict _, v, h => Rp.mono s h
theorem Rp.rt {K : PySem.W.Frag} {F H : Hp} (s : Same F H) : ∀ {d : Dat} {v : V}, Rp K F d v → RT K F H d v
  | .list ds, v, h => by
    unfold Rp at h
    obtain ⟨a, xs, e, e2, q⟩ := h
    exact ⟨a, xs, e, s _ _ e2, q⟩
  | .none, v, h => h
  | .bool _, v, h => h
  | .int _, v, h => h
  | .str _, v, h => h
  | .tuple _, v, h => h
  | .dict _, v, h => h

/-- the data that a value stands for at this moment -/
def rdS : Slot → Option Dat
  | .dat d => some d
  | .cel _ (.lst ds) => some (.list ds)
  | _ => none
def rd (ρ : En) : Val → Option Dat
  | .dat d => some d
  | .cel (.lst ds) => some (.list ds)
  | .cel _ => none
  | .bor i => rdS (gt ρ i)

section
variable {K : PySem.W.Frag} {B : Bs} {ρ : En} {σ : L2.St} {F F' H H' : Hp} {u : V} {v : Val} {d : Dat}

theorem rd_ok (S : St K B ρ σ F H) (h : VR K B ρ σ F H u v) (e : rd ρ v = some d) : RT K F H d u := by
  cases v with
  | dat d' =>
    cases (show some d' = some d from e)
    exact Rp.rt S.sub h
  | cel c =>
    cases c with
    | lst ds =>
      cases (show some (PyData.list ds) = some d from e)
      obtain ⟨p, eu, _, _, ⟨vs, e2, q⟩, _⟩ := h
      exact ⟨p, vs, eu, e2, q⟩
    | dcK _ => cases e
    | dcT _ => cases e
  | bor i =>
    have eu : σ[i]? = some (some u) := h
    have sl := S.slot i
    have e' : rdS (gt ρ i) = some d := e
    cases hg : gt ρ i with
    | un => rw [hg] at e'; cases e'
    | scr _ => rw [hg] at e'; cases e'
    | dat d' =>
      rw [hg] at e' sl
      cases (show some d' = some d from e')
      obtain ⟨w, e2, q⟩ := sl
      rw [eu] at e2
      cases e2
      exact Rp.rt S.sub q
    | cel bk c =>
      rw [hg] at e' sl
      cases c with
      | lst ds =>
        cases (show some (PyData.list ds) = some d from e')
        obtain ⟨p, e2, _, vs, e3, q⟩ := sl
        rw [eu] at e2
        cases e2
        exact ⟨p, vs, rfl, e3, q⟩
      | dcK _ => cases e'
      | dcT _ => cases e'

/-- a new object becomes settled data -/
theorem St.settle {p : Addr} {o : HO} (S : St K B ρ σ F H) (hF : F p = none) (hH : H p = some o) (hn : B.H0 p = none ∨ ∃ i ∈ B.L, B.rf i = some p)
    (hc : ∀ i b c', gt ρ i = .cel b c' → σ[i]? ≠ some (some (.ref p))) : St K B ρ σ (upd F p o) H ∧ Same F (upd F p o) := by
  have sm : Same F (upd F p o) := fun b x e => by rw [upd_ne (ne_of_none e hF)]; exact e
  refine ⟨⟨S.len, fun b x e => ?_, fun i => ?_, S.dist, fun b x e => sm _ _ (S.base _ _ e), fun a e n => ?_, S.keep, S.cnew, S.refs⟩, sm⟩
  · by_cases hb : b = p
    · rw [hb, upd_same] at e
      rw [hb]
      exact hH.trans e
    · rw [upd_ne hb] at e
      exact S.sub _ _ e
  · have sl := S.slot i
    cases hg : gt ρ i with
    | un => trivial
    | dat d =>
      rw [hg] at sl
      obtain ⟨w, e, q⟩ := sl
      exact ⟨w, e, q.mono sm⟩
    | scr ns =>
      rw [hg] at sl
      obtain ⟨w, e, q⟩ := sl
      exact ⟨w, e, sm.seq q⟩
    | cel bk c =>
      rw [hg] at sl
      obtain ⟨q, e, f, z⟩ := sl
      have nq : q ≠ p := fun x => hc i bk c hg (by rw [e, x])
      exact ⟨q, e, by rw [upd_ne nq]; exact f, z.mono sm rfl⟩
  · by_cases ha : a = p
    · rw [ha]; exact hn
    · rw [upd_ne ha] at n
      exact S.fnew a e n

/-- the list that slot i holds becomes settled data -/
theorem St.settleSlot {i : Nat} {ds : List Dat} (S : St K B ρ σ F H) (hg : gt ρ i = .cel false (.lst ds)) (eu : σ[i]? = some (some u)) :
    ∃ F', St K B (pt ρ i (.dat (.list ds))) σ F' H ∧ Same F F' ∧ Rp K F' (.list ds) u := by
  have sl := S.slot i
  rw [hg] at sl
  obtain ⟨p, e, f, vs, hH, q⟩ := sl
  rw [eu] at e
  cases e
  have hi : i < ρ.length := gt_in hg (fun z => nomatch z)
  have sm : Same F (upd F p (.lst vs)) := fun b x e => by rw [upd_ne (ne_of_none e f)]; exact e
  have hr : Rp K (upd F p (.lst vs)) (.list ds) (.ref p) := by
    unfold Rp
    exact ⟨p, vs, rfl, upd_same, q.mono sm⟩
  refine ⟨upd F p (.lst vs), ⟨by rw [pt_len]; exact S.len, fun b x e => ?_, fun j => ?_, fun j k bj bk cj ck r hj hk ej ek => ?_, fun b x e => sm _ _ (S.base _ _ e), fun a e n => ?_, S.keep, fun j b c r hj ej => ?_, fun j hj pr er => ?_⟩, sm, hr⟩
  · by_cases hb : b = p
    · rw [hb, upd_same] at e
      rw [hb]
      exact hH.trans e
    · rw [upd_ne hb] at e
      exact S.sub _ _ e
  · by_cases ej : j = i
    · rw [ej, gt_pt_eq _ _ _ hi]
      exact ⟨_, eu, hr⟩
    · rw [gt_pt_ne _ _ _ _ ej]
      have sl := S.slot j
      cases hgj : gt ρ j with
      | un => trivial
      | dat d =>
        rw [hgj] at sl
        obtain ⟨w, e, q⟩ := sl
        exact ⟨w, e, q.mono sm⟩
      | scr ns =>
        rw [hgj] at sl
        obtain ⟨w, e, q⟩ := sl
        exact ⟨w, e, sm.seq q⟩
      | cel bk c =>
        rw [hgj] at sl
        obtain ⟨q, e, f', z⟩ := sl
        have nq : q ≠ p := fun x => ej (S.dist j i bk false c (.lst ds) p hgj hg (by rw [e, x]) eu)
        exact ⟨q, e, by rw [upd_ne nq]; exact f', z.mono sm rfl⟩
  · have nj : j ≠ i := fun z => by rw [z, gt_pt_eq _ _ _ hi] at hj; cases hj
    have nk : k ≠ i := fun z => by rw [z, gt_pt_eq _ _ _ hi] at hk; cases hk
    rw [gt_pt_ne _ _ _ _ nj] at hj
    rw [gt_pt_ne _ _ _ _ nk] at hk
    exact S.dist j k bj bk cj ck r hj hk ej ek
  · by_cases ha : a = p
    · rw [ha]; exact S.cnew i _ _ p hg eu
    · rw [upd_ne ha] at n
      exact S.fnew a e n
  · have nj : j ≠ i := fun z => by rw [z, gt_pt_eq _ _ _ hi] at hj; cases hj
    rw [gt_pt_ne _ _ _ _ nj] at hj
    exact S.cnew j b c r hj ej
  · obtain ⟨e1, e2⟩ := S.refs j hj pr er
    refine ⟨e1, ?_⟩
    by_cases ej : j = i
    · obtain ⟨c, e3⟩ := e2
      rw [ej, hg] at e3
      cases e3
    · rw [gt_pt_ne _ _ _ _ ej]
      exact e2

/-- a new object is made -/
theorem St.grow {p : Addr} {o : HO} (S : St K B ρ σ F H) (hp : H p = none) : St K B ρ σ F (upd H p o) := by
  have np : ∀ {b x}, H b = some x → b ≠ p := fun e => ne_of_none e hp
  refine ⟨S.len, fun b x e => by rw [upd_ne (np (S.sub _ _ e))]; exact S.sub _ _ e, fun i => ?_, S.dist, S.base, S.fnew, fun a x e h => by rw [upd_ne (np (S.keep a x e h))]; exact S.keep a x e h, S.cnew, S.refs⟩
  have sl := S.slot i
  cases hg : gt ρ i with
  | un => trivial
  | dat d => rw [hg] at sl; exact sl
  | scr ns => rw [hg] at sl; exact sl
  | cel bk c =>
    rw [hg] at sl
    obtain ⟨q, e, f, z⟩ := sl
    obtain ⟨x, hx⟩ := z.there
    exact ⟨q, e, f, z.mono (Same.refl _) (upd_ne (np hx))⟩
/-- .. and is settled at once -/
theorem St.fresh {p : Addr} {o : HO} (S : St K B ρ σ F H) (hp : H p = none) (nr : ∀ i ∈ B.L, B.rf i ≠ some p) : St K B ρ σ (upd F p o) (upd H p o) ∧ Same F (upd F p o) := by
  have hF : F p = none := by
    cases e : F p with
    | none => rfl
    | some x => rw [S.sub _ _ e] at hp; cases hp
  refine (S.grow hp).settle hF upd_same (.inl ?_) fun i bk c hi e => ?_
  · cases e : B.H0 p with
    | none => rfl
    | some x =>
      rw [S.keep p x e nr] at hp
      cases hp
  · have sl := S.slot i
    rw [hi] at sl
    obtain ⟨q, e1, _, z⟩ := sl
    rw [e] at e1
    cases e1
    obtain ⟨x, hx⟩ := z.there
    rw [hp] at hx
    cases hx
/-- a free place is no lent object's -/
theorem St.nrf {p : Addr} (S : St K B ρ σ F H) (hp : H p = none) : ∀ i ∈ B.L, B.rf i ≠ some p := fun i hi e => by
  obtain ⟨e1, e2⟩ := S.refs i hi p e
  have sl := S.slot i
  obtain ⟨c, hc⟩ := e2
  rw [hc] at sl
  obtain ⟨q, e3, _, z⟩ := sl
  rw [e1] at e3
  cases e3
  obtain ⟨x, hx⟩ := z.there
  rw [hp] at hx
  cases hx
end
end Dl
end

-- text D2
section
set_option Elab.async false
set_option linter.all false
set_option maxRecDepth 100000
set_option maxHeartbeats 1000000
/-! Dl, part 2: the judgements; operators. -/
namespace Dl
open PySem L2

/-- how an exception of ours lies in the heap -/
def XR (K : PySem.W.Frag) (mg : Str → Option Value) (F H : Hp) (x : Exn) (cls : Value) (d : Option Addr) : Prop :=
  ∃ (C dd : Addr) (v : V), cls = .ref C ∧ mg x.cls = some (.ref C) ∧ d = some dd ∧ H dd = some (.xd [("word", .str x.cls), ("place", v)]) ∧ Rp K F x.place v

def Wp (K : PySem.W.Frag) (mg : Str → Option Value) (W : WX) (B : Bs) (σ : L2.St) (r : R Val) (F : Hp) (Q : VK) : Prop :=
  match r with
  | .ok v ρ' => ∀ F' H' u, St K B ρ' σ F' H' → Same F F' → VR K B ρ' σ F' H' u v → Q u H'
  | .ex x ρ' => ∀ F' H' cls d, St K B ρ' σ F' H' → Same F F' → XR K mg F' H' x cls d → W cls d σ H'
  | .no => False

def tD (K : PySem.W.Frag) (mg : Str → Option Value) (W : WX) (m : M Val) : TE := fun σ H Q => ∃ (B : Bs) (ρ : En) (F : Hp), St K B ρ σ F H ∧ Wp K mg W B σ (m ρ) F Q

/-- e means m -/
abbrev ED (X : Cx) (W : WX) (e : Expr) (m : M Val) : Prop := PE X e (tD X.K X.mg W m)

section
variable {K : PySem.W.Frag} {mg : Str → Option Value} {W : WX} {B : Bs} {σ : L2.St} {F F' H H' : Hp} {Q Q' : VK} {ρ ρ' : En}

theorem Wp.split {r : R Val} {f : Val → En → R Val} (h : Wp K mg W B σ (r.bnd f) F Q) :
    Wp K mg W B σ r F (fun u H' => ∃ v ρ' F', r = .ok v ρ' ∧ St K B ρ' σ F' H' ∧ Same F F' ∧ VR K B ρ' σ F' H' u v ∧ Wp K mg W B σ (f v ρ') F' Q) := by
  cases r with
  | no => exact h
  | ex x ρ' => exact h
  | ok v ρ' =>
    intro F' H' u S sm vr
    refine ⟨v, ρ', F', rfl, S, sm, vr, ?_⟩
    have h' : Wp K mg W B σ (f v ρ') F Q := h
    cases hf : f v ρ' with
    | no => rw [hf] at h'; exact h'
    | ok a ρ2 =>
      rw [hf] at h'
      exact fun F2 H2 u2 S2 s2 v2 => h' F2 H2 u2 S2 (sm.trans s2) v2
    | ex x ρ2 =>
      rw [hf] at h'
      exact fun F2 H2 c d S2 s2 v2 => h' F2 H2 c d S2 (sm.trans s2) v2
theorem Wp.mono {r : R Val} (h : Wp K mg W B σ r F Q) (q : ∀ u H, Q u H → Q' u H) : Wp K mg W B σ r F Q' := by
  cases r with
  | no => exact h
  | ex x ρ' => exact h
  | ok v ρ' => exact fun F' H' u S sm vr => q _ _ (h F' H' u S sm vr)
theorem Wp.okI {v : Val} {u : V} (h : Wp K mg W B σ (.ok v ρ) F Q) (S : St K B ρ σ F H) (vr : VR K B ρ σ F H u v) : Q u H := h F H u S (Same.refl F) vr

/-! ### settling -/
/-- a new object is settled; the rest stays -/
def stow : Val → M Val
  | .cel (.lst ds), ρ => .ok (.dat (.list ds)) ρ
  | .cel _, _ => .no
  | v, ρ => .ok v ρ
def settleS (i : Nat) (ρ : En) : R Dat :=
  match gt ρ i with
  | .dat d => .ok d ρ
  | .cel false (.lst ds) => .ok (.list ds) (pt ρ i (.dat (.list ds)))
  | _ => .no
def settle : Val → M Dat
  | .dat d, ρ => .ok d ρ
  | .cel (.lst ds), ρ => .ok (.list ds) ρ
  | .cel _, _ => .no
  | .bor i, ρ => settleS i ρ
/-- what it stands for at this moment -/
def look (v : Val) : M Dat := fun ρ =>
  match rd ρ v with
  | some d => .ok d ρ
  | none => .no

/-- a value that is no new object -/
def VS (K : PySem.W.Frag) (F : Hp) (σ : L2.St) (u : V) : Val → Prop
  | .dat d => Rp K F d u
  | .bor i => σ[i]? = some (some u)
  | .cel _ => False
theorem VS.mono {v : Val} {u : V} (s : Same F F') (h : VS K F σ u v) : VS K F' σ u v := by
  cases v with
  | dat d => exact Rp.mono s h
  | bor i => exact h
  | cel c => exact h
theorem VS.vr {v : Val} {u : V} (h : VS K F σ u v) : VR K B ρ σ F H u v := by
  cases v with
  | dat d => exact h
  | bor i => exact h
  | cel c => exact h.elim
theorem newLst {u : V} {ds : List Dat} (S : St K B ρ σ F H) (vr : VR K B ρ σ F H u (.cel (.lst ds))) : ∃ F', St K B ρ σ F' H ∧ Same F F' ∧ Rp K F' (.list ds) u := by
  obtain ⟨p, rfl, f, b, ⟨vs, hp, q⟩, nc, nr⟩ := vr
  obtain ⟨S', sm⟩ := S.settle f hp (.inl b) nc
  refine ⟨_, S', sm, ?_⟩
  unfold Rp
  exact ⟨p, vs, rfl, upd_same, q.mono sm⟩
theorem stow_ok {v v' : Val} {u : V} (S : St K B ρ σ F H) (vr : VR K B ρ σ F H u v) (e : stow v ρ = .ok v' ρ') : ρ' = ρ ∧ ∃ F', St K B ρ σ F' H ∧ Same F F' ∧ VS K F' σ u v' := by
  cases v with
  | dat d =>
    cases (show R.ok (Val.dat d) ρ = .ok v' ρ' from e)
    exact ⟨rfl, F, S, Same.refl F, vr⟩
  | bor i =>
    cases (show R.ok (Val.bor i) ρ = .ok v' ρ' from e)
    exact ⟨rfl, F, S, Same.refl F, vr⟩
  | cel c =>
    cases c with
    | lst ds =>
      cases (show R.ok (Val.dat (.list ds)) ρ = .ok v' ρ' from e)
      obtain ⟨F', S', sm, q⟩ := newLst S vr
      exact ⟨rfl, F', S', sm, q⟩
    | dcK _ => cases e
    | dcT _ => cases e
theorem stow_noex {v : Val} {x : Exn} (e : stow v ρ = .ex x ρ') : False := by
  cases v with
  | dat d => cases e
  | bor i => cases e
  | cel c => cases c <;> cases e
theorem settle_ok {v : Val} {u : V} {d : Dat} (S : St K B ρ σ F H) (vr : VR K B ρ σ F H u v) (e : settle v ρ = .ok d ρ') : ∃ F', St K B ρ' σ F' H ∧ Same F F' ∧ Rp K F' d u := by
  cases v with
  | dat d' =>
    cases (show R.ok d' ρ = .ok d ρ' from e)
    exact ⟨F, S, Same.refl F, vr⟩
  | cel c =>
    cases c with
    | lst ds =>
      cases (show R.ok (PyData.list ds) ρ = .ok d ρ' from e)
      exact newLst S vr
    | dcK _ => cases e
    | dcT _ => cases e
  | bor i =>
    have eu : σ[i]? = some (some u) := vr
    have e' : settleS i ρ = .ok d ρ' := e
    unfold settleS at e'
    cases hg : gt ρ i with
    | un => rw [hg] at e'; cases e'
    | scr _ => rw [hg] at e'; cases e'
    | dat d' =>
      rw [hg] at e'
      cases e'
      have sl := S.slot i
      rw [hg] at sl
      obtain ⟨w, e2, q⟩ := sl
      rw [eu] at e2
      cases e2
      exact ⟨F, S, Same.refl F, q⟩
    | cel bk c =>
      rw [hg] at e'
      cases bk with
      | true => cases e'
      | false =>
        cases c with
        | lst ds =>
          cases e'
          exact S.settleSlot hg eu
        | dcK _ => cases e'
        | dcT _ => cases e'
theorem settle_noex {v : Val} {x : Exn} (e : settle v ρ = .ex x ρ') : False := by
  cases v with
  | dat d => cases e
  | cel c => cases c <;> cases e
  | bor i =>
    have e' : settleS i ρ = .ex x ρ' := e
    unfold settleS at e'
    split at e' <;> cases e'
theorem look_ok {v : Val} {d : Dat} (e : look v ρ = .ok d ρ') : ρ' = ρ ∧ rd ρ v = some d := by
  unfold look at e
  cases h : rd ρ v with
  | none => rw [h] at e; cases e
  | some x => rw [h] at e; cases e; exact ⟨rfl, rfl⟩

/-! ### what an operation hands back -/
/-- res, made over the heap H: settled data that is there; a new tuple; a new list; a new dict -/
def FinR (K : PySem.W.Frag) (F H : Hp) (res : Val) (z : V) (H' : Hp) : Prop :=
  match res with
  | .dat d => (H' = H ∧ Rp K F d z) ∨ ∃ p ds vs, d = .tuple ds ∧ z = .ref p ∧ H p = none ∧ H' = upd H p (.tup vs) ∧ RpA K F ds vs
  | .cel (.lst ds) => ∃ p vs, z = .ref p ∧ H p = none ∧ H' = upd H p (.lst vs) ∧ RpA K F ds vs
  | .cel (.dcK kvs) => ∃ p us, z = .ref p ∧ H p = none ∧ H' = upd H p (.dK us) ∧ KvR K F kvs us
  | .cel (.dcT kvs) => ∃ p us, z = .ref p ∧ H p = none ∧ H' = upd H p (.dT us) ∧ KvR K F kvs us
  | .bor _ => False
theorem fin_new {c : Cel} {p : Addr} {o : HO} (S : St K B ρ σ F H) (hp : H p = none) (ca : CelAt K F (upd H p o) p c) : St K B ρ σ F (upd H p o) ∧ VR K B ρ σ F (upd H p o) (.ref p) (.cel c) := by
  have hF : F p = none := by
    cases e : F p with
    | none => rfl
    | some x => rw [S.sub _ _ e] at hp; cases hp
  have nr := S.nrf hp
  refine ⟨S.grow hp, p, rfl, hF, ?_, ca, fun i bk c' hi e => ?_, nr⟩
  · cases e : B.H0 p with
    | none => rfl
    | some x =>
      rw [S.keep p x e nr] at hp
      cases hp
  · have sl := S.slot i
    rw [hi] at sl
    obtain ⟨q, e1, _, z⟩ := sl
    rw [e] at e1
    cases e1
    obtain ⟨x, hx⟩ := z.there
    rw [hp] at hx
    cases hx
theorem FinR.to {res : Val} {z : V} (S : St K B ρ σ F H) (h : FinR K F H res z H') : ∃ F', St K B ρ σ F' H' ∧ Same F F' ∧ VR K B ρ σ F' H' z res := by
  cases res with
  | bor i => exact h.elim
  | dat d =>
    rcases h with ⟨rfl, q⟩ | ⟨p, ds, vs, rfl, rfl, hp, rfl, q⟩
    · exact ⟨F, S, Same.refl F, q⟩
    · obtain ⟨S', sm⟩ := S.fresh (o := .tup vs) hp (S.nrf hp)
      refine ⟨_, S', sm, ?_⟩
      show Rp K _ (.tuple ds) (.ref p)
      unfold Rp
      exact ⟨p, vs, rfl, SqT.of upd_same, q.mono sm⟩
  | cel c =>
    cases c with
    | lst ds =>
      obtain ⟨p, vs, rfl, hp, rfl, q⟩ := h
      obtain ⟨S', v⟩ := fin_new (c := .lst ds) S hp ⟨vs, upd_same, q⟩
      exact ⟨F, S', Same.refl F, v⟩
    | dcK ds =>
      obtain ⟨p, vs, rfl, hp, rfl, q⟩ := h
      obtain ⟨S', v⟩ := fin_new (c := .dcK ds) S hp ⟨vs, upd_same, q⟩
      exact ⟨F, S', Same.refl F, v⟩
    | dcT ds =>
      obtain ⟨p, vs, rfl, hp, rfl, q⟩ := h
      obtain ⟨S', v⟩ := fin_new (c := .dcT ds) S hp ⟨vs, upd_same, q⟩
      exact ⟨F, S', Same.refl F, v⟩
/-- the end of an operation -/
theorem Wp.fin {res : Val} {z : V} (h : Wp K mg W B σ (.ok res ρ) F Q) (S : St K B ρ σ F H) (f : FinR K F H res z H') : Q z H' := by
  obtain ⟨F', S', sm, vr⟩ := f.to S
  exact h F' H' z S' sm vr
end

/-! ### names, constants -/
section
variable {X : Cx} {W : WX} {e a b c : Expr} {m m1 m2 m3 : M Val} {pos : Pos}

def eVar (i : Nat) : M Val := fun ρ =>
  match gt ρ i with
  | .dat d => .ok (.dat d) ρ
  | .cel _ _ => .ok (.bor i) ρ
  | _ => .no
theorem ed_var (i : Nat) {x : Str} {pos : Pos} (hN : X.N[i]? = some x := by rfl) (hv : Vis X.env.scope x := by first | exact Or.inl rfl | exact Or.inr (Or.inl rfl) | exact Or.inr (Or.inr rfl)) (hd : (x == ("__debug__" : Str)) = false := by decide)
    (hcd : (x == ("__classdict__" : Str)) = false := by decide) : ED X W (.Name x pos) (eVar i) := by
  refine ⟨fun pins s σ H Q I ⟨B, ρ, F, S, h⟩ => ?_⟩
  refine (pe_var hN hv hd hcd).run pins s σ H Q I ?_
  have sl := S.slot i
  unfold eVar at h
  cases hg : gt ρ i with
  | un => rw [hg] at h; exact h.elim
  | scr ns => rw [hg] at h; exact h.elim
  | dat d =>
    rw [hg] at h sl
    obtain ⟨v, e, q⟩ := sl
    exact ⟨v, e, h.okI S q⟩
  | cel bk c =>
    rw [hg] at h sl
    obtain ⟨p, e, _⟩ := sl
    exact ⟨_, e, h.okI S e⟩

def eC (d : Dat) : M Val := fun ρ => .ok (.dat d) ρ
theorem rp_none {K : PySem.W.Frag} {F : Hp} : Rp K F .none .non := by unfold Rp; rfl
theorem rp_int {K : PySem.W.Frag} {F : Hp} {i : Int} : Rp K F (.int i) (.int i) := by unfold Rp; rfl
theorem rp_str {K : PySem.W.Frag} {F : Hp} {i : Str} : Rp K F (.str i) (.str i) := by unfold Rp; rfl
theorem rp_bl {K : PySem.W.Frag} {F : Hp} {i : Bool} : Rp K F (.bool i) (.bl i) := by unfold Rp; rfl
theorem ed_c {d : Dat} {v : V} (h : PE X e (tC v)) (r : ∀ F : Hp, Rp X.K F d v) : ED X W e (eC d) :=
  ⟨fun pins s σ H Q I ⟨B, ρ, F, S, hw⟩ => h.run pins s σ H Q I (hw.okI S (r F))⟩
theorem ed_int {i j} : ED X W (.Constant (.int i) j pos) (eC (.int i)) := ed_c pe_int fun _ => rp_int
theorem ed_bl {i j} : ED X W (.Constant (.bool i) j pos) (eC (.bool i)) := ed_c pe_bl fun _ => rp_bl
theorem ed_none {j} : ED X W (.Constant .none j pos) (eC .none) := ed_c pe_non fun _ => rp_none
theorem ed_str {i j} : ED X W (.Constant (.str i) j pos) (eC (.str i)) := ed_c pe_str fun _ => rp_str
/-- a module's constant -/
theorem ed_glob {x : Str} {d : Dat} {v : V} {u : Value} (hg : Gl X x) (hm : X.mg x = some u) (r : RelV v u) (q : ∀ F : Hp, Rp X.K F d v) (hd : (x == ("__debug__" : Str)) = false := by decide) : ED X W (.Name x pos) (eC d) := ed_c (pe_glob hg hm r hd) q

/-! ### operators -/
/-- two values, from the left -/
def two {α : Type} (m1 m2 : M Val) (k : Val → Val → M α) : M α := fun ρ => (m1 ρ).bnd fun v1 ρ1 => (stow v1 ρ1).bnd fun v1 ρ1 => (m2 ρ1).bnd fun v2 ρ2 => k v1 v2 ρ2
abbrev P2 := Dat → Dat → Option Val
def eBin (g : P2) (m1 m2 : M Val) : M Val := two m1 m2 fun v1 v2 ρ =>
  match rd ρ v1, rd ρ v2 with
  | some d1, some d2 => (match g d1 d2 with
    | some r => .ok r ρ
    | none => .no)
  | _, _ => .no
/-- g is what the operation does on data -/
def OpD (X : Cx) (f : Value → Value → Sem Value) (g : P2) : Prop :=
  OpR X f fun x y H Q => ∃ (F : Hp) (d1 d2 : Dat) (res : Val), Same F H ∧ RT X.K F H d1 x ∧ RT X.K F H d2 y ∧ g d1 d2 = some res ∧ ∀ z H', FinR X.K F H res z H' → Q z H'

/-- the heart of operators on two values: from both parts' meanings to any reading of both values -/
theorem two_ok {K : PySem.W.Frag} {mg : Str → Option Value} {σ : L2.St} {H : Hp} {Q : VK} {k : Val → Val → M Val} {R2' : V → V → Hp → Prop} (h : tD K mg W (two m1 m2 k) σ H Q)
    (fin : ∀ (B : Bs) (ρ : En) (F H2 : Hp) (x y : V) (v1 v2 : Val), St K B ρ σ F H2 → VS K F σ x v1 → VR K B ρ σ F H2 y v2 → Wp K mg W B σ (k v1 v2 ρ) F Q → R2' x y H2) :
    tD K mg W m1 σ H fun x H1 => tD K mg W m2 σ H1 fun y H2 => R2' x y H2 := by
  obtain ⟨B, ρ, F, S, h⟩ := h
  refine ⟨B, ρ, F, S, (Wp.split h).mono fun x H1 ⟨v1, ρ1, F1, _, S1, _, vr1, h1⟩ => ?_⟩
  cases hs : stow v1 ρ1 with
  | no => rw [hs] at h1; exact h1.elim
  | ex z ρz => exact (stow_noex hs).elim
  | ok v1' ρ1' =>
    rw [hs] at h1
    obtain ⟨rfl, F2, S2, sm, vs⟩ := stow_ok S1 vr1 hs
    have h2 : Wp K mg W B σ ((m2 ρ1').bnd fun v2 ρ2 => k v1' v2 ρ2) F1 Q := h1
    have h3 : Wp K mg W B σ ((m2 ρ1').bnd fun v2 ρ2 => k v1' v2 ρ2) F2 Q := by
      cases hr : (m2 ρ1').bnd fun v2 ρ2 => k v1' v2 ρ2 with
      | no => rw [hr] at h2; exact h2
      | ok a b => rw [hr] at h2; exact fun F' H' u S' s' v' => h2 F' H' u S' (sm.trans s') v'
      | ex a b => rw [hr] at h2; exact fun F' H' u d S' s' v' => h2 F' H' u d S' (sm.trans s') v'
    refine ⟨B, ρ1', F2, S2, (Wp.split h3).mono fun y H2 ⟨v2, ρ2, F3, _, S3, sm3, vr2, h4⟩ => ?_⟩
    exact fin B ρ2 F3 H2 x y v1' v2 S3 (vs.mono sm3) vr2 h4
theorem bin_end {K : PySem.W.Frag} {mg : Str → Option Value} {B : Bs} {ρ : En} {σ : L2.St} {F H : Hp} {Q : VK} {g : P2} {x y : V} {v1 v2 : Val} (S : St K B ρ σ F H) (a : VS K F σ x v1) (b : VR K B ρ σ F H y v2)
    (h : Wp K mg W B σ (match rd ρ v1, rd ρ v2 with
      | some d1, some d2 => (match g d1 d2 with
        | some r => .ok r ρ
        | none => .no)
      | _, _ => .no) F Q) :
    ∃ (F : Hp) (d1 d2 : Dat) (res : Val), Same F H ∧ RT K F H d1 x ∧ RT K F H d2 y ∧ g d1 d2 = some res ∧ ∀ z H', FinR K F H res z H' → Q z H' := by
  cases e1 : rd ρ v1 with
  | none => rw [e1] at h; exact h.elim
  | some d1 =>
    cases e2 : rd ρ v2 with
    | none => rw [e1, e2] at h; exact h.elim
    | some d2 =>
      rw [e1, e2] at h
      cases eg : g d1 d2 with
      | none =>
        have h' : Wp K mg W B σ (match g d1 d2 with
          | some r => .ok r ρ
          | none => .no) F Q := h
        rw [eg] at h'
        exact h'.elim
      | some res =>
        have h' : Wp K mg W B σ (match g d1 d2 with
          | some r => .ok r ρ
          | none => .no) F Q := h
        rw [eg] at h'
        exact ⟨F, d1, d2, res, S.sub, rd_ok S a.vr e1, rd_ok S b e2, eg, fun z H' f => h'.fin S f⟩
theorem ed_bin {op : Operator} {g : P2} (ho : OpD X (binaryOp op) g) (ha : ED X W a m1) (hb : ED X W b m2) : ED X W (.BinOp a op b pos) (eBin g m1 m2) := by
  refine ⟨fun pins s σ H Q I h => (pe_op ho ha hb).run pins s σ H Q I ?_⟩
  exact two_ok h fun B ρ F H2 x y v1 v2 S a b w => bin_end S a b w
theorem ed_cmp {op : CmpOp} {g : P2} (ho : OpD X (compareOp op) g) (ha : ED X W a m1) (hb : ED X W b m2) (hm : behindInMarks op b = false) : ED X W (.Compare a [op] [b] pos) (eBin g m1 m2) := by
  refine ⟨fun pins s σ H Q I h => (pe_cmpR ho ha hb hm).run pins s σ H Q I ?_⟩
  exact two_ok h fun B ρ F H2 x y v1 v2 S a b w => bin_end S a b w
end
end Dl
end

-- text D3
section
set_option Elab.async false
set_option linter.all false
set_option maxRecDepth 100000
set_option maxHeartbeats 1000000
/-! Dl, part 3: what operators do on data. -/
namespace Dl
open PySem L2

/-- from a rule of the hand layer, case by case -/
theorem opD_of {X : Cx} {f : Value → Value → Sem Value} {g : P2}
    (h : ∀ (F H : Hp) (d1 d2 : Dat) (res : Val) (x y : V), Same F H → RT X.K F H d1 x → RT X.K F H d2 y → g d1 d2 = some res →
      ∃ r : R2, OpR X f r ∧ ∀ Q : VK, (∀ z H', FinR X.K F H res z H' → Q z H') → r x y H Q) : OpD X f g := by
  intro pins s σ H x y v u Q I rx ry ⟨F, d1, d2, res, sm, h1, h2, e, q⟩
  obtain ⟨r, hr, hq⟩ := h F H d1 d2 res x y sm h1 h2 e
  exact hr pins s σ H x y v u Q I rx ry (hq Q q)

section
variable {X : Cx} {K : PySem.W.Frag} {F H : Hp} {v x : V}
theorem rt_none (h : RT K F H .none x) : x = .non := by have q : Rp K F .none x := h; unfold Rp at q; exact q
theorem rt_int {i : Int} (h : RT K F H (.int i) x) : x = .int i := by have q : Rp K F (.int i) x := h; unfold Rp at q; exact q
theorem rt_bl {i : Bool} (h : RT K F H (.bool i) x) : x = .bl i := by have q : Rp K F (.bool i) x := h; unfold Rp at q; exact q
theorem rt_str {i : Str} (h : RT K F H (.str i) x) : x = .str i := by have q : Rp K F (.str i) x := h; unfold Rp at q; exact q
theorem rt_tup {ds : List Dat} (h : RT K F H (.tuple ds) x) : ∃ a xs, x = .ref a ∧ SqT K F a xs ∧ RpA K F ds xs := by have q : Rp K F (.tuple ds) x := h; unfold Rp at q; exact q
theorem rt_lst {ds : List Dat} (h : RT K F H (.list ds) x) : ∃ a xs, x = .ref a ∧ H a = some (.lst xs) ∧ RpA K F ds xs := h
theorem rt_dct {ds : List (Dat × Dat)} (h : RT K F H (.dict ds) x) : False := by have q : Rp K F (.dict ds) x := h; unfold Rp at q; exact q
theorem fin_dat {d : Dat} {z : V} (h : Rp K F d z) : FinR K F H (.dat d) z H := .inl ⟨rfl, h⟩
theorem fin_int {i : Int} : FinR K F H (.dat (.int i)) (.int i) H := fin_dat rp_int
theorem fin_bl {i : Bool} : FinR K F H (.dat (.bool i)) (.bl i) H := fin_dat rp_bl
theorem fin_str {i : Str} : FinR K F H (.dat (.str i)) (.str i) H := fin_dat rp_str
theorem fin_none : FinR K F H (.dat .none) .non H := fin_dat rp_none
theorem fin_lst {ds : List Dat} {vs : List V} {p : Addr} (hp : H p = none) (h : RpA K F ds vs) : FinR K F H (.cel (.lst ds)) (.ref p) (upd H p (.lst vs)) := ⟨p, vs, rfl, hp, rfl, h⟩
theorem fin_tup {ds : List Dat} {vs : List V} {p : Addr} (hp : H p = none) (h : RpA K F ds vs) : FinR K F H (.dat (.tuple ds)) (.ref p) (upd H p (.tup vs)) := .inr ⟨p, ds, vs, rfl, rfl, hp, rfl, h⟩
theorem rp_tup {ds : List Dat} {vs : List V} {p : Addr} (hp : SqT K F p vs) (h : RpA K F ds vs) : Rp K F (.tuple ds) (.ref p) := by unfold Rp; exact ⟨p, vs, rfl, hp, h⟩
end

/-! ### + - * // % -/
def gAdd : P2
  | .int i, .int j => some (.dat (.int (i + j)))
  | .str x, .str y => if x.length + y.length ≤ sizeLine then some (.dat (.str (x ++ y))) else none
  | .list xs, .list ys => if xs.length + ys.length ≤ sizeLine then some (.cel (.lst (xs ++ ys))) else none
  | .tuple xs, .tuple ys => if xs.length + ys.length ≤ sizeLine then some (.dat (.tuple (xs ++ ys))) else none
  | _, _ => none
theorem op_gAdd {X : Cx} : OpD X (binaryOp .Add) gAdd := opD_of fun F H d1 d2 res x y sm h1 h2 e => by
  cases d1 <;> cases d2 <;> first | (cases e; done) | skip
  · cases e
    obtain rfl := rt_int h1
    obtain rfl := rt_int h2
    exact ⟨_, op_add, fun Q q => ⟨_, _, rfl, rfl, q _ _ fin_int⟩⟩
  · rename_i a b
    obtain rfl := rt_str h1
    obtain rfl := rt_str h2
    by_cases c : a.length + b.length ≤ sizeLine
    · have e' : (if a.length + b.length ≤ sizeLine then some (Val.dat (.str (a ++ b))) else none) = some res := e
      rw [if_pos c] at e'
      cases e'
      exact ⟨_, op_add_str, fun Q q => ⟨_, _, rfl, rfl, c, q _ _ fin_str⟩⟩
    · have e' : (if a.length + b.length ≤ sizeLine then some (Val.dat (.str (a ++ b))) else none) = some res := e
      rw [if_neg c] at e'
      cases e'
  · rename_i a b
    obtain ⟨p, xs, rfl, hp, r1⟩ := rt_lst h1
    obtain ⟨p2, ys, rfl, hp2, r2⟩ := rt_lst h2
    have e' : (if a.length + b.length ≤ sizeLine then some (Val.cel (.lst (a ++ b))) else none) = some res := e
    by_cases c : a.length + b.length ≤ sizeLine
    · rw [if_pos c] at e'
      cases e'
      exact ⟨_, op_cat, fun Q q => ⟨_, _, _, _, rfl, rfl, hp, hp2, by rw [r1.len, r2.len]; exact c, fun p3 hp3 => q _ _ (fin_lst hp3 (r1.app r2))⟩⟩
    · rw [if_neg c] at e'
      cases e'
  · rename_i a b
    obtain ⟨p, xs, rfl, hp, r1⟩ := rt_tup h1
    obtain ⟨p2, ys, rfl, hp2, r2⟩ := rt_tup h2
    have e' : (if a.length + b.length ≤ sizeLine then some (Val.dat (.tuple (a ++ b))) else none) = some res := e
    by_cases c : a.length + b.length ≤ sizeLine
    · rw [if_pos c] at e'
      cases e'
      refine ⟨_, op_catA, fun Q q => ⟨_, _, _, _, rfl, rfl, same_t sm hp, same_t sm hp2, by rw [r1.len, r2.len]; exact c, fun ez => ?_, fun _ ez => ?_, fun _ _ p3 hp3 => q _ _ (fin_tup hp3 (r1.app r2))⟩⟩
      · subst ez
        have l := r1.len
        cases a with
        | nil => exact q _ _ (fin_dat (rp_tup hp2 r2))
        | cons _ _ => cases l
      · subst ez
        have l := r2.len
        cases b with
        | nil => exact q _ _ (fin_dat (by rw [List.append_nil]; exact rp_tup hp r1))
        | cons _ _ => cases l
    · rw [if_neg c] at e'
      cases e'

def gSub : P2
  | .int i, .int j => some (.dat (.int (i - j)))
  | _, _ => none
theorem op_gSub {X : Cx} : OpD X (binaryOp .Sub) gSub := opD_of fun F H d1 d2 res x y sm h1 h2 e => by
  cases d1 <;> cases d2 <;> first | (cases e; done) | skip
  cases e
  obtain rfl := rt_int h1
  obtain rfl := rt_int h2
  exact ⟨_, op_sub, fun Q q => ⟨_, _, rfl, rfl, q _ _ fin_int⟩⟩

def repS (x : Str) (n : Int) : Str := if n < 1 then Str.empty else if (n == 1 || x.length == 0) = true then x else ⟨(List.replicate n.toNat x.cps).foldl (· ++ ·) #[]⟩
def mulOk (i j : Int) : Bool := decide (i.natAbs.log2 + j.natAbs.log2 < 1000000)
def gMul : P2
  | .int i, .int j => if mulOk i j then some (.dat (.int (i * j))) else none
  | .str x, .int n => if n ≤ 1000000 ∧ -1000000 ≤ n ∧ x.length * n.toNat ≤ sizeLine then some (.dat (.str (repS x n))) else none
  | .list xs, .int n => if n ≤ 1000000 ∧ -1000000 ≤ n ∧ xs.length * n.toNat ≤ sizeLine then some (.cel (.lst (List.replicate n.toNat xs).flatten)) else none
  | .tuple xs, .int n => if xs ≠ [] ∧ 2 ≤ n ∧ n ≤ 1000 ∧ xs.length ≤ 1000 then some (.dat (.tuple (List.replicate n.toNat xs).flatten)) else none
  | _, _ => none
theorem RpA.rep {K : PySem.W.Frag} {F : Hp} {ds : List Dat} {vs : List V} (h : RpA K F ds vs) : ∀ n : Nat, RpA K F (List.replicate n ds).flatten (List.replicate n vs).flatten
  | 0 => by simp; exact .nil
  | n + 1 => by
    simp only [List.replicate_succ, List.flatten_cons]
    exact h.app (h.rep n)
def rRepS : R2 := fun x y H Q => ∃ a n, x = .str a ∧ y = .int n ∧ n ≤ 1000000 ∧ -1000000 ≤ n ∧ a.length * n.toNat ≤ sizeLine ∧ Q (.str (repS a n)) H
theorem op_repS {X : Cx} : OpR X (binaryOp .Mult) rRepS := by
  intro pins s σ H x y v u Q I rx ry ⟨a, n, e1, e2, h1, h2, h3, q⟩
  subst e1 e2
  obtain ⟨t, rfl⟩ := rx
  obtain ⟨t', rfl⟩ := ry
  have hz := sizeLine_eq
  have nl : ¬ n < 1 → (n == 1 || a.length == 0) = false → Builtin.Str.tooLong (a.length * n.toNat) = false := fun _ _ => by
    have hp : (sizeLine : Nat) < 2 ^ 62 := by rw [hz]; decide
    unfold Builtin.Str.tooLong
    simp
    omega
  refine PySem.P.mul_str (by rw [decide_eq_false (by omega), decide_eq_false (by omega)]; rfl) (fun h _ hb => ?_) nl ?_
  · have hn : 0 < n := by omega
    have : (2 ^ 63 - 1 : Int) / n ≥ (2 ^ 63 - 1) / 1000000 := by
      refine Int.le_ediv_of_mul_le hn ?_
      have : ((2 ^ 63 - 1 : Int) / 1000000) * n ≤ (2 ^ 63 - 1) / 1000000 * 1000000 := Int.mul_le_mul_of_nonneg_left h1 (by decide)
      have h9 : ((2 ^ 63 - 1 : Int) / 1000000) * 1000000 ≤ 2 ^ 63 - 1 := by decide
      omega
    have hl : a.length ≤ sizeLine := by
      have : 1 ≤ n.toNat := by omega
      exact Nat.le_trans (Nat.le_mul_of_pos_right _ this) h3
    have h9 : ((2 ^ 63 - 1 : Int) / 1000000) = 9223372036854 := by decide
    rw [h9] at this
    rw [hz] at hl
    omega
  · unfold repS at q
    by_cases c : n < 1
    · rw [if_pos c] at q ⊢
      exact ⟨by show Str.empty.length ≤ sizeLine; decide, .str _, H, I.tok _, ⟨_, rfl⟩, q⟩
    · rw [if_neg c] at q ⊢
      by_cases c2 : (n == 1 || a.length == 0) = true
      · rw [if_pos c2] at q ⊢
        exact ⟨.str a, H, I, ⟨t, rfl⟩, q⟩
      · rw [if_neg c2] at q ⊢
        refine ⟨?_, .str _, H, I.tok _, ⟨_, rfl⟩, q⟩
        have hl : ∀ (k : Nat) (acc : Array Nat), ((List.replicate k a.cps).foldl (· ++ ·) acc).size = acc.size + k * a.cps.size := by
          intro k
          induction k with
          | zero => intro acc; simp
          | succ k ih =>
            intro acc
            rw [List.replicate_succ, List.foldl_cons, ih, Array.size_append, Nat.succ_mul]
            omega
        show ((List.replicate n.toNat a.cps).foldl (· ++ ·) #[]).size ≤ sizeLine
        rw [hl]
        have : a.length * n.toNat ≤ sizeLine := h3
        rw [Nat.mul_comm] at this
        simpa [Str.length] using this
theorem mulOk_w {i j : Int} (h : mulOk i j = true) : CMulW i j := by
  have h' : i.natAbs.log2 + j.natAbs.log2 < 1000000 := of_decide_eq_true h
  exact h'
theorem op_gMul {X : Cx} : OpD X (binaryOp .Mult) gMul := opD_of fun F H d1 d2 res x y sm h1 h2 e => by
  cases d1 <;> cases d2 <;> first | (cases e; done) | skip
  · rename_i a b
    obtain rfl := rt_int h1
    obtain rfl := rt_int h2
    have e' : (if mulOk a b then some (Val.dat (.int (a * b))) else none) = some res := e
    by_cases c : mulOk a b
    · rw [if_pos c] at e'
      cases e'
      exact ⟨_, op_mulW, fun Q q => ⟨_, _, rfl, rfl, mulOk_w c, q _ _ fin_int⟩⟩
    · rw [if_neg c] at e'
      cases e'
  · rename_i a b
    obtain rfl := rt_str h1
    obtain rfl := rt_int h2
    have e' : (if b ≤ 1000000 ∧ -1000000 ≤ b ∧ a.length * b.toNat ≤ sizeLine then some (Val.dat (.str (repS a b))) else none) = some res := e
    split at e'
    · rename_i c
      cases e'
      exact ⟨_, op_repS, fun Q q => ⟨_, _, rfl, rfl, c.1, c.2.1, c.2.2, q _ _ fin_str⟩⟩
    · cases e'
  · rename_i a b
    obtain ⟨p, xs, rfl, hp, r1⟩ := rt_lst h1
    obtain rfl := rt_int h2
    have e' : (if b ≤ 1000000 ∧ -1000000 ≤ b ∧ a.length * b.toNat ≤ sizeLine then some (Val.cel (.lst (List.replicate b.toNat a).flatten)) else none) = some res := e
    split at e'
    · rename_i c
      cases e'
      exact ⟨_, op_rep, fun Q q => ⟨_, _, _, rfl, rfl, hp, by omega, by omega, by rw [r1.len]; exact c.2.2, fun p3 hp3 => q _ _ (fin_lst hp3 (r1.rep _))⟩⟩
    · cases e'
  · rename_i a b
    obtain ⟨p, xs, rfl, hp, r1⟩ := rt_tup h1
    obtain rfl := rt_int h2
    have e' : (if a ≠ [] ∧ 2 ≤ b ∧ b ≤ 1000 ∧ a.length ≤ 1000 then some (Val.dat (.tuple (List.replicate b.toNat a).flatten)) else none) = some res := e
    split at e'
    · rename_i c
      cases e'
      refine ⟨_, op_repT, fun Q q => ⟨_, _, _, rfl, rfl, same_t sm hp, fun z => ?_, c.2.1, c.2.2.1, by rw [r1.len]; exact c.2.2.2, fun p3 hp3 => q _ _ (fin_tup hp3 (r1.rep _))⟩⟩
      have l := r1.len
      rw [z] at l
      cases a with
      | nil => exact c.1 rfl
      | cons _ _ => cases l
    · cases e'

def gMod : P2
  | .int i, .int j => if 0 < j then some (.dat (.int (i % j))) else none
  | _, _ => none
theorem op_gMod {X : Cx} : OpD X (binaryOp .Mod) gMod := opD_of fun F H d1 d2 res x y sm h1 h2 e => by
  cases d1 <;> cases d2 <;> first | (cases e; done) | skip
  rename_i a b
  obtain rfl := rt_int h1
  obtain rfl := rt_int h2
  have e' : (if 0 < b then some (Val.dat (.int (a % b))) else none) = some res := e
  split at e'
  · rename_i c
    cases e'
    exact ⟨_, op_mod, fun Q q => ⟨_, _, rfl, rfl, c, q _ _ fin_int⟩⟩
  · cases e'
def gDiv : P2
  | .int i, .int j => if 0 < j ∧ j.natAbs.log2 < 9000 then some (.dat (.int (i / j))) else none
  | _, _ => none
theorem op_gDiv {X : Cx} : OpD X (binaryOp .FloorDiv) gDiv := opD_of fun F H d1 d2 res x y sm h1 h2 e => by
  cases d1 <;> cases d2 <;> first | (cases e; done) | skip
  rename_i a b
  obtain rfl := rt_int h1
  obtain rfl := rt_int h2
  have e' : (if 0 < b ∧ b.natAbs.log2 < 9000 then some (Val.dat (.int (a / b))) else none) = some res := e
  split at e'
  · rename_i c
    cases e'
    exact ⟨_, op_fdivW, fun Q q => ⟨_, _, rfl, rfl, c, q _ _ fin_int⟩⟩
  · cases e'
def gPow : P2
  | .int i, .int j => if 0 ≤ j ∧ j ≤ 1000000 ∧ i.natAbs < 2 ^ 64 then some (.dat (.int (i ^ j.toNat))) else none
  | _, _ => none
theorem op_gPow {X : Cx} : OpD X (binaryOp .Pow) gPow := opD_of fun F H d1 d2 res x y sm h1 h2 e => by
  cases d1 <;> cases d2 <;> first | (cases e; done) | skip
  rename_i a b
  obtain rfl := rt_int h1
  obtain rfl := rt_int h2
  have e' : (if 0 ≤ b ∧ b ≤ 1000000 ∧ a.natAbs < 2 ^ 64 then some (Val.dat (.int (a ^ b.toNat))) else none) = some res := e
  split at e'
  · rename_i c
    cases e'
    exact ⟨_, op_pow, fun Q q => ⟨_, _, rfl, rfl, c, q _ _ fin_int⟩⟩
  · cases e'

/-! ### comparisons -/
def okS (d : Dat) : Bool := SeqAt.shaped d
/-- is it an int or a text, and the other one, too -/
def sameK : Dat → Dat → Bool
  | .int _, .int _ => true
  | .str _, .str _ => true
  | _, _ => false
def gEq : P2 := fun d e => if (sameK d e || (okS d && okS e)) = true then some (.dat (.bool (PyData.eqv d e))) else none
def gNe : P2 := fun d e => if (sameK d e || (okS d && okS e)) = true then some (.dat (.bool (!PyData.eqv d e))) else none
theorem same_rt {K : PySem.W.Frag} {F H : Hp} {d e : Dat} {x y : V} (c : sameK d e = true) (h1 : RT K F H d x) (h2 : RT K F H e y) : scal x y = true ∧ decide (x = y) = PyData.eqv d e := by
  cases d <;> cases e <;> first | (cases c; done) | skip
  · rw [rt_int h1, rt_int h2]
    exact ⟨rfl, dec_int⟩
  · rw [rt_str h1, rt_str h2]
    refine ⟨rfl, ?_⟩
    rename_i a b
    simp only [PyData.eqv]
    rw [Bool.eq_iff_iff]
    simp
theorem op_gEq {X : Cx} (hu : X.A.units + 64 < cLine) : OpD X (compareOp .Eq) gEq := opD_of fun F H d1 d2 res x y sm h1 h2 e => by
  unfold gEq at e
  by_cases c : (sameK d1 d2 || (okS d1 && okS d2)) = true
  · rw [if_pos c] at e
    cases e
    by_cases c3 : sameK d1 d2 = true
    · obtain ⟨a, b⟩ := same_rt c3 h1 h2
      exact ⟨_, op_eq, fun Q q => ⟨a, by rw [b]; exact q _ _ fin_bl⟩⟩
    · rw [Bool.not_eq_true] at c3
      rw [c3, Bool.false_or] at c
      obtain ⟨c1, c2⟩ := Bool.and_eq_true_iff.mp c
      exact ⟨_, op_eqD hu, fun Q q => ⟨d1, d2, (h1.rp sm).dp, (h2.rp sm).dp, c1, c2, q _ _ fin_bl⟩⟩
  · rw [if_neg c] at e
    cases e
theorem op_gNe {X : Cx} (hu : X.A.units + 64 < cLine) : OpD X (compareOp .NotEq) gNe := opD_of fun F H d1 d2 res x y sm h1 h2 e => by
  unfold gNe at e
  by_cases c : (sameK d1 d2 || (okS d1 && okS d2)) = true
  · rw [if_pos c] at e
    cases e
    by_cases c3 : sameK d1 d2 = true
    · obtain ⟨a, b⟩ := same_rt c3 h1 h2
      exact ⟨_, op_ne, fun Q q => ⟨a, by rw [b]; exact q _ _ fin_bl⟩⟩
    · rw [Bool.not_eq_true] at c3
      rw [c3, Bool.false_or] at c
      obtain ⟨c1, c2⟩ := Bool.and_eq_true_iff.mp c
      exact ⟨_, op_neD hu, fun Q q => ⟨d1, d2, (h1.rp sm).dp, (h2.rp sm).dp, c1, c2, q _ _ fin_bl⟩⟩
  · rw [if_neg c] at e
    cases e
def gLt : P2
  | .int i, .int j => some (.dat (.bool (decide (i < j))))
  | .str x, .str y => some (.dat (.bool (decide (x.cps.toList < y.cps.toList))))
  | _, _ => none
theorem op_gLt {X : Cx} : OpD X (compareOp .Lt) gLt := opD_of fun F H d1 d2 res x y sm h1 h2 e => by
  cases d1 <;> cases d2 <;> first | (cases e; done) | skip
  · cases e
    obtain rfl := rt_int h1
    obtain rfl := rt_int h2
    exact ⟨_, op_lt, fun Q q => ⟨_, _, rfl, rfl, q _ _ fin_bl⟩⟩
  · cases e
    obtain rfl := rt_str h1
    obtain rfl := rt_str h2
    exact ⟨_, op_lt_str, fun Q q => ⟨_, _, rfl, rfl, q _ _ fin_bl⟩⟩
def gLe : P2
  | .int i, .int j => some (.dat (.bool (decide (i ≤ j))))
  | .str x, .str y => some (.dat (.bool (!decide (y.cps.toList < x.cps.toList))))
  | _, _ => none
theorem op_gLe {X : Cx} : OpD X (compareOp .LtE) gLe := opD_of fun F H d1 d2 res x y sm h1 h2 e => by
  cases d1 <;> cases d2 <;> first | (cases e; done) | skip
  · cases e
    obtain rfl := rt_int h1
    obtain rfl := rt_int h2
    exact ⟨_, op_le, fun Q q => ⟨_, _, rfl, rfl, q _ _ fin_bl⟩⟩
  · cases e
    obtain rfl := rt_str h1
    obtain rfl := rt_str h2
    exact ⟨_, op_le_str, fun Q q => ⟨_, _, rfl, rfl, q _ _ fin_bl⟩⟩
def gGt : P2
  | .int i, .int j => some (.dat (.bool (decide (j < i))))
  | .str x, .str y => some (.dat (.bool (decide (y.cps.toList < x.cps.toList))))
  | _, _ => none
theorem op_gGt {X : Cx} : OpD X (compareOp .Gt) gGt := opD_of fun F H d1 d2 res x y sm h1 h2 e => by
  cases d1 <;> cases d2 <;> first | (cases e; done) | skip
  · cases e
    obtain rfl := rt_int h1
    obtain rfl := rt_int h2
    exact ⟨_, op_gt, fun Q q => ⟨_, _, rfl, rfl, q _ _ fin_bl⟩⟩
  · cases e
    obtain rfl := rt_str h1
    obtain rfl := rt_str h2
    exact ⟨_, op_gt_str, fun Q q => ⟨_, _, rfl, rfl, q _ _ fin_bl⟩⟩
def gGe : P2
  | .int i, .int j => some (.dat (.bool (decide (j ≤ i))))
  | .str x, .str y => some (.dat (.bool (!decide (x.cps.toList < y.cps.toList))))
  | _, _ => none
theorem op_gGe {X : Cx} : OpD X (compareOp .GtE) gGe := opD_of fun F H d1 d2 res x y sm h1 h2 e => by
  cases d1 <;> cases d2 <;> first | (cases e; done) | skip
  · cases e
    obtain rfl := rt_int h1
    obtain rfl := rt_int h2
    exact ⟨_, op_ge, fun Q q => ⟨_, _, rfl, rfl, q _ _ fin_bl⟩⟩
  · cases e
    obtain rfl := rt_str h1
    obtain rfl := rt_str h2
    exact ⟨_, op_ge_str, fun Q q => ⟨_, _, rfl, rfl, q _ _ fin_bl⟩⟩

/-! is, is not: None alone -/
def isN : Dat → Bool
  | .none => true
  | _ => false
def gIs : P2 := fun d e => if isN e then some (.dat (.bool (isN d))) else none
def gIsNot : P2 := fun d e => if isN e then some (.dat (.bool (!isN d))) else none
theorem isN_eq {e : Dat} (h : isN e = true) : e = .none := by cases e <;> first | rfl | cases h
theorem isN_v {K : PySem.W.Frag} {F H : Hp} {d : Dat} {x : V} (h : RT K F H d x) : isN d = decide (x = .non) := by
  cases d with
  | none => rw [rt_none h]; rfl
  | bool _ => rw [rt_bl h]; rfl
  | int _ => rw [rt_int h]; rfl
  | str _ => rw [rt_str h]; rfl
  | list _ => obtain ⟨a, xs, rfl, _⟩ := rt_lst h; rfl
  | tuple _ => obtain ⟨a, xs, rfl, _⟩ := rt_tup h; rfl
  | dict _ => exact (rt_dct h).elim
theorem op_gIs {X : Cx} : OpD X (compareOp .Is) gIs := opD_of fun F H d1 d2 res x y sm h1 h2 e => by
  unfold gIs at e
  split at e
  · rename_i c
    cases e
    obtain rfl := isN_eq c
    obtain rfl := rt_none h2
    exact ⟨_, op_isN, fun Q q => ⟨rfl, by rw [← isN_v h1]; exact q _ _ fin_bl⟩⟩
  · cases e
theorem op_gIsNot {X : Cx} : OpD X (compareOp .IsNot) gIsNot := opD_of fun F H d1 d2 res x y sm h1 h2 e => by
  unfold gIsNot at e
  split at e
  · rename_i c
    cases e
    obtain rfl := isN_eq c
    obtain rfl := rt_none h2
    exact ⟨_, op_notN, fun Q q => ⟨rfl, by rw [← isN_v h1]; exact q _ _ fin_bl⟩⟩
  · cases e

/-! in, not in -/
def flatD : Dat → Bool
  | .none => true
  | .bool _ => true
  | .int _ => true
  | .str _ => true
  | _ => false
/-- one sign is in a text, or a text is -/
def inStr (x y : Str) : Bool :=
  if x.cps.size = 1 then decide (x.cps.getD 0 0 ∈ y.cps.toList) else !(Builtin.Str.occurrences y x 0 y.length 1).isEmpty
def isIn (d e : Dat) : Option Bool :=
  match e with
  | .list ds => if okS d && okS (.list ds) then some (ds.any fun z => PyData.eqv z d) else none
  | .tuple ds => if flatD d && ds.all flatD then some (ds.any fun z => PyData.eqv z d) else none
  | .str y => (match d with
    | .str x => some (inStr x y)
    | _ => none)
  | _ => none
def gIn : P2 := fun d e => (isIn d e).map fun b => .dat (.bool b)
def gNotIn : P2 := fun d e => (isIn d e).map fun b => .dat (.bool (!b))
theorem flat_eq {K : PySem.W.Frag} {F : Hp} {d e : Dat} {x y : V} (h1 : Rp K F d x) (h2 : Rp K F e y) (f1 : flatD d = true) (f2 : flatD e = true) : eqV x y = PyData.eqv d e := by
  cases d <;> cases e <;> first | (cases f1; done) | (cases f2; done) | (unfold Rp at h1 h2; subst h1 h2; rfl)
theorem flat_v {K : PySem.W.Frag} {F : Hp} {d : Dat} {x : V} (h1 : Rp K F d x) (f1 : flatD d = true) : flatV x = true := by
  cases d <;> first | (cases f1; done) | (unfold Rp at h1; subst h1; rfl)
theorem flat_all {K : PySem.W.Frag} {F : Hp} : ∀ {ds : List Dat} {vs : List V}, RpA K F ds vs → ds.all flatD = true → vs.all flatV = true
  | [], _, h, _ => by rw [h.nil_inv]; rfl
  | d :: ds, _, h, f => by
    obtain ⟨v, r, rfl, a, b⟩ := h.cons_inv
    rw [List.all_cons, Bool.and_eq_true] at f
    rw [List.all_cons, flat_v a f.1, flat_all b f.2]
    rfl
theorem flat_any {K : PySem.W.Frag} {F : Hp} {d : Dat} {x : V} (h1 : Rp K F d x) (f1 : flatD d = true) : ∀ {ds : List Dat} {vs : List V}, RpA K F ds vs → ds.all flatD = true → inV x vs = ds.any fun z => PyData.eqv z d
  | [], _, h, _ => by rw [h.nil_inv]; rfl
  | e :: ds, _, h, f => by
    obtain ⟨v, r, rfl, a, b⟩ := h.cons_inv
    rw [List.all_cons, Bool.and_eq_true] at f
    have ih := flat_any h1 f1 b f.2
    unfold inV at ih ⊢
    rw [List.any_cons, List.any_cons, ih, flat_eq a h1 f.1 f1]
theorem one_sign {x : Str} (h : x.cps.size = 1) : x = ⟨#[x.cps.getD 0 0]⟩ := by
  obtain ⟨⟨l⟩⟩ := x
  match l, h with
  | [c], _ => rfl
theorem in_cases {X : Cx} {op : CmpOp} {neg : Bool} (hD : OpR X (compareOp op) (if neg then rNotInD X.K else rInD X.K)) (hT : OpR X (compareOp op) (rIn X.K neg))
    (hS : OpR X (compareOp op) (fun x y H Q => ∃ i j, x = .str i ∧ y = .str j ∧ Q (.bl (if neg then !(!(Builtin.Str.occurrences j i 0 j.length 1).isEmpty) else !(Builtin.Str.occurrences j i 0 j.length 1).isEmpty)) H))
    (hO : OpR X (compareOp op) (fun x y H Q => ∃ (c : Nat) (z : Str), x = .str ⟨#[c]⟩ ∧ y = .str z ∧ Q (.bl (if neg then !decide (c ∈ z.cps.toList) else decide (c ∈ z.cps.toList))) H)) :
    OpD X (compareOp op) (fun d e => (isIn d e).map fun b => .dat (.bool (if neg then !b else b))) := opD_of fun F H d1 d2 res x y sm h1 h2 e => by
  obtain ⟨b, eb, er⟩ : ∃ b, isIn d1 d2 = some b ∧ res = .dat (.bool (if neg then !b else b)) := by
    cases hb : isIn d1 d2 with
    | none => rw [hb] at e; cases e
    | some b => rw [hb] at e; exact ⟨b, rfl, (Option.some.inj e).symm⟩
  subst er
  cases d2 with
  | list ds =>
    have e' : (if okS d1 && okS (.list ds) then some (ds.any fun z => PyData.eqv z d1) else none) = some b := eb
    by_cases c : (okS d1 && okS (.list ds)) = true
    · rw [if_pos c] at e'
      cases e'
      obtain ⟨c1, c2⟩ := Bool.and_eq_true_iff.mp c
      refine ⟨_, hD, fun Q q => ?_⟩
      cases neg with
      | true => exact ⟨d1, ds, (h1.rp sm).dp, (h2.rp sm).dp, c1, c2, q _ _ fin_bl⟩
      | false => exact ⟨d1, ds, (h1.rp sm).dp, (h2.rp sm).dp, c1, c2, q _ _ fin_bl⟩
    · rw [if_neg c] at e'
      cases e'
  | tuple ds =>
    have e' : (if flatD d1 && ds.all flatD then some (ds.any fun z => PyData.eqv z d1) else none) = some b := eb
    by_cases c : (flatD d1 && ds.all flatD) = true
    · rw [if_pos c] at e'
      cases e'
      obtain ⟨c1, c2⟩ := Bool.and_eq_true_iff.mp c
      obtain ⟨p, xs, rfl, hp, r⟩ := rt_tup h2
      have h1' : Rp X.K F d1 x := by cases d1 <;> first | exact h1 | cases c1
      refine ⟨_, hT, fun Q q => ⟨p, xs, rfl, .inr (same_t sm hp), flat_v h1' c1, flat_all r c2, ?_⟩⟩
      rw [flat_any h1' c1 r c2]
      exact q _ _ fin_bl
    · rw [if_neg c] at e'
      cases e'
  | str y' =>
    cases d1 with
    | str x' =>
      obtain rfl := rt_str h1
      obtain rfl := rt_str h2
      have e' : some (inStr x' y') = some b := eb
      cases e'
      unfold inStr
      by_cases c : x'.cps.size = 1
      · rw [if_pos c]
        exact ⟨_, hO, fun Q q => ⟨_, _, congrArg V.str (one_sign c), rfl, q _ _ fin_bl⟩⟩
      · rw [if_neg c]
        exact ⟨_, hS, fun Q q => ⟨_, _, rfl, rfl, q _ _ fin_bl⟩⟩
    | _ => cases eb
  | _ => cases eb
theorem op_gIn {X : Cx} (hu : X.A.units + 65 < cLine) : OpD X (compareOp .In) gIn := in_cases (neg := false) (op_inD hu) op_in_seq op_in_str op_in_sign
theorem op_gNotIn {X : Cx} (hu : X.A.units + 65 < cLine) : OpD X (compareOp .NotIn) gNotIn := in_cases (neg := true) (op_notInD hu) op_notIn_seq op_notIn_str op_notIn_sign
end Dl
end

-- text D4
section
set_option Elab.async false
set_option linter.all false
set_option maxRecDepth 100000
set_option maxHeartbeats 1000000
/-! Dl, part 4: tests, conditions, displays, calls of what is built in, items, slices. -/
namespace Dl
open PySem L2

/-- r, and what holds behind it -/
def WpG {α : Type} (K : PySem.W.Frag) (mg : Str → Option Value) (W : WX) (B : Bs) (σ : L2.St) (F : Hp) (r : R α) (post : α → En → Hp → Hp → Prop) : Prop :=
  match r with
  | .ok a ρ' => ∀ F' H', St K B ρ' σ F' H' → Same F F' → post a ρ' F' H'
  | .ex x ρ' => ∀ F' H' cls d, St K B ρ' σ F' H' → Same F F' → XR K mg F' H' x cls d → W cls d σ H'
  | .no => False
section
variable {α β : Type} {K : PySem.W.Frag} {mg : Str → Option Value} {W : WX} {B : Bs} {σ : L2.St} {F F' H H' : Hp} {Q Q' : VK} {ρ ρ' : En} {post post' : α → En → Hp → Hp → Prop}
theorem WpG.mono {r : R α} (h : WpG K mg W B σ F r post) (q : ∀ a ρ F H, post a ρ F H → post' a ρ F H) : WpG K mg W B σ F r post' := by
  cases r with
  | no => exact h
  | ex x ρ' => exact h
  | ok v ρ' => exact fun F' H' S sm => q _ _ _ _ (h F' H' S sm)
theorem WpG.okI {a : α} (h : WpG K mg W B σ F (.ok a ρ) post) (S : St K B ρ σ F H) : post a ρ F H := h F H S (Same.refl F)
theorem WpG.up {r : R α} (h : WpG K mg W B σ F r post) (s : Same F F') : WpG K mg W B σ F' r post := by
  cases r with
  | no => exact h
  | ok a b => exact fun F2 H2 S' s' => h F2 H2 S' (s.trans s')
  | ex a b => exact fun F2 H2 u d S' s' v' => h F2 H2 u d S' (s.trans s') v'
theorem Wp.up {r : R Val} (h : Wp K mg W B σ r F Q) (s : Same F F') : Wp K mg W B σ r F' Q := by
  cases r with
  | no => exact h
  | ok a b => exact fun F2 H2 u S' s' v => h F2 H2 u S' (s.trans s') v
  | ex a b => exact fun F2 H2 u d S' s' v' => h F2 H2 u d S' (s.trans s') v'
/-- behind a value, another thing -/
theorem WpG.splitV {r : R Val} {f : Val → En → R α} (h : WpG K mg W B σ F (r.bnd f) post) :
    Wp K mg W B σ r F (fun u H' => ∃ v ρ' F', r = .ok v ρ' ∧ St K B ρ' σ F' H' ∧ Same F F' ∧ VR K B ρ' σ F' H' u v ∧ WpG K mg W B σ F' (f v ρ') post) := by
  cases r with
  | no => exact h
  | ex x ρ' => exact h
  | ok v ρ' => exact fun F' H' u S sm vr => ⟨v, ρ', F', rfl, S, sm, vr, WpG.up (r := f v ρ') h sm⟩
theorem Wp.splitG {r : R β} {f : β → En → R Val} (h : Wp K mg W B σ (r.bnd f) F Q) :
    WpG K mg W B σ F r (fun b ρ' F' H' => r = .ok b ρ' ∧ St K B ρ' σ F' H' ∧ Same F F' ∧ Wp K mg W B σ (f b ρ') F' Q) := by
  cases r with
  | no => exact h
  | ex x ρ' => exact h
  | ok v ρ' => exact fun F' H' S sm => ⟨rfl, S, sm, Wp.up (r := f v ρ') h sm⟩
theorem WpG.split {r : R β} {f : β → En → R α} (h : WpG K mg W B σ F (r.bnd f) post) :
    WpG K mg W B σ F r (fun b ρ' F' H' => r = .ok b ρ' ∧ St K B ρ' σ F' H' ∧ Same F F' ∧ WpG K mg W B σ F' (f b ρ') post) := by
  cases r with
  | no => exact h
  | ex x ρ' => exact h
  | ok v ρ' => exact fun F' H' S sm => ⟨rfl, S, sm, WpG.up (r := f v ρ') h sm⟩
/-- a value is stowed on the way -/
theorem Wp.stow {v : Val} {u : V} {f : Val → En → R Val} (h : Wp K mg W B σ ((stow v ρ).bnd f) F Q) (S : St K B ρ σ F H) (vr : VR K B ρ σ F H u v) :
    ∃ v' F', St K B ρ σ F' H ∧ Same F F' ∧ VS K F' σ u v' ∧ Wp K mg W B σ (f v' ρ) F' Q := by
  cases hs : Dl.stow v ρ with
  | no => rw [hs] at h; exact h.elim
  | ex z ρz => exact (stow_noex hs).elim
  | ok v1 ρ1 =>
    rw [hs] at h
    obtain ⟨rfl, F2, S2, sm, vs⟩ := stow_ok S vr hs
    exact ⟨v1, F2, S2, sm, vs, Wp.up h sm⟩
theorem WpG.stow {v : Val} {u : V} {f : Val → En → R α} (h : WpG K mg W B σ F ((Dl.stow v ρ).bnd f) post) (S : St K B ρ σ F H) (vr : VR K B ρ σ F H u v) :
    ∃ v' F', St K B ρ σ F' H ∧ Same F F' ∧ VS K F' σ u v' ∧ WpG K mg W B σ F' (f v' ρ) post := by
  cases hs : Dl.stow v ρ with
  | no => rw [hs] at h; exact h.elim
  | ex z ρz => exact (stow_noex hs).elim
  | ok v1 ρ1 =>
    rw [hs] at h
    obtain ⟨rfl, F2, S2, sm, vs⟩ := stow_ok S vr hs
    exact ⟨v1, F2, S2, sm, vs, WpG.up h sm⟩
end

/-! ### tests -/
def tDT (K : PySem.W.Frag) (mg : Str → Option Value) (W : WX) (m : M Bool) : TT := fun σ H Q => ∃ (B : Bs) (ρ : En) (F : Hp), St K B ρ σ F H ∧ WpG K mg W B σ F (m ρ) fun b _ _ H' => Q b H'
abbrev TD (X : Cx) (W : WX) (e : Expr) (m : M Bool) : Prop := PT X e (tDT X.K X.mg W m)
abbrev WD (X : Cx) (W : WX) (e : Expr) (m : M Bool) : Prop := PW X e (tDT X.K X.mg W m)

def tru : Dat → Option Bool
  | .none => some false
  | .bool b => some b
  | .int i => some (i != 0)
  | .str x => if x.length ≤ sizeLine then some ((x.length : Int) != 0) else none
  | .list ds => some (!ds.isEmpty)
  | .tuple ds => some (!ds.isEmpty)
  | .dict _ => none
def truS : Slot → Option Bool
  | .cel _ (.dcK kvs) => some (!kvs.isEmpty)
  | .cel _ (.lst ds) => some (!ds.isEmpty)
  | .dat d => tru d
  | _ => none
def truV (ρ : En) : Val → Option Bool
  | .bor i => truS (gt ρ i)
  | .dat d => tru d
  | .cel (.lst ds) => some (!ds.isEmpty)
  | _ => none
def eTru (m : M Val) : M Bool := fun ρ => (m ρ).bnd fun v ρ =>
  match truV ρ v with
  | some b => .ok b ρ
  | none => .no
def eTB (m : M Val) : M Bool := fun ρ => (m ρ).bnd fun v ρ =>
  match v with
  | .dat (.bool b) => .ok b ρ
  | _ => .no

theorem vr_bl {K : PySem.W.Frag} {B : Bs} {ρ : En} {σ : L2.St} {F H : Hp} {b : Bool} : VR K B ρ σ F H (.bl b) (.dat (.bool b)) := (rp_bl : Rp K F (.bool b) (.bl b))
theorem isEmpty_len {α β : Type} {xs : List α} {ys : List β} (h : xs.length = ys.length) : xs.isEmpty = ys.isEmpty := by
  cases xs <;> cases ys <;> first | rfl | cases h
section
variable {K : PySem.W.Frag} {mg : Str → Option Value} {W : WX} {B : Bs} {σ : L2.St} {F F' H H' : Hp} {Q Q' : VK} {ρ ρ' : En}
theorem tru_rt {d : Dat} {x : V} {k : Bool} (s : Same F H) (h : RT K F H d x) (e : tru d = some k) : TruV K x H k := by
  cases d with
  | none => rw [rt_none h]; cases e; rfl
  | bool _ => rw [rt_bl h]; cases e; rfl
  | int _ => rw [rt_int h]; cases e; rfl
  | str z =>
    rw [rt_str h]
    have e' : (if z.length ≤ sizeLine then some ((z.length : Int) != 0) else none) = some k := e
    split at e'
    · rename_i c
      exact ⟨c, (Option.some.inj e').symm⟩
    · cases e'
  | list ds =>
    obtain ⟨a, xs, rfl, hH, r⟩ := rt_lst h
    cases e
    exact .inl ⟨xs, SqL.of hH, congrArg _ (isEmpty_len r.len.symm)⟩
  | tuple ds =>
    obtain ⟨a, xs, rfl, hH, r⟩ := rt_tup h
    cases e
    exact .inr (.inl ⟨xs, same_t s hH, congrArg _ (isEmpty_len r.len.symm)⟩)
  | dict _ => cases e
theorem truV_ok {v : Val} {x : V} {k : Bool} (S : St K B ρ σ F H) (h : VR K B ρ σ F H x v) (e : truV ρ v = some k) : TruV K x H k := by
  cases v with
  | dat d => exact tru_rt S.sub (Rp.rt S.sub h) e
  | cel c =>
    cases c with
    | lst ds =>
      cases e
      obtain ⟨p, rfl, _, _, ⟨vs, e2, q⟩, _⟩ := h
      exact .inl ⟨vs, SqL.of e2, congrArg _ (isEmpty_len q.len.symm)⟩
    | dcK _ => cases e
    | dcT _ => cases e
  | bor i =>
    have eu : σ[i]? = some (some x) := h
    have sl := S.slot i
    have e' : truS (gt ρ i) = some k := e
    cases hg : gt ρ i with
    | un => rw [hg] at e'; cases e'
    | scr _ => rw [hg] at e'; cases e'
    | dat d' =>
      rw [hg] at e' sl
      obtain ⟨w, e2, q⟩ := sl
      rw [eu] at e2
      cases e2
      exact tru_rt S.sub (Rp.rt S.sub q) e'
    | cel bk c =>
      rw [hg] at e' sl
      obtain ⟨p, e2, _, ca⟩ := sl
      rw [eu] at e2
      cases e2
      cases c with
      | lst ds =>
        cases e'
        obtain ⟨vs, e3, q⟩ := ca
        exact .inl ⟨vs, SqL.of e3, congrArg _ (isEmpty_len q.len.symm)⟩
      | dcK kvs =>
        cases e'
        obtain ⟨us, e3, q, _⟩ := ca
        refine .inr (.inr ⟨us, e3, congrArg _ (isEmpty_len ?_)⟩)
        have := congrArg List.length q
        simpa using this.symm
      | dcT _ => cases e'
end
section
variable {X : Cx} {W : WX} {e a b c : Expr} {m m1 m2 m3 : M Val} {p p1 p2 : M Bool} {pos : Pos} {rest : List Expr}
theorem td_val (h : ED X W e m) (he : ∀ whole, isTrue e X.env whole = (do let v ← whole; standAt e.pos; holding [v] (truthy v)) := by intro _; rfl) : TD X W e (eTru m) := by
  refine ⟨fun pins s σ H Q I ⟨B, ρ, F, S, hw⟩ => (pt_truth h he).run pins s σ H Q I ⟨B, ρ, F, S, (WpG.splitV hw).mono fun u H' ⟨v, ρ', F', _, S', _, vr, h'⟩ => ?_⟩⟩
  cases ht : truV ρ' v with
  | none => rw [ht] at h'; exact h'.elim
  | some k =>
    rw [ht] at h'
    exact ⟨k, truV_ok S' vr ht, h'.okI S'⟩
theorem tb_end {K : PySem.W.Frag} {mg : Str → Option Value} {B : Bs} {σ : L2.St} {F : Hp} {r : R Val} {Q : Bool → Hp → Prop} {post : VK} (h : WpG K mg W B σ F (r.bnd fun v ρ =>
  match v with
  | .dat (.bool b) => .ok b ρ
  | _ => .no) fun b _ _ H' => Q b H') (q : ∀ u H', (∃ k, u = .bl k ∧ Q k H') → post u H') : Wp K mg W B σ r F post := by
  refine (WpG.splitV h).mono fun u H' ⟨v, ρ', F', _, S', _, vr, h'⟩ => q u H' ?_
  cases v with
  | bor i => exact h'.elim
  | cel c => exact h'.elim
  | dat d =>
    cases d with
    | bool k =>
      have vr' : Rp K F' (.bool k) u := vr
      unfold Rp at vr'
      exact ⟨k, vr', WpG.okI (a := k) h' S'⟩
    | _ => exact h'.elim
theorem td_cmp {op : CmpOp} {g : P2} (ho : OpD X (compareOp op) g) (ha : ED X W a m1) (hb : ED X W b m2) (hm : behindInMarks op b = false) : TD X W (.Compare a [op] [b] pos) (eTB (eBin g m1 m2)) := by
  refine ⟨fun pins s σ H Q I ⟨B, ρ, F, S, hw⟩ => (pt_cmpR ho ha hb hm).run pins s σ H Q I ?_⟩
  have hw' : Wp X.K X.mg W B σ (eBin g m1 m2 ρ) F (fun u H' => ∃ k, u = .bl k ∧ Q k H') := tb_end hw fun _ _ h => h
  exact two_ok ⟨B, ρ, F, S, hw'⟩ fun B ρ F H2 x y v1 v2 S a b w => bin_end S a b w
def andB (p1 p2 : M Bool) : M Bool := fun ρ => (p1 ρ).bnd fun b ρ => if b = true then p2 ρ else .ok false ρ
def orB (p1 p2 : M Bool) : M Bool := fun ρ => (p1 ρ).bnd fun b ρ => if b = true then .ok true ρ else p2 ρ
def notB (p : M Bool) : M Bool := fun ρ => (p ρ).bnd fun b ρ => .ok (!b) ρ
theorem wd_and1 (ha : TD X W a p) : WD X W (.BoolOp .And [a] pos) p := pw_and1 ha
theorem wd_or1 (ha : TD X W a p) : WD X W (.BoolOp .Or [a] pos) p := pw_or1 ha
theorem wd_and (ha : TD X W a p1) (hb : WD X W (.BoolOp .And (b :: rest) pos) p2) : WD X W (.BoolOp .And (a :: b :: rest) pos) (andB p1 p2) := by
  refine ⟨fun wh pins s σ H Q I ⟨B, ρ, F, S, hw⟩ => (pw_and ha hb).run wh pins s σ H Q I ⟨B, ρ, F, S, (WpG.split hw).mono fun k ρ' F' H' ⟨_, S', _, h'⟩ => ?_⟩⟩
  cases k with
  | true => exact ⟨B, ρ', F', S', h'⟩
  | false => exact WpG.okI (a := false) h' S'
theorem wd_or (ha : TD X W a p1) (hb : WD X W (.BoolOp .Or (b :: rest) pos) p2) : WD X W (.BoolOp .Or (a :: b :: rest) pos) (orB p1 p2) := by
  refine ⟨fun wh pins s σ H Q I ⟨B, ρ, F, S, hw⟩ => (pw_or ha hb).run wh pins s σ H Q I ⟨B, ρ, F, S, (WpG.split hw).mono fun k ρ' F' H' ⟨_, S', _, h'⟩ => ?_⟩⟩
  cases k with
  | true => exact WpG.okI (a := true) h' S'
  | false => exact ⟨B, ρ', F', S', h'⟩
theorem td_w (h : WD X W e p) : TD X W e p := h.pt
theorem td_not (ha : TD X W a p) : TD X W (.UnaryOp .Not a pos) (notB p) := by
  refine ⟨fun pins s σ H Q I ⟨B, ρ, F, S, hw⟩ => (pt_not ha).run pins s σ H Q I ⟨B, ρ, F, S, (WpG.split hw).mono fun k ρ' F' H' ⟨_, S', _, h'⟩ => ?_⟩⟩
  exact WpG.okI (a := !k) h' S'
/-- a test's answer as a value -/
def eIf (p : M Bool) (m1 m2 : M Val) : M Val := fun ρ => (p ρ).bnd fun b ρ => if b = true then m1 ρ else m2 ρ
theorem ed_if (hc : TD X W c p) (ha : ED X W a m1) (hb : ED X W b m2) : ED X W (.IfExp c a b pos) (eIf p m1 m2) := by
  refine ⟨fun pins s σ H Q I ⟨B, ρ, F, S, hw⟩ => (pe_ifExp hc ha hb).run pins s σ H Q I ⟨B, ρ, F, S, (Wp.splitG hw).mono fun k ρ' F' H' ⟨_, S', _, h'⟩ => ?_⟩⟩
  cases k with
  | true => exact ⟨B, ρ', F', S', h'⟩
  | false => exact ⟨B, ρ', F', S', h'⟩
/-- and, or, not as values -/
def eAnd (m1 m2 : M Val) : M Val := fun ρ => (m1 ρ).bnd fun v ρ =>
  match truV ρ v with
  | some b => if b = true then m2 ρ else .ok v ρ
  | none => .no
def eOr (m1 m2 : M Val) : M Val := fun ρ => (m1 ρ).bnd fun v ρ =>
  match truV ρ v with
  | some b => if b = true then .ok v ρ else m2 ρ
  | none => .no
def eNot (m : M Val) : M Val := fun ρ => (m ρ).bnd fun v ρ =>
  match truV ρ v with
  | some b => .ok (.dat (.bool (!b))) ρ
  | none => .no
theorem ed_one {op} (h : ED X W a m) : ED X W (.BoolOp op [a] pos) m := pe_one h
theorem ed_and (ha : ED X W a m1) (hb : ED X W (.BoolOp .And (b :: rest) pos) m2) : ED X W (.BoolOp .And (a :: b :: rest) pos) (eAnd m1 m2) := by
  refine ⟨fun pins s σ H Q I ⟨B, ρ, F, S, hw⟩ => (pe_andT ha hb).run pins s σ H Q I ⟨B, ρ, F, S, (Wp.split hw).mono fun u H' ⟨v, ρ', F', _, S', _, vr, h'⟩ => ?_⟩⟩
  cases ht : truV ρ' v with
  | none => rw [ht] at h'; exact h'.elim
  | some k =>
    rw [ht] at h'
    refine ⟨k, truV_ok S' vr ht, ?_⟩
    cases k with
    | true => exact ⟨B, ρ', F', S', h'⟩
    | false => exact Wp.okI (v := v) h' S' vr
theorem ed_or (ha : ED X W a m1) (hb : ED X W (.BoolOp .Or (b :: rest) pos) m2) : ED X W (.BoolOp .Or (a :: b :: rest) pos) (eOr m1 m2) := by
  refine ⟨fun pins s σ H Q I ⟨B, ρ, F, S, hw⟩ => (pe_orT ha hb).run pins s σ H Q I ⟨B, ρ, F, S, (Wp.split hw).mono fun u H' ⟨v, ρ', F', _, S', _, vr, h'⟩ => ?_⟩⟩
  cases ht : truV ρ' v with
  | none => rw [ht] at h'; exact h'.elim
  | some k =>
    rw [ht] at h'
    refine ⟨k, truV_ok S' vr ht, ?_⟩
    cases k with
    | true => exact Wp.okI (v := v) h' S' vr
    | false => exact ⟨B, ρ', F', S', h'⟩
theorem ed_not (ha : ED X W a m) : ED X W (.UnaryOp .Not a pos) (eNot m) := by
  refine ⟨fun pins s σ H Q I ⟨B, ρ, F, S, hw⟩ => (pe_notT ha).run pins s σ H Q I ⟨B, ρ, F, S, (Wp.split hw).mono fun u H' ⟨v, ρ', F', _, S', _, vr, h'⟩ => ?_⟩⟩
  cases ht : truV ρ' v with
  | none => rw [ht] at h'; exact h'.elim
  | some k =>
    rw [ht] at h'
    exact ⟨k, truV_ok S' vr ht, Wp.okI (v := .dat (.bool (!k))) h' S' vr_bl⟩

/-! ### chains of comparisons -/
def eChain (g g' : P2) (m1 m2 m3 : M Val) : M Val := two m1 m2 fun v1 v2 ρ => (stow v2 ρ).bnd fun v2 ρ =>
  match rd ρ v1, rd ρ v2 with
  | some d1, some d2 => (match g d1 d2 with
    | some (.dat (.bool k)) => if k = true then (m3 ρ).bnd fun v3 ρ =>
        (match rd ρ v2, rd ρ v3 with
        | some d2, some d3 => (match g' d2 d3 with
          | some r => .ok r ρ
          | none => .no)
        | _, _ => .no) else .ok (.dat (.bool false)) ρ
    | _ => .no)
  | _, _ => .no
theorem chain_end {K : PySem.W.Frag} {mg : Str → Option Value} {B : Bs} {ρ : En} {σ : L2.St} {F H : Hp} {Q : VK} {g g' : P2} {r r' : R2} {x y : V} {v1 v2 : Val} (S : St K B ρ σ F H) (a : VS K F σ x v1) (b : VR K B ρ σ F H y v2)
    (hr : ∀ (x y : V) (H : Hp) (Q : VK), (∃ (F : Hp) (d1 d2 : Dat) (res : Val), Same F H ∧ RT K F H d1 x ∧ RT K F H d2 y ∧ g d1 d2 = some res ∧ ∀ z H', FinR K F H res z H' → Q z H') → r x y H Q)
    (hr' : ∀ (x y : V) (H : Hp) (Q : VK), (∃ (F : Hp) (d1 d2 : Dat) (res : Val), Same F H ∧ RT K F H d1 x ∧ RT K F H d2 y ∧ g' d1 d2 = some res ∧ ∀ z H', FinR K F H res z H' → Q z H') → r' x y H Q)
    (h : Wp K mg W B σ ((stow v2 ρ).bnd fun v2 ρ =>
  match rd ρ v1, rd ρ v2 with
  | some d1, some d2 => (match g d1 d2 with
    | some (.dat (.bool k)) => if k = true then (m3 ρ).bnd fun v3 ρ =>
        (match rd ρ v2, rd ρ v3 with
        | some d2, some d3 => (match g' d2 d3 with
          | some r => .ok r ρ
          | none => .no)
        | _, _ => .no) else .ok (.dat (.bool false)) ρ
    | _ => .no)
  | _, _ => .no) F Q) :
    r x y H fun z H3 => ∃ k, z = .bl k ∧ (if k = true then tD K mg W m3 σ H3 (fun w' H4 => r' y w' H4 Q) else Q (.bl false) H3) := by
  obtain ⟨v2', F2, S2, sm2, vs2, h2⟩ := Wp.stow h S b
  have a2 := a.mono sm2
  cases e1 : rd ρ v1 with
  | none => rw [e1] at h2; exact h2.elim
  | some d1 =>
    cases e2 : rd ρ v2' with
    | none => rw [e1, e2] at h2; exact h2.elim
    | some d2 =>
      rw [e1, e2] at h2
      have h3 : Wp K mg W B σ (match g d1 d2 with
        | some (.dat (.bool k)) => if k = true then (m3 ρ).bnd fun v3 ρ =>
            (match rd ρ v2', rd ρ v3 with
            | some d2, some d3 => (match g' d2 d3 with
              | some r => .ok r ρ
              | none => .no)
            | _, _ => .no) else .ok (.dat (.bool false)) ρ
        | _ => .no) F2 Q := h2
      cases eg : g d1 d2 with
      | none => rw [eg] at h3; exact h3.elim
      | some res =>
        rw [eg] at h3
        cases res with
        | bor _ => exact h3.elim
        | cel _ => exact h3.elim
        | dat dd =>
          cases dd with
          | bool k =>
            refine hr x y H _ ⟨F2, d1, d2, .dat (.bool k), S2.sub, rd_ok S2 a2.vr e1, rd_ok S2 vs2.vr e2, eg, fun z H' f => ?_⟩
            rcases f with ⟨rfl, q⟩ | ⟨_, _, _, q, _⟩
            · unfold Rp at q
              refine ⟨k, q, ?_⟩
              cases k with
              | false => exact Wp.okI (v := .dat (.bool false)) h3 S2 vr_bl
              | true =>
                refine ⟨B, ρ, F2, S2, (Wp.split h3).mono fun w' H4 ⟨v3, ρ3, F3, _, S3, sm3, vr3, h4⟩ => hr' y w' H4 Q ?_⟩
                exact bin_end S3 (vs2.mono sm3) vr3 h4
            · cases q
          | _ => exact h3.elim
theorem ed_chain {op op' : CmpOp} {g g' : P2} (ho : OpD X (compareOp op) g) (ho' : OpD X (compareOp op') g') (ha : ED X W a m1) (hb : ED X W b m2) (hc : ED X W c m3)
    (hm : lastMarks [op, op'] [b, c] = false := by with_unfolding_all rfl) : ED X W (.Compare a [op, op'] [b, c] pos) (eChain g g' m1 m2 m3) := by
  refine ⟨fun pins s σ H Q I h => (pe_chain ho ho' ha hb hc hm).run pins s σ H Q I ?_⟩
  exact two_ok h fun B ρ F H2 x y v1 v2 S a b w => chain_end S a b (fun _ _ _ _ q => q) (fun _ _ _ _ q => q) w
theorem td_chain {op op' : CmpOp} {g g' : P2} (ho : OpD X (compareOp op) g) (ho' : OpD X (compareOp op') g') (ha : ED X W a m1) (hb : ED X W b m2) (hc : ED X W c m3)
    (hm : lastMarks [op, op'] [b, c] = false := by with_unfolding_all rfl) : TD X W (.Compare a [op, op'] [b, c] pos) (eTB (eChain g g' m1 m2 m3)) := by
  refine ⟨fun pins s σ H Q I ⟨B, ρ, F, S, hw⟩ => (pt_chain ho ho' ha hb hc hm).run pins s σ H Q I ?_⟩
  have hw' : Wp X.K X.mg W B σ (eChain g g' m1 m2 m3 ρ) F (fun u H' => ∃ k, u = .bl k ∧ Q k H') := tb_end hw fun _ _ h => h
  exact two_ok ⟨B, ρ, F, S, hw'⟩ fun B ρ F H2 x y v1 v2 S a b w => chain_end S a b (fun _ _ _ _ q => q) (fun _ _ _ _ q => q) w
end
end Dl
end

-- text D5
section
set_option Elab.async false
set_option linter.all false
set_option maxRecDepth 100000
set_option maxHeartbeats 1000000
/-! Dl, part 5: arguments, displays, calls of what is built in, items, slices, isinstance. -/
namespace Dl
open PySem L2

def VSs (K : PySem.W.Frag) (F : Hp) (σ : L2.St) : List V → List Val → Prop
  | [], [] => True
  | u :: us, v :: vs => VS K F σ u v ∧ VSs K F σ us vs
  | _, _ => False
theorem VSs.mono {K : PySem.W.Frag} {F F' : Hp} {σ : L2.St} (s : Same F F') : ∀ {us : List V} {vs : List Val}, VSs K F σ us vs → VSs K F' σ us vs
  | [], [], h => h
  | _ :: _, _ :: _, h => ⟨h.1.mono s, VSs.mono s h.2⟩
  | [], _ :: _, h => h.elim
  | _ :: _, [], h => h.elim

def eArgs : List (M Val) → M (List Val)
  | [], ρ => .ok [] ρ
  | m :: ms, ρ => (m ρ).bnd fun v ρ => (stow v ρ).bnd fun v ρ => (eArgs ms ρ).bnd fun vs ρ => .ok (v :: vs) ρ
def settleAll : List Val → M (List Dat)
  | [], ρ => .ok [] ρ
  | v :: vs, ρ => (settle v ρ).bnd fun d ρ => (settleAll vs ρ).bnd fun ds ρ => .ok (d :: ds) ρ
def rdAll (ρ : En) : List Val → Option (List Dat)
  | [] => some []
  | v :: vs => match rd ρ v, rdAll ρ vs with
    | some d, some ds => some (d :: ds)
    | _, _ => none
def RTs (K : PySem.W.Frag) (F H : Hp) : List Dat → List V → Prop
  | [], us => us = []
  | d :: ds, us => ∃ u r, us = u :: r ∧ RT K F H d u ∧ RTs K F H ds r

def tDA (K : PySem.W.Frag) (mg : Str → Option Value) (W : WX) (m : M (List Val)) : TA := fun σ H Q => ∃ (B : Bs) (ρ : En) (F : Hp), St K B ρ σ F H ∧ WpG K mg W B σ F (m ρ) fun vs _ F' H' => ∀ us, VSs K F' σ us vs → Q us H'
abbrev AD (X : Cx) (W : WX) (es : List Expr) (ms : List (M Val)) : Prop := PA X es (tDA X.K X.mg W (eArgs ms))

section
variable {K : PySem.W.Frag} {mg : Str → Option Value} {W : WX} {B : Bs} {σ : L2.St} {F F' H H' : Hp} {Q Q' : VK} {ρ ρ' : En}
theorem rdAll_ok (S : St K B ρ σ F H) : ∀ {vs : List Val} {us : List V} {ds : List Dat}, VSs K F σ us vs → rdAll ρ vs = some ds → RTs K F H ds us
  | [], [], ds, _, e => by cases e; rfl
  | v :: vs, u :: us, ds, h, e => by
    have e' : (match rd ρ v, rdAll ρ vs with
      | some d, some ds => some (d :: ds)
      | _, _ => none) = some ds := e
    cases e1 : rd ρ v with
    | none => rw [e1] at e'; cases e'
    | some d =>
      cases e2 : rdAll ρ vs with
      | none => rw [e1, e2] at e'; cases e'
      | some dr =>
        rw [e1, e2] at e'
        cases e'
        exact ⟨u, us, rfl, rd_ok S h.1.vr e1, rdAll_ok S h.2 e2⟩
  | [], _ :: _, _, h, _ => h.elim
  | _ :: _, [], _, h, _ => h.elim
theorem settleAll_ok : ∀ {vs : List Val} {us : List V} {ds : List Dat} {ρ ρ' : En} {F : Hp}, St K B ρ σ F H → VSs K F σ us vs → settleAll vs ρ = .ok ds ρ' → ∃ F', St K B ρ' σ F' H ∧ Same F F' ∧ RpA K F' ds us
  | [], [], ds, ρ, ρ', F, S, _, e => by
    cases e
    exact ⟨F, S, Same.refl F, .nil⟩
  | v :: vs, u :: us, ds, ρ, ρ', F, S, h, e => by
    have e' : ((settle v ρ).bnd fun d ρ => (settleAll vs ρ).bnd fun ds ρ => .ok (d :: ds) ρ) = .ok ds ρ' := e
    cases e1 : settle v ρ with
    | no => rw [e1] at e'; cases e'
    | ex x ρ1 => exact (settle_noex e1).elim
    | ok d ρ1 =>
      rw [e1] at e'
      have e2' : ((settleAll vs ρ1).bnd fun ds ρ => .ok (d :: ds) ρ) = .ok ds ρ' := e'
      obtain ⟨F1, S1, sm1, q1⟩ := settle_ok S h.1.vr e1
      cases e2 : settleAll vs ρ1 with
      | no => rw [e2] at e2'; cases e2'
      | ex x ρ1 => rw [e2] at e2'; cases e2'
      | ok dr ρ2 =>
        rw [e2] at e2'
        cases e2'
        obtain ⟨F2, S2, sm2, q2⟩ := settleAll_ok S1 (h.2.mono sm1) e2
        exact ⟨F2, S2, sm1.trans sm2, .cons (q1.mono sm2) q2⟩
  | [], _ :: _, _, _, _, _, _, h, _ => h.elim
  | _ :: _, [], _, _, _, _, _, h, _ => h.elim
theorem settleAll_noex : ∀ {vs : List Val} {x : Exn} {ρ ρ' : En}, settleAll vs ρ = .ex x ρ' → False
  | [], _, _, _, e => by cases e
  | v :: vs, x, ρ, ρ', e => by
    have e' : ((settle v ρ).bnd fun d ρ => (settleAll vs ρ).bnd fun ds ρ => .ok (d :: ds) ρ) = .ex x ρ' := e
    cases e1 : settle v ρ with
    | no => rw [e1] at e'; cases e'
    | ex x ρ1 => exact (settle_noex e1).elim
    | ok d ρ1 =>
      rw [e1] at e'
      have e2' : ((settleAll vs ρ1).bnd fun ds ρ => .ok (d :: ds) ρ) = .ex x ρ' := e'
      cases e2 : settleAll vs ρ1 with
      | no => rw [e2] at e2'; cases e2'
      | ex x ρ1 => exact settleAll_noex e2
      | ok dr ρ2 => rw [e2] at e2'; cases e2'
end

section
variable {X : Cx} {W : WX} {e a b c : Expr} {es : List Expr} {m m1 m2 m3 : M Val} {ms : List (M Val)} {pos : Pos}
theorem ad_nil : AD X W [] [] := ⟨fun pos pins s σ H Q I ⟨B, ρ, F, S, h⟩ => pa_nil.run pos pins s σ H Q I (WpG.okI (a := []) h S [] trivial)⟩
theorem ad_cons (ha : ED X W e m) (hr : AD X W es ms) (hs : starEach (e :: es) X.env = (false, eval e X.env) :: starEach es X.env := by rfl) : AD X W (e :: es) (m :: ms) := by
  refine ⟨fun pos pins s σ H Q I ⟨B, ρ, F, S, h⟩ => (pa_cons ha hr hs).run pos pins s σ H Q I ⟨B, ρ, F, S, (WpG.splitV h).mono fun u H1 ⟨v, ρ1, F1, _, S1, _, vr, h1⟩ => ?_⟩⟩
  obtain ⟨v', F2, S2, sm, vs, h2⟩ := WpG.stow h1 S1 vr
  refine ⟨B, ρ1, F2, S2, (WpG.split h2).mono fun vr ρ3 F3 H3 ⟨_, S3, sm3, h3⟩ us hu => ?_⟩
  exact WpG.okI (a := v' :: vr) h3 S3 (u :: us) ⟨vs.mono sm3, hu⟩

/-! ### displays -/
def eTup (ms : List (M Val)) : M Val := fun ρ => (eArgs ms ρ).bnd fun vs ρ => (settleAll vs ρ).bnd fun ds ρ => if ds.length ≤ sizeLine then .ok (.dat (.tuple ds)) ρ else .no
def eLst (ms : List (M Val)) : M Val := fun ρ => (eArgs ms ρ).bnd fun vs ρ => (settleAll vs ρ).bnd fun ds ρ => if ds.length ≤ sizeLine then .ok (.cel (.lst ds)) ρ else .no
theorem args_settled {K : PySem.W.Frag} {mg : Str → Option Value} {B : Bs} {σ : L2.St} {F H : Hp} {Q : VK} {ρ : En} {vs : List Val} {us : List V} {f : List Dat → En → R Val} (S : St K B ρ σ F H) (hu : VSs K F σ us vs)
    (h : Wp K mg W B σ ((settleAll vs ρ).bnd f) F Q) : ∃ ds ρ' F', St K B ρ' σ F' H ∧ RpA K F' ds us ∧ Wp K mg W B σ (f ds ρ') F' Q := by
  cases e : settleAll vs ρ with
  | no => rw [e] at h; exact h.elim
  | ex x ρ1 => exact (settleAll_noex e).elim
  | ok ds ρ' =>
    rw [e] at h
    obtain ⟨F', S', sm, q⟩ := settleAll_ok S hu e
    exact ⟨ds, ρ', F', S', q, Wp.up h sm⟩
theorem ed_tup {x1} (h : AD X W es ms) : ED X W (.Tuple es x1 pos) (eTup ms) := by
  refine ⟨fun pins s σ H Q I ⟨B, ρ, F, S, hw⟩ => (pe_tup h).run pins s σ H Q I ⟨B, ρ, F, S, (Wp.splitG hw).mono fun vs ρ1 F1 H1 ⟨_, S1, _, h1⟩ us hu => ?_⟩⟩
  obtain ⟨ds, ρ2, F2, S2, q, h2⟩ := args_settled S1 hu h1
  by_cases c : ds.length ≤ sizeLine
  · have h3 : Wp X.K X.mg W B σ (if ds.length ≤ sizeLine then .ok (.dat (.tuple ds)) ρ2 else .no) F2 Q := h2
    rw [if_pos c] at h3
    exact ⟨by rw [q.len]; exact c, fun p hp => h3.fin S2 (fin_tup hp q)⟩
  · have h3 : Wp X.K X.mg W B σ (if ds.length ≤ sizeLine then .ok (.dat (.tuple ds)) ρ2 else .no) F2 Q := h2
    rw [if_neg c] at h3
    exact h3.elim
theorem ed_lst (h : AD X W es ms) : ED X W (.List es pos) (eLst ms) := by
  refine ⟨fun pins s σ H Q I ⟨B, ρ, F, S, hw⟩ => (pe_lst h).run pins s σ H Q I ⟨B, ρ, F, S, (Wp.splitG hw).mono fun vs ρ1 F1 H1 ⟨_, S1, _, h1⟩ us hu => ?_⟩⟩
  obtain ⟨ds, ρ2, F2, S2, q, h2⟩ := args_settled S1 hu h1
  by_cases c : ds.length ≤ sizeLine
  · have h3 : Wp X.K X.mg W B σ (if ds.length ≤ sizeLine then .ok (.cel (.lst ds)) ρ2 else .no) F2 Q := h2
    rw [if_pos c] at h3
    exact ⟨by rw [q.len]; exact c, fun p hp => h3.fin S2 (fin_lst hp q)⟩
  · have h3 : Wp X.K X.mg W B σ (if ds.length ≤ sizeLine then .ok (.cel (.lst ds)) ρ2 else .no) F2 Q := h2
    rw [if_neg c] at h3
    exact h3.elim
/-- {} -/
def eDK : M Val := fun ρ => .ok (.cel (.dcK [])) ρ
def eDT : M Val := fun ρ => .ok (.cel (.dcT [])) ρ
theorem ed_dk : ED X W (.Dict [] [] pos) eDK := ⟨fun pins s σ H Q I ⟨B, ρ, F, S, hw⟩ => pe_dnewK.run pins s σ H Q I fun p hp => Wp.fin (res := .cel (.dcK [])) hw S ⟨p, [], rfl, hp, rfl, rfl, .nil⟩⟩
theorem ed_dt : ED X W (.Dict [] [] pos) eDT := ⟨fun pins s σ H Q I ⟨B, ρ, F, S, hw⟩ => pe_dnewT.run pins s σ H Q I fun p hp => Wp.fin (res := .cel (.dcT [])) hw S ⟨p, [], rfl, hp, rfl, rfl, .nil⟩⟩

/-! ### calls of what is built in -/
abbrev PN := List Dat → Option Val
def ePrim (g : PN) (ms : List (M Val)) : M Val := fun ρ => (eArgs ms ρ).bnd fun vs ρ =>
  match rdAll ρ vs with
  | some ds => (match g ds with
    | some r => .ok r ρ
    | none => .no)
  | none => .no
def CallD (X : Cx) (f : Value) (g : PN) : Prop :=
  CallR X f fun xs H Q => ∃ (F : Hp) (ds : List Dat) (res : Val), Same F H ∧ RTs X.K F H ds xs ∧ g ds = some res ∧ ∀ z H', FinR X.K F H res z H' → Q z H'
theorem callD_of {f : Value} {g : PN}
    (h : ∀ (F H : Hp) (ds : List Dat) (res : Val) (xs : List V), Same F H → RTs X.K F H ds xs → g ds = some res → ∃ r : List V → Hp → VK → Prop, CallR X f r ∧ ∀ Q : VK, (∀ z H', FinR X.K F H res z H' → Q z H') → r xs H Q) : CallD X f g := by
  intro pins s σ H xs us Q I rx ⟨F, ds, res, sm, h1, e, q⟩
  obtain ⟨r, hr, hq⟩ := h F H ds res xs sm h1 e
  exact hr pins s σ H xs us Q I rx (hq Q q)
theorem prim_end {K : PySem.W.Frag} {mg : Str → Option Value} {B : Bs} {σ : L2.St} {F H : Hp} {Q : VK} {ρ : En} {vs : List Val} {us : List V} {g : PN} (S : St K B ρ σ F H) (hu : VSs K F σ us vs)
    (h : Wp K mg W B σ (match rdAll ρ vs with
      | some ds => (match g ds with
        | some r => .ok r ρ
        | none => .no)
      | none => .no) F Q) : ∃ (F : Hp) (ds : List Dat) (res : Val), Same F H ∧ RTs K F H ds us ∧ g ds = some res ∧ ∀ z H', FinR K F H res z H' → Q z H' := by
  cases e : rdAll ρ vs with
  | none => rw [e] at h; exact h.elim
  | some ds =>
    rw [e] at h
    have h2 : Wp K mg W B σ (match g ds with
      | some r => .ok r ρ
      | none => .no) F Q := h
    cases eg : g ds with
    | none => rw [eg] at h2; exact h2.elim
    | some res =>
      rw [eg] at h2
      exact ⟨F, ds, res, S.sub, rdAll_ok S hu e, eg, fun z H' f => h2.fin S f⟩
theorem ed_callB {x : Str} {p : Pos} {id : String} {g : PN} (hc : CallD X (.builtin id) g) (hg : Gl X x) (hm : X.mg x = none) (hv : bootBuiltins x = some (.builtin id)) (ha : AD X W (e :: es) ms) (hn : x ≠ "__name__" := by decide) (hdb : (x == ("__debug__" : Str)) = false := by decide)
    (he : starEach (e :: es) X.env = (false, eval e X.env) :: starEach es X.env := by rfl) (hpl : (backTo pos (starEach es X.env)).any (·.1) = false := by rfl) : ED X W (.Call (.Name x p) (e :: es) [] pos) (ePrim g ms) := by
  refine ⟨fun pins s σ H Q I ⟨B, ρ, F, S, hw⟩ => (pe_callB hc hg hm hv ha hn hdb he hpl).run pins s σ H Q I ⟨B, ρ, F, S, (Wp.splitG hw).mono fun vs ρ1 F1 H1 ⟨_, S1, _, h1⟩ us hu => ?_⟩⟩
  exact prim_end S1 hu h1
theorem ed_callT {x : Str} {p : Pos} {T : String} {g : PN} (hc : CallD X (.type T) g) (hg : Gl X x) (hm : X.mg x = none) (hv : bootBuiltins x = some (.type T)) (ha : AD X W (e :: es) ms) (hn : x ≠ "__name__" := by decide) (hdb : (x == ("__debug__" : Str)) = false := by decide)
    (he : starEach (e :: es) X.env = (false, eval e X.env) :: starEach es X.env := by rfl) (hpl : (backTo pos (starEach es X.env)).any (·.1) = false := by rfl) : ED X W (.Call (.Name x p) (e :: es) [] pos) (ePrim g ms) := by
  refine ⟨fun pins s σ H Q I ⟨B, ρ, F, S, hw⟩ => (pe_callTy hc hg hm hv ha hn hdb he hpl).run pins s σ H Q I ⟨B, ρ, F, S, (Wp.splitG hw).mono fun vs ρ1 F1 H1 ⟨_, S1, _, h1⟩ us hu => ?_⟩⟩
  exact prim_end S1 hu h1
/-- o.m(e, ..) of what does not change -/
def MtD (X : Cx) (id : String) (T : String) (g : Dat → PN) : Prop :=
  MtR X id fun x xs H Q => ∃ (F : Hp) (d : Dat) (ds : List Dat) (res : Val), Same F H ∧ RT X.K F H d x ∧ RTs X.K F H ds xs ∧ g d ds = some res ∧ ∀ z H', FinR X.K F H res z H' → Q z H'
theorem mtD_of {id T : String} {g : Dat → PN}
    (h : ∀ (F H : Hp) (d : Dat) (ds : List Dat) (res : Val) (x : V) (xs : List V), Same F H → RT X.K F H d x → RTs X.K F H ds xs → g d ds = some res → ∃ r : V → List V → Hp → VK → Prop, MtR X id r ∧ ∀ Q : VK, (∀ z H', FinR X.K F H res z H' → Q z H') → r x xs H Q) : MtD X id T g := by
  intro pins s σ H x xs v us Q I rx rxs ⟨F, d, ds, res, sm, h0, h1, e, q⟩
  obtain ⟨r, hr, hq⟩ := h F H d ds res x xs sm h0 h1 e
  exact hr pins s σ H x xs v us Q I rx rxs (hq Q q)
def tyD (T : String) : Dat → Bool
  | .str _ => T == "str"
  | .int _ => T == "int"
  | .list _ => T == "list"
  | _ => false
theorem tyD_ok {K : PySem.W.Frag} {F H : Hp} {T : String} {d : Dat} {x : V} (s : Same F H) (h : RT K F H d x) (e : tyD T d = true) : tyV K T x H := by
  cases d with
  | str z => rw [rt_str h]; exact (eq_of_beq e : T = "str")
  | int z => rw [rt_int h]; exact (eq_of_beq e : T = "int")
  | list ds =>
    obtain ⟨a, xs, rfl, hH, _⟩ := rt_lst h
    exact .inl ⟨eq_of_beq e, xs, SqL.of hH⟩
  | _ => cases e
def eMeth (T : String) (g : Dat → PN) (m : M Val) (ms : List (M Val)) : M Val := fun ρ => (m ρ).bnd fun v ρ => (stow v ρ).bnd fun v ρ =>
  match rd ρ v with
  | some d => if tyD T d = true then (eArgs ms ρ).bnd fun vs ρ =>
      (match rd ρ v, rdAll ρ vs with
      | some d, some ds => (match g d ds with
        | some r => .ok r ρ
        | none => .no)
      | _, _ => .no) else .no
  | none => .no
theorem meth_args {K : PySem.W.Frag} {mg : Str → Option Value} {B : Bs} {σ : L2.St} {F H : Hp} {Q : VK} {ρ : En} {v : Val} {u : V} {vs : List Val} {us : List V} {g : Dat → PN} (S : St K B ρ σ F H) (h0 : VS K F σ u v) (hu : VSs K F σ us vs)
    (h : Wp K mg W B σ (match rd ρ v, rdAll ρ vs with
      | some d, some ds => (match g d ds with
        | some r => .ok r ρ
        | none => .no)
      | _, _ => .no) F Q) : ∃ (F : Hp) (d : Dat) (ds : List Dat) (res : Val), Same F H ∧ RT K F H d u ∧ RTs K F H ds us ∧ g d ds = some res ∧ ∀ z H', FinR K F H res z H' → Q z H' := by
  cases e1 : rd ρ v with
  | none => rw [e1] at h; exact h.elim
  | some d =>
    cases e2 : rdAll ρ vs with
    | none => rw [e1, e2] at h; exact h.elim
    | some ds =>
      rw [e1, e2] at h
      have h2 : Wp K mg W B σ (match g d ds with
        | some r => .ok r ρ
        | none => .no) F Q := h
      cases eg : g d ds with
      | none => rw [eg] at h2; exact h2.elim
      | some res =>
        rw [eg] at h2
        exact ⟨F, d, ds, res, S.sub, rd_ok S h0.vr e1, rdAll_ok S hu e2, eg, fun z H' f => h2.fin S f⟩
theorem meth_end {K : PySem.W.Frag} {mg : Str → Option Value} {B : Bs} {σ : L2.St} {F H : Hp} {Q : VK} {ρ : En} {v : Val} {u : V} {T : String} {g : Dat → PN} (S : St K B ρ σ F H) (vr : VR K B ρ σ F H u v)
    (h : Wp K mg W B σ ((stow v ρ).bnd fun v ρ =>
  match rd ρ v with
  | some d => if tyD T d = true then (eArgs ms ρ).bnd fun vs ρ =>
      (match rd ρ v, rdAll ρ vs with
      | some d, some ds => (match g d ds with
        | some r => .ok r ρ
        | none => .no)
      | _, _ => .no) else .no
  | none => .no) F Q) :
    tyV K T u H ∧ tDA K mg W (eArgs ms) σ H fun us H1 => ∃ (F : Hp) (d : Dat) (ds : List Dat) (res : Val), Same F H1 ∧ RT K F H1 d u ∧ RTs K F H1 ds us ∧ g d ds = some res ∧ ∀ z H', FinR K F H1 res z H' → Q z H' := by
  obtain ⟨v', F2, S2, sm, vs, h2⟩ := Wp.stow h S vr
  cases e1 : rd ρ v' with
  | none => rw [e1] at h2; exact h2.elim
  | some d =>
    rw [e1] at h2
    by_cases c : tyD T d = true
    · have h3 : Wp K mg W B σ (if tyD T d = true then (eArgs ms ρ).bnd fun vs ρ =>
        (match rd ρ v', rdAll ρ vs with
        | some d, some ds => (match g d ds with
          | some r => .ok r ρ
          | none => .no)
        | _, _ => .no) else .no) F2 Q := h2
      rw [if_pos c] at h3
      refine ⟨tyD_ok S2.sub (rd_ok S2 vs.vr e1) c, B, ρ, F2, S2, (Wp.splitG h3).mono fun vv ρ3 F3 H3 ⟨_, S3, sm3, h4⟩ us hu => ?_⟩
      exact meth_args S3 (vs.mono sm3) hu h4
    · have h3 : Wp K mg W B σ (if tyD T d = true then (eArgs ms ρ).bnd fun vs ρ =>
        (match rd ρ v', rdAll ρ vs with
        | some d, some ds => (match g d ds with
          | some r => .ok r ρ
          | none => .no)
        | _, _ => .no) else .no) F2 Q := h2
      rw [if_neg c] at h3
      exact h3.elim
theorem ed_meth {o : Expr} {T id : String} {name : Str} {apos cpos : Pos} {g : Dat → PN} (pa : PlainAttrs T) (slot : PySem.Slot T name id) (hty : typeOf (.builtin id) = pure (.type "method_descriptor")) (hm : MtD X id T g) (ho : ED X W o m) (ha : AD X W (e :: es) ms)
    (hbase : attributeBase o name X.env (eval o X.env) = eval o X.env := by rfl)
    (hfew : ((backTo cpos (starEach (e :: es) X.env)).all (fun x => !x.1) && (backToKw cpos (keywordEach [] X.env)).all (fun x => x.1.isSome)
      && decide ((e :: es).length + ([] : List Keyword).length + (if ([] : List Keyword).isEmpty then 0 else 1) < 30)) = true := by rfl)
    (hline : (apos.endLine == cpos.line) = true := by rfl) (hs : starEach (e :: es) X.env = (false, eval e X.env) :: starEach es X.env := by rfl) (hplain : (backTo cpos (starEach es X.env)).any (·.1) = false := by rfl) :
    ED X W (.Call (.Attribute o name apos) (e :: es) [] cpos) (eMeth T g m ms) := by
  refine ⟨fun pins s σ H Q I ⟨B, ρ, F, S, hw⟩ => (pe_bm pa slot hty hm ho ha hbase hfew hline hs hplain).run pins s σ H Q I ⟨B, ρ, F, S, (Wp.split hw).mono fun u H1 ⟨v, ρ1, F1, _, S1, _, vr, h1⟩ => ?_⟩⟩
  exact meth_end S1 vr h1
theorem ed_meth0 {o : Expr} {T id : String} {name : Str} {apos cpos : Pos} {g : Dat → PN} (pa : PlainAttrs T) (slot : PySem.Slot T name id) (hty : typeOf (.builtin id) = pure (.type "method_descriptor")) (hm : MtD X id T g) (ho : ED X W o m)
    (hbase : attributeBase o name X.env (eval o X.env) = eval o X.env := by rfl) (hline : (apos.endLine == cpos.line) = true := by rfl) :
    ED X W (.Call (.Attribute o name apos) [] [] cpos) (eMeth T g m []) := by
  refine ⟨fun pins s σ H Q I ⟨B, ρ, F, S, hw⟩ => (pe_bm0 pa slot hty hm ho hbase hline).run pins s σ H Q I ⟨B, ρ, F, S, (Wp.split hw).mono fun u H1 ⟨v, ρ1, F1, _, S1, _, vr, h1⟩ => ?_⟩⟩
  obtain ⟨ty, B2, ρ2, F2, S2, h2⟩ := meth_end S1 vr h1
  exact ⟨ty, WpG.okI (a := []) h2 S2 [] trivial⟩

/-! ### items -/
def gIx : P2
  | .list ds, .int i => (atI ds i).map .dat
  | .tuple ds, .int i => (atI ds i).map .dat
  | .str z, .int i => if z.length ≤ sizeLine then (atI z.cps.toList i).map fun c => .dat (.str ⟨#[c]⟩) else none
  | _, _ => none
theorem RpA.atI {K : PySem.W.Frag} {F : Hp} {ds : List Dat} {vs : List V} {i : Int} {d : Dat} (h : RpA K F ds vs) (e : L2.atI ds i = some d) : ∃ v, L2.atI vs i = some v ∧ Rp K F d v := by
  unfold L2.atI at e ⊢
  rw [h.len]
  cases e1 : ixN ds.length i with
  | none => rw [e1] at e; cases e
  | some j =>
    rw [e1] at e
    exact h.at (i := j) e
def IxD (X : Cx) (g : P2) : Prop :=
  IxR X fun x y H Q => ∃ (F : Hp) (d1 d2 : Dat) (res : Val), Same F H ∧ RT X.K F H d1 x ∧ RT X.K F H d2 y ∧ g d1 d2 = some res ∧ ∀ z H', FinR X.K F H res z H' → Q z H'
theorem ix_gIx : IxD X gIx := by
  intro vx sx pins s σ H x y v u Q I rx ry ⟨F, d1, d2, res, sm, h1, h2, e, q⟩ hs
  refine ix_seq vx sx pins s σ H x y v u Q I rx ry ?_ hs
  cases d1 <;> cases d2 <;> first | (cases e; done) | skip
  · rename_i z i
    obtain rfl := rt_str h1
    obtain rfl := rt_int h2
    have e' : (if z.length ≤ sizeLine then (L2.atI z.cps.toList i).map fun c => Val.dat (.str ⟨#[c]⟩) else none) = some res := e
    by_cases c : z.length ≤ sizeLine
    · rw [if_pos c] at e'
      cases e1 : L2.atI z.cps.toList i with
      | none => rw [e1] at e'; cases e'
      | some k =>
        rw [e1] at e'
        cases e'
        exact .inr (.inr ⟨z, i, k, rfl, rfl, c, e1, q _ _ fin_str⟩)
    · rw [if_neg c] at e'
      cases e'
  · rename_i ds i
    obtain ⟨p, xs, rfl, hp, r1⟩ := rt_lst h1
    obtain rfl := rt_int h2
    have e' : (L2.atI ds i).map Val.dat = some res := e
    cases e1 : L2.atI ds i with
    | none => rw [e1] at e'; cases e'
    | some k =>
      rw [e1] at e'
      cases e'
      obtain ⟨w, e2, q2⟩ := r1.atI e1
      exact .inl ⟨p, xs, i, w, rfl, rfl, SqL.of hp, e2, q _ _ (fin_dat q2)⟩
  · rename_i ds i
    obtain ⟨p, xs, rfl, hp, r1⟩ := rt_tup h1
    obtain rfl := rt_int h2
    have e' : (L2.atI ds i).map Val.dat = some res := e
    cases e1 : L2.atI ds i with
    | none => rw [e1] at e'; cases e'
    | some k =>
      rw [e1] at e'
      cases e'
      obtain ⟨w, e2, q2⟩ := r1.atI e1
      exact .inr (.inl ⟨p, xs, i, w, rfl, rfl, same_t sm hp, e2, q _ _ (fin_dat q2)⟩)
theorem ed_ix (ha : ED X W a m1) (hb : ED X W b m2) (hs : PlainIx b := by intro _ _; rfl) : ED X W (.Subscript a b pos) (eBin gIx m1 m2) := by
  refine ⟨fun pins s σ H Q I h => (pe_ix ix_gIx ha hb hs).run pins s σ H Q I ?_⟩
  exact two_ok h fun B ρ F H2 x y v1 v2 S a b w => bin_end S a b w

/-! ### slices -/
def cutD (xs : List Dat) (lo hi : Option Int) : List Dat := (xs.drop (HT.sIx xs.length 0 lo)).take (HT.sIx xs.length xs.length hi - HT.sIx xs.length 0 lo)
theorem RpA.cut {K : PySem.W.Frag} {F : Hp} {ds : List Dat} {vs : List V} (h : RpA K F ds vs) (lo hi : Option Int) : RpA K F (cutD ds lo hi) (cutV vs lo hi) := by
  unfold cutD cutV
  rw [h.len]
  exact (h.drop _).take _
def gCut (d : Dat) (lo hi : Option Int) : Option Val :=
  match d with
  | .list ds => some (.cel (.lst (cutD ds lo hi)))
  | .tuple ds => some (.dat (.tuple (cutD ds lo hi)))
  | .str z => if z.length ≤ sizeLine then some (.dat (.str (cutS z lo hi))) else none
  | _ => none
def ePart : Option (M Val) → M (Option Int)
  | none, ρ => .ok none ρ
  | some m, ρ => (m ρ).bnd fun v ρ =>
    match v with
    | .dat (.int i) => .ok (some i) ρ
    | _ => .no
def tDO (K : PySem.W.Frag) (mg : Str → Option Value) (W : WX) (m : M (Option Int)) : TO := fun σ H Q => ∃ (B : Bs) (ρ : En) (F : Hp), St K B ρ σ F H ∧ WpG K mg W B σ F (m ρ) fun o _ _ H' => Q o H'
abbrev OD (X : Cx) (W : WX) (e : Option Expr) (m : Option (M Val)) : Prop := PO X e (tDO X.K X.mg W (ePart m))
theorem od_none : OD X W none none := ⟨fun pins s σ H Q I ⟨B, ρ, F, S, h⟩ => po_none.run pins s σ H Q I (WpG.okI (a := none) h S)⟩
theorem od_some (h : ED X W e m) : OD X W (some e) (some m) := by
  refine ⟨fun pins s σ H Q I ⟨B, ρ, F, S, hw⟩ => (po_some h).run pins s σ H Q I ⟨B, ρ, F, S, (WpG.splitV hw).mono fun u H1 ⟨v, ρ1, F1, _, S1, _, vr, h1⟩ => ?_⟩⟩
  cases v with
  | bor _ => exact h1.elim
  | cel _ => exact h1.elim
  | dat d =>
    cases d with
    | int i =>
      have vr' : Rp X.K F1 (.int i) u := vr
      unfold Rp at vr'
      exact ⟨i, vr', WpG.okI (a := some i) h1 S1⟩
    | _ => exact h1.elim
def eCut (m : M Val) (lo hi : Option (M Val)) : M Val := fun ρ => (m ρ).bnd fun v ρ => (stow v ρ).bnd fun v ρ => (ePart lo ρ).bnd fun l ρ => (ePart hi ρ).bnd fun h ρ =>
  match rd ρ v with
  | some d => (match gCut d l h with
    | some r => .ok r ρ
    | none => .no)
  | none => .no
theorem sl_gCut : SlR X fun x lo hi H Q => ∃ (F : Hp) (d : Dat) (res : Val), Same F H ∧ RT X.K F H d x ∧ gCut d lo hi = some res ∧ ∀ z H', FinR X.K F H res z H' → Q z H' := by
  intro pins s σ H x v vl vu lo hi sl Q I rx hs pl pu ⟨F, d, res, sm, h1, e, q⟩
  cases d <;> first | (cases e; done) | skip
  · rename_i z
    obtain rfl := rt_str h1
    have e' : (if z.length ≤ sizeLine then some (Val.dat (.str (cutS z lo hi))) else none) = some res := e
    by_cases c : z.length ≤ sizeLine
    · rw [if_pos c] at e'
      cases e'
      exact sl_str pins s σ H _ v vl vu lo hi sl Q I rx hs pl pu ⟨z, rfl, c, q _ _ fin_str⟩
    · rw [if_neg c] at e'
      cases e'
  · rename_i ds
    obtain ⟨p, xs, rfl, hp, r1⟩ := rt_lst h1
    cases e
    exact sl_list pins s σ H _ v vl vu lo hi sl Q I rx hs pl pu ⟨p, xs, rfl, SqL.of hp, fun p2 hp2 => q _ _ (fin_lst hp2 (r1.cut lo hi))⟩
  · rename_i ds
    obtain ⟨p, xs, rfl, hp, r1⟩ := rt_tup h1
    cases e
    refine sl_tupA pins s σ H _ v vl vu lo hi sl Q I rx hs pl pu ⟨p, xs, rfl, same_t sm hp, fun w => ?_, fun _ p2 hp2 => q _ _ (fin_tup hp2 (r1.cut lo hi))⟩
    refine q _ _ (fin_dat (rp_tup hp ?_))
    have e3 : cutD ds lo hi = ds := by
      unfold cutD
      have w' := w
      rw [r1.len] at w'
      rw [w'.1, w'.2]
      simp
    rw [e3]
    exact r1
theorem ed_cut {lo hi : Option Expr} {ml mh : Option (M Val)} {p2 : Pos} (he : ED X W e m) (hl : OD X W lo ml) (hu : OD X W hi mh) : ED X W (.Subscript e (.Slice lo hi none p2) pos) (eCut m ml mh) := by
  refine ⟨fun pins s σ H Q I ⟨B, ρ, F, S, hw⟩ => (pe_slice sl_gCut he hl hu).run pins s σ H Q I ⟨B, ρ, F, S, (Wp.split hw).mono fun u H1 ⟨v, ρ1, F1, _, S1, _, vr, h1⟩ => ?_⟩⟩
  obtain ⟨v', F2, S2, sm, vs, h2⟩ := Wp.stow h1 S1 vr
  refine ⟨B, ρ1, F2, S2, (Wp.splitG h2).mono fun l ρ3 F3 H3 ⟨_, S3, sm3, h3⟩ => ⟨B, ρ3, F3, S3, (Wp.splitG h3).mono fun h ρ4 F4 H4 ⟨_, S4, sm4, h4⟩ => ?_⟩⟩
  cases e1 : rd ρ4 v' with
  | none => rw [e1] at h4; exact h4.elim
  | some d =>
    rw [e1] at h4
    have h5 : Wp X.K X.mg W B σ (match gCut d l h with
      | some r => .ok r ρ4
      | none => .no) F4 Q := h4
    cases eg : gCut d l h with
    | none => rw [eg] at h5; exact h5.elim
    | some res =>
      rw [eg] at h5
      exact ⟨F4, d, res, S4.sub, rd_ok S4 ((vs.mono sm3).mono sm4).vr e1, eg, fun z H' f => h5.fin S4 f⟩
/-- xs[::-1] of a list -/
def eRev (m : M Val) : M Val := fun ρ => (m ρ).bnd fun v ρ =>
  match rd ρ v with
  | some (.list ds) => .ok (.cel (.lst ds.reverse)) ρ
  | _ => .no
theorem ed_rev {k : Nat} {p1 p2 p3 : Pos} (he : ED X W e m) : ED X W (.Subscript e (.Slice none none (some (.UnaryOp .USub (.Constant (.int 1) k p1) p2)) p3) pos) (eRev m) := by
  refine ⟨fun pins s σ H Q I ⟨B, ρ, F, S, hw⟩ => (pe_revL he).run pins s σ H Q I ⟨B, ρ, F, S, (Wp.split hw).mono fun u H1 ⟨v, ρ1, F1, _, S1, _, vr, h1⟩ => ?_⟩⟩
  cases e1 : rd ρ1 v with
  | none => rw [e1] at h1; exact h1.elim
  | some d =>
    rw [e1] at h1
    cases d with
    | list ds =>
      obtain ⟨p, xs, rfl, hp, r1⟩ := rt_lst (rd_ok S1 vr e1)
      exact ⟨p, xs, rfl, SqL.of hp, fun p2 hp2 => Wp.fin (res := .cel (.lst ds.reverse)) h1 S1 (fin_lst hp2 r1.rev)⟩
    | _ => exact h1.elim
/-- -x of a whole number -/
def eNeg (m : M Val) : M Val := fun ρ => (m ρ).bnd fun v ρ =>
  match v with
  | .dat (.int i) => .ok (.dat (.int (-i))) ρ
  | _ => .no
theorem ed_neg (he : ED X W e m) : ED X W (.UnaryOp .USub e pos) (eNeg m) := by
  refine ⟨fun pins s σ H Q I ⟨B, ρ, F, S, hw⟩ => (pe_un un_neg he).run pins s σ H Q I ⟨B, ρ, F, S, (Wp.split hw).mono fun u H1 ⟨v, ρ1, F1, _, S1, _, vr, h1⟩ => ?_⟩⟩
  cases v with
  | bor _ => exact h1.elim
  | cel _ => exact h1.elim
  | dat d =>
    cases d with
    | int i =>
      have vr' : Rp X.K F1 (.int i) u := vr
      unfold Rp at vr'
      exact ⟨i, vr', Wp.fin (res := .dat (.int (-i))) h1 S1 fin_int⟩
    | _ => exact h1.elim

/-! ### isinstance of data -/
def tyN : Dat → String
  | .none => "NoneType"
  | .bool _ => "bool"
  | .int _ => "int"
  | .str _ => "str"
  | .list _ => "list"
  | .tuple _ => "tuple"
  | .dict _ => "dict"
theorem tyN_ok {K : PySem.W.Frag} {F H : Hp} {d : Dat} {x : V} (s : Same F H) (h : RT K F H d x) : TyX K H x (.type (tyN d)) := by
  cases d with
  | none => rw [rt_none h]; exact .base .non
  | bool b => rw [rt_bl h]; exact .base (.bl b)
  | int b => rw [rt_int h]; exact .base (.int b)
  | str b => rw [rt_str h]; exact .base (.str b)
  | list ds =>
    obtain ⟨a, xs, rfl, hH, _⟩ := rt_lst h
    exact .base (.lst hH)
  | tuple ds =>
    obtain ⟨a, xs, rfl, hH, _⟩ := rt_tup h
    rcases hH with (hH | ⟨o, hH⟩) | ⟨o, its, n, hk, hc, _⟩
    · exact .base (.tup (s _ _ hH))
    · exact .fTuple (s _ _ hH)
    · exact .kTuple hk hc
  | dict _ => exact (rt_dct h).elim
def eIsi (T : String) (m : M Val) : M Val := fun ρ => (m ρ).bnd fun v ρ => (stow v ρ).bnd fun v ρ =>
  match rd ρ v with
  | some d => (match kitB (tyN d) T with
    | some b => .ok (.dat (.bool b)) ρ
    | none => .no)
  | none => .no
theorem ed_isi {t : Str} {T : String} {p pt : Pos} (hg : Gl X "isinstance") (hm : X.mg "isinstance" = none) (he : ED X W e m) (hgt : Gl X t) (hmt : X.mg t = none) (hvt : bootBuiltins t = some (.type T))
    (hv : bootBuiltins "isinstance" = some (.builtin "isinstance") := by decide +kernel) (hnt : t ≠ "__name__" := by decide) (hdt : (t == ("__debug__" : Str)) = false := by decide)
    (hs : starEach [e, .Name t pt] X.env = (false, eval e X.env) :: starEach [.Name t pt] X.env := by rfl) (hs2 : starEach [.Name t pt] X.env = (false, eval (.Name t pt) X.env) :: starEach [] X.env := by rfl)
    (hpl : (backTo pos (starEach [.Name t pt] X.env)).any (·.1) = false := by rfl) :
    ED X W (.Call (.Name "isinstance" p) [e, .Name t pt] [] pos) (eIsi T m) := by
  refine ⟨fun pins s σ H Q I ⟨B, ρ, F, S, hw⟩ => (pe_callB call_isi hg hm hv (pa_cons he (pa_cons (pe_bltn (v := .ty T) hgt hmt hvt rfl hnt hdt) pa_nil hs2) hs) (by decide) (by decide) hs hpl).run pins s σ H Q I
    ⟨B, ρ, F, S, (Wp.split hw).mono fun u H1 ⟨v, ρ1, F1, _, S1, _, vr, h1⟩ => ?_⟩⟩
  obtain ⟨v', F2, S2, sm, vs, h2⟩ := Wp.stow h1 S1 vr
  cases e1 : rd ρ1 v' with
  | none => rw [e1] at h2; exact h2.elim
  | some d =>
    rw [e1] at h2
    have h3 : Wp X.K X.mg W B σ (match kitB (tyN d) T with
      | some b => .ok (.dat (.bool b)) ρ1
      | none => .no) F2 Q := h2
    cases ek : kitB (tyN d) T with
    | none => rw [ek] at h3; exact h3.elim
    | some b =>
      rw [ek] at h3
      exact ⟨u, .ty T, .type (tyN d), .type T, b, rfl, .ty T, tyN_ok S2.sub (rd_ok S2 vs.vr e1), kit_ty ek, Wp.fin (res := .dat (.bool b)) h3 S2 fin_bl⟩
end
end Dl
end

-- text D6
section
set_option Elab.async false
set_option linter.all false
set_option maxRecDepth 100000
set_option maxHeartbeats 1000000
/-! Dl, part 6: what changes; statements. -/
namespace Dl
open PySem L2

section
variable {K : PySem.W.Frag} {B : Bs} {ρ : En} {σ : L2.St} {F H : Hp} {u : V} {i : Nat}

theorem set_at {u : V} (h : i < σ.length) : (σ.set i (some u))[i]? = some (some u) := by rw [List.getElem?_set_self h]
theorem set_ne {j : Nat} {u : V} (h : j ≠ i) : (σ.set i (some u))[j]? = σ[j]? := by rw [List.getElem?_set_ne (Ne.symm h)]

/-- what may be stored -/
def StoreOk (K : PySem.W.Frag) (B : Bs) (ρ : En) (σ : L2.St) (F H : Hp) (u : V) : Slot → Prop
  | .un => True
  | .dat d => Rp K F d u
  | .cel b c => b = false ∧ VR K B ρ σ F H u (.cel c)
  | .scr _ => False
theorem St.store {s : Slot} (S : St K B ρ σ F H) (hL : ∀ c, gt ρ i ≠ .cel true c) (h : StoreOk K B ρ σ F H u s) : St K B (pt ρ i s) (σ.set i (some u)) F H := by
  have other : ∀ j, j ≠ i → SltR K F H (σ.set i (some u)) j (gt ρ j) := fun j hj => by
    have sl := S.slot j
    cases hg : gt ρ j with
    | un => trivial
    | dat d => rw [hg] at sl; obtain ⟨w, e, q⟩ := sl; exact ⟨w, by rw [set_ne hj]; exact e, q⟩
    | scr d => rw [hg] at sl; obtain ⟨w, e, q⟩ := sl; exact ⟨w, by rw [set_ne hj]; exact e, q⟩
    | cel bk d => rw [hg] at sl; obtain ⟨w, e, q⟩ := sl; exact ⟨w, by rw [set_ne hj]; exact e, q⟩
  refine ⟨by rw [pt_len, List.length_set]; exact S.len, S.sub, fun j => ?_, fun j k bj bk cj ck p hj hk ej ek => ?_, S.base, S.fnew, S.keep, fun j bj c p hj ej => ?_, fun j hj pr er => ?_⟩
  · by_cases e : j = i
    · by_cases hi : i < ρ.length
      · have hi' : i < σ.length := by rw [← S.len]; exact hi
        rw [e, gt_pt_eq _ _ _ hi]
        cases s with
        | un => trivial
        | dat d => exact ⟨u, set_at hi', h⟩
        | scr _ => exact h.elim
        | cel bk c =>
          obtain ⟨_, p, rfl, f, _, ca, _⟩ := h
          exact ⟨p, set_at hi', f, ca⟩
      · rw [e, gt_out _ _ (by rw [pt_len]; exact Nat.le_of_not_lt hi)]
        trivial
    · rw [gt_pt_ne _ _ _ _ e]
      exact other j e
  · by_cases e1 : j = i
    · by_cases e2 : k = i
      · rw [e1, e2]
      · rw [gt_pt_ne _ _ _ _ e2] at hk
        rw [set_ne e2] at ek
        have hi : i < ρ.length := by
          rw [e1] at hj
          have := gt_in hj (fun z => nomatch z)
          rwa [pt_len] at this
        have hi' : i < σ.length := by rw [← S.len]; exact hi
        rw [e1, gt_pt_eq _ _ _ hi] at hj
        rw [e1, set_at hi'] at ej
        cases hj
        obtain ⟨_, q, e3, _, _, _, nc, _⟩ := h
        cases ej
        cases e3
        exact absurd ek (nc k bk ck hk)
    · rw [gt_pt_ne _ _ _ _ e1] at hj
      rw [set_ne e1] at ej
      by_cases e2 : k = i
      · have hi : i < ρ.length := by
          rw [e2] at hk
          have := gt_in hk (fun z => nomatch z)
          rwa [pt_len] at this
        have hi' : i < σ.length := by rw [← S.len]; exact hi
        rw [e2, gt_pt_eq _ _ _ hi] at hk
        rw [e2, set_at hi'] at ek
        cases hk
        obtain ⟨_, q, e3, _, _, _, nc, _⟩ := h
        cases ek
        cases e3
        exact absurd ej (nc j bj cj hj)
      · rw [gt_pt_ne _ _ _ _ e2] at hk
        rw [set_ne e2] at ek
        exact S.dist j k bj bk cj ck p hj hk ej ek
  · by_cases e : j = i
    · have hi : i < ρ.length := by
        rw [e] at hj
        have := gt_in hj (fun z => nomatch z)
        rwa [pt_len] at this
      have hi' : i < σ.length := by rw [← S.len]; exact hi
      rw [e, gt_pt_eq _ _ _ hi] at hj
      rw [e, set_at hi'] at ej
      cases hj
      obtain ⟨_, q, e3, _, b, _⟩ := h
      cases ej
      cases e3
      exact .inl b
    · rw [gt_pt_ne _ _ _ _ e] at hj
      rw [set_ne e] at ej
      exact S.cnew j bj c p hj ej
  · obtain ⟨e1, e2⟩ := S.refs j hj pr er
    have e : j ≠ i := fun z => by
      obtain ⟨c, e3⟩ := e2
      rw [z] at e3
      exact hL c e3
    rw [gt_pt_ne _ _ _ _ e, set_ne e]
    exact ⟨e1, e2⟩

/-- the object that slot i holds is changed -/
theorem St.mut {p : Addr} {bk : Bool} {c c' : Cel} {o : HO} (S : St K B ρ σ F H) (hg : gt ρ i = .cel bk c) (ep : σ[i]? = some (some (.ref p))) (hc : CelAt K F (upd H p o) p c') : St K B (pt ρ i (.cel bk c')) σ F (upd H p o) := by
  have hi : i < ρ.length := gt_in hg (fun z => nomatch z)
  have sl := S.slot i
  rw [hg] at sl
  obtain ⟨q, e1, f, ca⟩ := sl
  rw [ep] at e1
  cases e1
  have cel : ∀ j b2 c2, gt (pt ρ i (.cel bk c')) j = .cel b2 c2 → ∃ c3, gt ρ j = .cel b2 c3 := fun j b2 c2 e => by
    by_cases hj : j = i
    · rw [hj, gt_pt_eq _ _ _ hi] at e
      cases e
      exact ⟨c, hj ▸ hg⟩
    · rw [gt_pt_ne _ _ _ _ hj] at e
      exact ⟨c2, e⟩
  refine ⟨by rw [pt_len]; exact S.len, fun b x e => ?_, fun j => ?_, fun j k bj b2 cj ck p hj hk ej ek => ?_, S.base, S.fnew, fun a x e n => ?_, fun j bj c p hj ej => ?_, fun j hj pr er => ?_⟩
  · have : b ≠ p := fun z => by rw [z, f] at e; cases e
    rw [upd_ne this]
    exact S.sub _ _ e
  · by_cases ej : j = i
    · rw [ej, gt_pt_eq _ _ _ hi]
      exact ⟨p, ep, f, hc⟩
    · rw [gt_pt_ne _ _ _ _ ej]
      have sl := S.slot j
      cases hgj : gt ρ j with
      | un => trivial
      | dat d => rw [hgj] at sl; exact sl
      | scr d => rw [hgj] at sl; exact sl
      | cel b2 d =>
        rw [hgj] at sl
        obtain ⟨w, e, f', ca'⟩ := sl
        have nw : w ≠ p := fun z => ej (S.dist j i b2 bk d c p hgj hg (by rw [e, z]) ep)
        exact ⟨w, e, f', ca'.mono (Same.refl F) (upd_ne nw)⟩
  · obtain ⟨c3, h3⟩ := cel j bj cj hj
    obtain ⟨c4, h4⟩ := cel k b2 ck hk
    exact S.dist j k bj b2 c3 c4 p h3 h4 ej ek
  · have : a ≠ p := fun z => by
      subst z
      rcases S.cnew i bk c a hg ep with q | ⟨j, hj, q⟩
      · rw [q] at e; cases e
      · exact n j hj q
    rw [upd_ne this]
    exact S.keep a x e n
  · obtain ⟨c3, h3⟩ := cel j bj c hj
    exact S.cnew j bj c3 p h3 ej
  · obtain ⟨e1, e2⟩ := S.refs j hj pr er
    refine ⟨e1, ?_⟩
    by_cases ej : j = i
    · rw [ej, gt_pt_eq _ _ _ hi]
      obtain ⟨c3, e3⟩ := e2
      rw [ej, hg] at e3
      cases e3
      exact ⟨c', rfl⟩
    · rw [gt_pt_ne _ _ _ _ ej]
      exact e2
end

/-! ### methods that change what a name holds -/
abbrev PM := Cel → List Dat → Option (Cel × Dat)
def celT : Cel → String
  | .lst _ => "list"
  | .dcK _ => "dict"
  | .dcT _ => "dict"
def eMut (T : String) (g : PM) (i : Nat) (ms : List (M Val)) : M Val := fun ρ =>
  match gt ρ i with
  | .cel _ c => if celT c = T then (eArgs ms ρ).bnd fun vs ρ => (settleAll vs ρ).bnd fun ds ρ =>
      (match gt ρ i with
      | .cel b c => (match g c ds with
        | some (c', d) => .ok (.dat d) (pt ρ i (.cel b c'))
        | none => .no)
      | _ => .no) else .no
  | _ => .no
/-- what such a method does: at p stands c, the arguments are settled -/
def MutD (X : Cx) (id : String) (g : PM) : Prop :=
  MtR X id fun x xs H Q => ∃ (F : Hp) (p : Addr) (c c' : Cel) (ds : List Dat) (d : Dat), x = .ref p ∧ Same F H ∧ F p = none ∧ CelAt X.K F H p c ∧ RpA X.K F ds xs ∧ g c ds = some (c', d) ∧
    ∀ z o, Rp X.K F d z → CelAt X.K F (upd H p o) p c' → Q z (upd H p o)
section
variable {X : Cx} {W : WX} {e a b c : Expr} {es : List Expr} {m m1 m2 m3 : M Val} {ms : List (M Val)} {pos : Pos}
theorem celT_ok {K : PySem.W.Frag} {F H : Hp} {p : Addr} {c : Cel} {T : String} (h : CelAt K F H p c) (e : celT c = T) : tyV K T (.ref p) H := by
  subst e
  cases c with
  | lst ds => obtain ⟨vs, e, _⟩ := h; exact .inl ⟨rfl, vs, SqL.of e⟩
  | dcK ds => obtain ⟨vs, e, _⟩ := h; exact .inr (.inr (.inl ⟨rfl, .inl ⟨vs, e⟩⟩))
  | dcT ds => obtain ⟨vs, e, _⟩ := h; exact .inr (.inr (.inl ⟨rfl, .inr ⟨vs, e⟩⟩))
theorem mut_args {K : PySem.W.Frag} {mg : Str → Option Value} {B : Bs} {σ : L2.St} {F H : Hp} {Q : VK} {ρ : En} {g : PM} {i : Nat} {x : V} {vs : List Val} {us : List V} (S : St K B ρ σ F H) (ex : σ[i]? = some (some x)) (hu : VSs K F σ us vs)
    (h : Wp K mg W B σ ((settleAll vs ρ).bnd fun ds ρ =>
      (match gt ρ i with
      | .cel b c => (match g c ds with
        | some (c', d) => .ok (.dat d) (pt ρ i (.cel b c'))
        | none => .no)
      | _ => .no)) F Q) :
    ∃ (F : Hp) (p : Addr) (c c' : Cel) (ds : List Dat) (d : Dat), x = .ref p ∧ Same F H ∧ F p = none ∧ CelAt K F H p c ∧ RpA K F ds us ∧ g c ds = some (c', d) ∧
      ∀ z o, Rp K F d z → CelAt K F (upd H p o) p c' → Q z (upd H p o) := by
  obtain ⟨ds, ρ2, F2, S2, q, h2⟩ := args_settled S hu h
  have sl := S2.slot i
  cases hg : gt ρ2 i with
  | un => rw [hg] at h2; exact h2.elim
  | dat _ => rw [hg] at h2; exact h2.elim
  | scr _ => rw [hg] at h2; exact h2.elim
  | cel bk c =>
    rw [hg] at h2 sl
    obtain ⟨p, ep, f, ca⟩ := sl
    rw [ex] at ep
    cases ep
    have h3 : Wp K mg W B σ (match g c ds with
        | some (c', d) => .ok (.dat d) (pt ρ2 i (.cel bk c'))
        | none => .no) F2 Q := h2
    cases eg : g c ds with
    | none => rw [eg] at h3; exact h3.elim
    | some r =>
      obtain ⟨c', d⟩ := r
      rw [eg] at h3
      exact ⟨F2, p, c, c', ds, d, rfl, S2.sub, f, ca, q, eg, fun z o r co => h3 F2 _ z (S2.mut hg ex co) (Same.refl F2) r⟩
theorem ed_mut {T id : String} {name x : Str} {apos cpos px : Pos} {g : PM} (i : Nat) (pa : PlainAttrs T) (slot : PySem.Slot T name id) (hty : typeOf (.builtin id) = pure (.type "method_descriptor")) (hm : MutD X id g) (ha : AD X W (e :: es) ms)
    (hN : X.N[i]? = some x := by rfl) (hv : Vis X.env.scope x := by first | exact Or.inl rfl | exact Or.inr (Or.inl rfl) | exact Or.inr (Or.inr rfl)) (hd : (x == ("__debug__" : Str)) = false := by decide)
    (hcd : (x == ("__classdict__" : Str)) = false := by decide)
    (hbase : attributeBase (.Name x px) name X.env (eval (.Name x px) X.env) = eval (.Name x px) X.env := by rfl)
    (hfew : ((backTo cpos (starEach (e :: es) X.env)).all (fun x => !x.1) && (backToKw cpos (keywordEach [] X.env)).all (fun x => x.1.isSome)
      && decide ((e :: es).length + ([] : List Keyword).length + (if ([] : List Keyword).isEmpty then 0 else 1) < 30)) = true := by rfl)
    (hline : (apos.endLine == cpos.line) = true := by rfl) (hs : starEach (e :: es) X.env = (false, eval e X.env) :: starEach es X.env := by rfl) (hplain : (backTo cpos (starEach es X.env)).any (·.1) = false := by rfl) :
    ED X W (.Call (.Attribute (.Name x px) name apos) (e :: es) [] cpos) (eMut T g i ms) := by
  refine ⟨fun pins s σ H Q I ⟨B, ρ, F, S, hw⟩ => (pe_bm pa slot hty hm (pv i hN hv hd hcd) ha hbase hfew hline hs hplain).run pins s σ H Q I ?_⟩
  have sl := S.slot i
  unfold eMut at hw
  cases hg : gt ρ i with
  | un => rw [hg] at hw; exact hw.elim
  | dat _ => rw [hg] at hw; exact hw.elim
  | scr _ => rw [hg] at hw; exact hw.elim
  | cel bk c =>
    rw [hg] at hw sl
    obtain ⟨p, ep, f, ca⟩ := sl
    by_cases ct : celT c = T
    · have h2 : Wp X.K X.mg W B σ (if celT c = T then (eArgs ms ρ).bnd fun vs ρ => (settleAll vs ρ).bnd fun ds ρ =>
        (match gt ρ i with
        | .cel b c => (match g c ds with
          | some (c', d) => .ok (.dat d) (pt ρ i (.cel b c'))
          | none => .no)
        | _ => .no) else .no) F Q := hw
      rw [if_pos ct] at h2
      refine ⟨_, ep, celT_ok ca ct, B, ρ, F, S, (Wp.splitG h2).mono fun vs ρ1 F1 H1 ⟨_, S1, _, h3⟩ us hu => ?_⟩
      exact mut_args S1 ep hu h3
    · have h2 : Wp X.K X.mg W B σ (if celT c = T then (eArgs ms ρ).bnd fun vs ρ => (settleAll vs ρ).bnd fun ds ρ =>
        (match gt ρ i with
        | .cel b c => (match g c ds with
          | some (c', d) => .ok (.dat d) (pt ρ i (.cel b c'))
          | none => .no)
        | _ => .no) else .no) F Q := hw
      rw [if_neg ct] at h2
      exact h2.elim
theorem ed_mut0 {T id : String} {name x : Str} {apos cpos px : Pos} {g : PM} (i : Nat) (pa : PlainAttrs T) (slot : PySem.Slot T name id) (hty : typeOf (.builtin id) = pure (.type "method_descriptor")) (hm : MutD X id g)
    (hN : X.N[i]? = some x := by rfl) (hv : Vis X.env.scope x := by first | exact Or.inl rfl | exact Or.inr (Or.inl rfl) | exact Or.inr (Or.inr rfl)) (hd : (x == ("__debug__" : Str)) = false := by decide)
    (hcd : (x == ("__classdict__" : Str)) = false := by decide)
    (hbase : attributeBase (.Name x px) name X.env (eval (.Name x px) X.env) = eval (.Name x px) X.env := by rfl) (hline : (apos.endLine == cpos.line) = true := by rfl) :
    ED X W (.Call (.Attribute (.Name x px) name apos) [] [] cpos) (eMut T g i []) := by
  refine ⟨fun pins s σ H Q I ⟨B, ρ, F, S, hw⟩ => (pe_bm0 pa slot hty hm (pv i hN hv hd hcd) hbase hline).run pins s σ H Q I ?_⟩
  have sl := S.slot i
  unfold eMut at hw
  cases hg : gt ρ i with
  | un => rw [hg] at hw; exact hw.elim
  | dat _ => rw [hg] at hw; exact hw.elim
  | scr _ => rw [hg] at hw; exact hw.elim
  | cel bk c =>
    rw [hg] at hw sl
    obtain ⟨p, ep, f, ca⟩ := sl
    by_cases ct : celT c = T
    · have h2 : Wp X.K X.mg W B σ (if celT c = T then (eArgs [] ρ).bnd fun vs ρ => (settleAll vs ρ).bnd fun ds ρ =>
        (match gt ρ i with
        | .cel b c => (match g c ds with
          | some (c', d) => .ok (.dat d) (pt ρ i (.cel b c'))
          | none => .no)
        | _ => .no) else .no) F Q := hw
      rw [if_pos ct] at h2
      exact ⟨_, ep, celT_ok ca ct, mut_args (vs := []) (us := []) S ep trivial h2⟩
    · have h2 : Wp X.K X.mg W B σ (if celT c = T then (eArgs [] ρ).bnd fun vs ρ => (settleAll vs ρ).bnd fun ds ρ =>
        (match gt ρ i with
        | .cel b c => (match g c ds with
          | some (c', d) => .ok (.dat d) (pt ρ i (.cel b c'))
          | none => .no)
        | _ => .no) else .no) F Q := hw
      rw [if_neg ct] at h2
      exact h2.elim
/-! the list's methods -/
def gAppend : PM
  | .lst xs, [d] => if xs.length < sizeLine then some (.lst (xs ++ [d]), .none) else none
  | _, _ => none
theorem mu_append : MutD X "list.append" gAppend := by
  intro pins s σ H x xs v us Q I rx rxs ⟨F, p, c, c', ds, d, ex, sm, f, ca, q, e, fin⟩
  subst ex
  obtain ⟨ys, d1, rfl, rfl⟩ : ∃ ys d1, c = .lst ys ∧ ds = [d1] := by
    cases c with
    | lst ys =>
      cases ds with
      | nil => cases e
      | cons d1 r =>
        cases r with
        | nil => exact ⟨ys, d1, rfl, rfl⟩
        | cons _ _ => cases e
    | dcK _ => cases e
    | dcT _ => cases e
  obtain ⟨vs, hp, r⟩ := ca
  have e' : (if ys.length < sizeLine then some (Cel.lst (ys ++ [d1]), PyData.none) else none) = some (c', d) := e
  by_cases hl : ys.length < sizeLine
  · rw [if_pos hl] at e'
    cases e'
    obtain ⟨w, rr, rfl, q1, q2⟩ := q.cons_inv
    cases q2.nil_inv
    exact mt_append pins s σ H _ _ v us Q I rx rxs ⟨p, vs, w, rfl, rfl, hp, by rw [r.len]; exact hl, fin _ _ rp_none ⟨vs ++ [w], upd_same, r.app (.one q1)⟩⟩
  · rw [if_neg hl] at e'
    cases e'
def gExtend : PM
  | .lst xs, [.list ds] => if xs.length + ds.length ≤ sizeLine then some (.lst (xs ++ ds), .none) else none
  | _, _ => none
theorem mu_extend : MutD X "list.extend" gExtend := by
  intro pins s σ H x xs v us Q I rx rxs ⟨F, p, c, c', ds, d, ex, sm, f, ca, q, e, fin⟩
  subst ex
  obtain ⟨ys, d1, rfl, rfl⟩ : ∃ ys d1, c = .lst ys ∧ ds = [.list d1] := by
    cases c with
    | lst ys =>
      cases ds with
      | nil => cases e
      | cons d1 r =>
        cases r with
        | nil => cases d1 <;> first | exact ⟨ys, _, rfl, rfl⟩ | cases e
        | cons _ _ => cases d1 <;> cases e
    | dcK _ => cases e
    | dcT _ => cases e
  obtain ⟨vs, hp, r⟩ := ca
  have e' : (if ys.length + d1.length ≤ sizeLine then some (Cel.lst (ys ++ d1), PyData.none) else none) = some (c', d) := e
  by_cases hl : ys.length + d1.length ≤ sizeLine
  · rw [if_pos hl] at e'
    cases e'
    obtain ⟨w, rr, rfl, q1, q2⟩ := q.cons_inv
    cases q2.nil_inv
    unfold Rp at q1
    obtain ⟨b, zs, rfl, hb, r1⟩ := q1
    exact mt_extend pins s σ H _ _ v us Q I rx rxs ⟨p, b, vs, zs, rfl, rfl, hp, sm _ _ hb, by rw [r.len, r1.len]; exact hl, fin _ _ rp_none ⟨vs ++ zs, upd_same, r.app r1⟩⟩
  · rw [if_neg hl] at e'
    cases e'
def gPop : PM
  | .lst xs, [] => (xs[xs.length - 1]?).map fun d => (.lst xs.dropLast, d)
  | _, _ => none
theorem RpA.dropLast {K : PySem.W.Frag} {F : Hp} {ds : List Dat} {vs : List V} (h : RpA K F ds vs) : RpA K F ds.dropLast vs.dropLast := by
  rw [List.dropLast_eq_take, List.dropLast_eq_take, h.len]
  exact h.take _
theorem mu_pop : MutD X "list.pop" gPop := by
  intro pins s σ H x xs v us Q I rx rxs ⟨F, p, c, c', ds, d, ex, sm, f, ca, q, e, fin⟩
  subst ex
  obtain ⟨ys, rfl, rfl⟩ : ∃ ys, c = .lst ys ∧ ds = [] := by
    cases c with
    | lst ys =>
      cases ds with
      | nil => exact ⟨ys, rfl, rfl⟩
      | cons d1 r => cases e
    | dcK _ => cases e
    | dcT _ => cases e
  obtain ⟨vs, hp, r⟩ := ca
  have e' : ((ys[ys.length - 1]?).map fun d => (Cel.lst ys.dropLast, d)) = some (c', d) := e
  cases h1 : ys[ys.length - 1]? with
  | none => rw [h1] at e'; cases e'
  | some y =>
    rw [h1] at e'
    cases e'
    obtain ⟨w, h2, r2⟩ := r.at h1
    cases q.nil_inv
    exact mt_pop pins s σ H _ _ v us Q I rx rxs ⟨p, vs, w, rfl, rfl, hp, by rw [r.len]; exact h2, fin _ _ r2 ⟨vs.dropLast, upd_same, r.dropLast⟩⟩
end
end Dl
end

-- text D7
section
set_option Elab.async false
set_option linter.all false
set_option maxRecDepth 100000
set_option maxHeartbeats 1000000
/-! Dl, part 7: statements, loops. -/
namespace Dl
open PySem L2

inductive Fl where
  | nx
  | bk
  | ct
  | rt (v : Val)
abbrev MS := En → R Fl

def WpS (K : PySem.W.Frag) (mg : Str → Option Value) (W : WX) (B : Bs) (F : Hp) (r : R Fl) (D : Ends) : Prop :=
  match r with
  | .ok .nx ρ' => ∀ σ' F' H', St K B ρ' σ' F' H' → Same F F' → D.nx σ' H'
  | .ok .bk ρ' => ∀ σ' F' H', St K B ρ' σ' F' H' → Same F F' → D.bk σ' H'
  | .ok .ct ρ' => ∀ σ' F' H', St K B ρ' σ' F' H' → Same F F' → D.ct σ' H'
  | .ok (.rt v) ρ' => ∀ σ' F' H' u, St K B ρ' σ' F' H' → Same F F' → VR K B ρ' σ' F' H' u v → D.rt u H'
  | .ex x ρ' => ∀ σ' F' H' cls d, St K B ρ' σ' F' H' → Same F F' → XR K mg F' H' x cls d → W cls d σ' H'
  | .no => False

def tDS (K : PySem.W.Frag) (mg : Str → Option Value) (W : WX) (m : MS) : TS := fun D σ H => ∃ (B : Bs) (ρ : En) (F : Hp), St K B ρ σ F H ∧ WpS K mg W B F (m ρ) D
abbrev SD (X : Cx) (W : WX) (s : Stmt) (m : MS) : Prop := PS X s (tDS X.K X.mg W m)
abbrev SsD (X : Cx) (W : WX) (s : List Stmt) (m : MS) : Prop := PSs X s (tDS X.K X.mg W m)

section
variable {K : PySem.W.Frag} {mg : Str → Option Value} {W : WX} {B : Bs} {σ : L2.St} {F F' H H' : Hp} {D D' : Ends} {ρ ρ' : En}
theorem WpS.up {r : R Fl} (h : WpS K mg W B F r D) (s : Same F F') : WpS K mg W B F' r D := by
  cases r with
  | no => exact h
  | ex a b => exact fun σ2 F2 H2 u d S' s' v' => h σ2 F2 H2 u d S' (s.trans s') v'
  | ok a b =>
    cases a with
    | nx => exact fun σ2 F2 H2 S' s' => h σ2 F2 H2 S' (s.trans s')
    | bk => exact fun σ2 F2 H2 S' s' => h σ2 F2 H2 S' (s.trans s')
    | ct => exact fun σ2 F2 H2 S' s' => h σ2 F2 H2 S' (s.trans s')
    | rt v => exact fun σ2 F2 H2 u S' s' v' => h σ2 F2 H2 u S' (s.trans s') v'
/-- a value, then a statement's rest -/
theorem WpS.splitV {r : R Val} {f : Val → En → R Fl} (h : WpS K mg W B F (r.bnd f) D) :
    Wp K mg W B σ r F (fun u H' => ∃ v ρ' F', r = .ok v ρ' ∧ St K B ρ' σ F' H' ∧ Same F F' ∧ VR K B ρ' σ F' H' u v ∧ WpS K mg W B F' (f v ρ') D) := by
  cases r with
  | no => exact h
  | ex x ρ' => exact fun F' H' cls d S sm xr => h σ F' H' cls d S sm xr
  | ok v ρ' => exact fun F' H' u S sm vr => ⟨v, ρ', F', rfl, S, sm, vr, WpS.up (r := f v ρ') h sm⟩
theorem WpS.splitG {α : Type} {r : R α} {f : α → En → R Fl} (h : WpS K mg W B F (r.bnd f) D) :
    WpG K mg W B σ F r (fun b ρ' F' H' => r = .ok b ρ' ∧ St K B ρ' σ F' H' ∧ Same F F' ∧ WpS K mg W B F' (f b ρ') D) := by
  cases r with
  | no => exact h
  | ex x ρ' => exact fun F' H' cls d S sm xr => h σ F' H' cls d S sm xr
  | ok v ρ' => exact fun F' H' S sm => ⟨rfl, S, sm, WpS.up (r := f v ρ') h sm⟩
end

/-! ### blocks -/
def seqS (m1 m2 : MS) : MS := fun ρ =>
  match m1 ρ with
  | .ok .nx ρ' => m2 ρ'
  | r => r
def sNil : MS := fun ρ => .ok .nx ρ
section
variable {X : Cx} {W : WX} {st : Stmt} {sts body orelse : List Stmt} {e a b c : Expr} {es : List Expr} {m m1 m2 m3 : M Val} {s s1 s2 : MS} {p : M Bool} {pos : Pos}
theorem seq_fix {K : PySem.W.Frag} {mg : Str → Option Value} {B : Bs} {F : Hp} {D : Ends} {ρ : En} {m1 m2 : MS} (h : WpS K mg W B F (seqS m1 m2 ρ) D) :
    WpS K mg W B F (m1 ρ) { D with nx := fun σ' H' => tDS K mg W m2 D σ' H' } := by
  have h' : WpS K mg W B F (match m1 ρ with
    | .ok .nx ρ' => m2 ρ'
    | r => r) D := h
  cases hr : m1 ρ with
  | no => rw [hr] at h'; exact h'
  | ex a b => rw [hr] at h'; exact h'
  | ok a b =>
    rw [hr] at h'
    cases a with
    | nx => exact fun σ2 F2 H2 S' s' => ⟨B, b, F2, S', WpS.up (r := m2 b) h' s'⟩
    | bk => exact h'
    | ct => exact h'
    | rt v => exact h'
theorem ssd_nil : SsD X W [] sNil := ⟨fun pins s σ H D I ⟨B, ρ, F, S, h⟩ => pss_nil.run pins s σ H D I (h σ F H S (Same.refl F))⟩
theorem ssd_cons (h1 : SD X W st s1) (h2 : SsD X W sts s2) : SsD X W (st :: sts) (seqS s1 s2) :=
  ⟨fun pins s σ H D I ⟨B, ρ, F, S, h⟩ => (pss_cons h1 h2).run pins s σ H D I ⟨B, ρ, F, S, seq_fix h⟩⟩
theorem ssd_one (h1 : SD X W st s1) : SsD X W [st] s1 := pss_one h1

/-! ### small statements -/
def sPass : MS := fun ρ => .ok .nx ρ
def sBrk : MS := fun ρ => .ok .bk ρ
def sCnt : MS := fun ρ => .ok .ct ρ
theorem sd_pass : SD X W (.Pass pos) sPass := ⟨fun pins s σ H D I ⟨B, ρ, F, S, h⟩ => ps_pass.run pins s σ H D I (h σ F H S (Same.refl F))⟩
theorem sd_brk : SD X W (.Break pos) sBrk := ⟨fun pins s σ H D I ⟨B, ρ, F, S, h⟩ => ps_break.run pins s σ H D I (h σ F H S (Same.refl F))⟩
theorem sd_cnt : SD X W (.Continue pos) sCnt := ⟨fun pins s σ H D I ⟨B, ρ, F, S, h⟩ => ps_continue.run pins s σ H D I (h σ F H S (Same.refl F))⟩
def sExpr (m : M Val) : MS := fun ρ => (m ρ).bnd fun _ ρ => .ok .nx ρ
theorem sd_expr (he : ED X W e m) (hs : swapsWith e none pos.line X.env = pure false := by rfl) : SD X W (.Expr e pos) (sExpr m) :=
  ⟨fun pins s σ H D I ⟨B, ρ, F, S, h⟩ => (ps_expr he hs).run pins s σ H D I ⟨B, ρ, F, S, (WpS.splitV h).mono fun u H' ⟨v, ρ', F', _, S', _, vr, h'⟩ => h' σ F' H' S' (Same.refl F')⟩⟩
def sRet (m : M Val) : MS := fun ρ => (m ρ).bnd fun v ρ => .ok (.rt v) ρ
theorem sd_ret (he : ED X W e m) : SD X W (.Return (some e) pos) (sRet m) :=
  ⟨fun pins s σ H D I ⟨B, ρ, F, S, h⟩ => (ps_ret he).run pins s σ H D I ⟨B, ρ, F, S, (WpS.splitV h).mono fun u H' ⟨v, ρ', F', _, S', _, vr, h'⟩ => h' σ F' H' u S' (Same.refl F') vr⟩⟩
def sRetN : MS := fun ρ => .ok (.rt (.dat .none)) ρ
theorem sd_retN : SD X W (.Return none pos) sRetN := ⟨fun pins s σ H D I ⟨B, ρ, F, S, h⟩ => ps_retN.run pins s σ H D I (h σ F H .non S (Same.refl F) (rp_none (K := X.K) (F := F)))⟩
def sIf (p : M Bool) (s1 s2 : MS) : MS := fun ρ => (p ρ).bnd fun b ρ => if b = true then s1 ρ else s2 ρ
theorem sd_if (hc : TD X W c p) (ha : SsD X W body s1) (hb : SsD X W orelse s2) : SD X W (.If c body orelse pos) (sIf p s1 s2) := by
  refine ⟨fun pins s σ H D I ⟨B, ρ, F, S, h⟩ => (ps_if hc ha hb).run pins s σ H D I ⟨B, ρ, F, S, (WpS.splitG h).mono fun k ρ' F' H' ⟨_, S', _, h'⟩ => ?_⟩⟩
  cases k with
  | true => exact ⟨B, ρ', F', S', h'⟩
  | false => exact ⟨B, ρ', F', S', h'⟩

/-! ### storing -/
def locked (ρ : En) (i : Nat) : Bool :=
  match gt ρ i with
  | .cel true _ => true
  | _ => false
theorem unlocked {ρ : En} {i : Nat} (h : locked ρ i = false) : ∀ c, gt ρ i ≠ .cel true c := fun c e => by
  unfold locked at h
  rw [e] at h
  cases h
def putV (i : Nat) (v : Val) : MS := fun ρ => if locked ρ i = true then .no else
  match v with
  | .dat d => .ok .nx (pt ρ i (.dat d))
  | .cel c => .ok .nx (pt ρ i (.cel false c))
  | .bor j => (settleS j ρ).bnd fun d ρ => if locked ρ i = true then .no else .ok .nx (pt ρ i (.dat d))
theorem putV_ok {K : PySem.W.Frag} {mg : Str → Option Value} {B : Bs} {σ : L2.St} {F H : Hp} {D : Ends} {ρ : En} {i : Nat} {v : Val} {u : V} (S : St K B ρ σ F H) (vr : VR K B ρ σ F H u v)
    (h : WpS K mg W B F (putV i v ρ) D) : D.nx (σ.set i (some u)) H := by
  unfold putV at h
  by_cases lk : locked ρ i = true
  · rw [if_pos lk] at h
    exact h.elim
  · rw [if_neg lk] at h
    have ul := unlocked (Bool.eq_false_iff.mpr lk)
    cases v with
    | dat d => exact h _ F H (S.store (s := .dat d) ul vr) (Same.refl F)
    | cel c => exact h _ F H (S.store (s := .cel false c) ul ⟨rfl, vr⟩) (Same.refl F)
    | bor j =>
      have h' : WpS K mg W B F ((settleS j ρ).bnd fun d ρ => if locked ρ i = true then .no else .ok .nx (pt ρ i (.dat d))) D := h
      cases e : settleS j ρ with
      | no => rw [e] at h'; exact h'.elim
      | ex x ρ1 => exact (settle_noex (v := .bor j) e).elim
      | ok d ρ1 =>
        rw [e] at h'
        have h2 : WpS K mg W B F (if locked ρ1 i = true then .no else .ok .nx (pt ρ1 i (.dat d))) D := h'
        obtain ⟨F', S', sm, q⟩ := settle_ok (v := .bor j) S vr e
        by_cases lk2 : locked ρ1 i = true
        · rw [if_pos lk2] at h2
          exact h2.elim
        · rw [if_neg lk2] at h2
          exact h2 _ F' H (S'.store (s := .dat d) (unlocked (Bool.eq_false_iff.mpr lk2)) q) sm
def sSet (i : Nat) (m : M Val) : MS := fun ρ => (m ρ).bnd fun v ρ => putV i v ρ
theorem sd_set (i : Nat) {x : Str} {pos' : Pos} (hN : X.N.Nodup) (he : ED X W e m) (hi : X.N[i]? = some x := by rfl) (hx : Loc X.env.scope x := by first | exact Or.inl rfl | exact Or.inr rfl)
    (hs : swapsWith e (some (.Name x pos')) pos.line X.env = pure false := by rfl) (hf : X.fn x = true ∨ X.env.scope.names.lookup x = some .local := by first | exact .inl rfl | exact .inr rfl | assumption) :
    SD X W (.Assign [.Name x pos'] e pos) (sSet i m) :=
  ⟨fun pins s σ H D I ⟨B, ρ, F, S, h⟩ => (ps_set hN hi hx he hs hf).run pins s σ H D I ⟨B, ρ, F, S, (WpS.splitV h).mono fun u H' ⟨v, ρ', F', _, S', _, vr, h'⟩ => putV_ok S' vr h'⟩⟩

/-! ### targets -/
inductive Tg where
  | nm (i : Nat)
  | tp (ts : List Tg)
mutual
def Tg.bind : Tg → Dat → En → Option En
  | .nm i, d, ρ => if locked ρ i = true then none else some (pt ρ i (.dat d))
  | .tp ts, .tuple ds, ρ => Tg.bindAll ts ds ρ
  | .tp _, _, _ => none
def Tg.bindAll : List Tg → List Dat → En → Option En
  | [], [], ρ => some ρ
  | t :: ts, d :: ds, ρ => match Tg.bind t d ρ with
    | some ρ => Tg.bindAll ts ds ρ
    | none => none
  | _, _, _ => none
end
mutual
def Tg.slots : Tg → List Nat
  | .nm i => [i]
  | .tp ts => Tg.slotsAll ts
def Tg.slotsAll : List Tg → List Nat
  | [] => []
  | t :: ts => Tg.slots t ++ Tg.slotsAll ts
end
/-- other slots are left -/
def Oth (l : List Nat) (σ σ' : L2.St) : Prop := σ'.length = σ.length ∧ ∀ j, j ∉ l → σ'[j]? = σ[j]?
theorem Oth.refl {l : List Nat} {σ : L2.St} : Oth l σ σ := ⟨rfl, fun _ _ => rfl⟩
theorem Oth.app {l l' : List Nat} {σ σ1 σ2 : L2.St} (a : Oth l σ σ1) (b : Oth l' σ1 σ2) : Oth (l ++ l') σ σ2 :=
  ⟨b.1.trans a.1, fun j h => (b.2 j fun z => h (List.mem_append_right _ z)).trans (a.2 j fun z => h (List.mem_append_left _ z))⟩
def tDG (K : PySem.W.Frag) (t : Tg) : TG := fun v σ H Q => ∃ (B : Bs) (ρ : En) (F : Hp) (d : Dat) (ρ' : En), St K B ρ σ F H ∧ Rp K F d v ∧ t.bind d ρ = some ρ' ∧ ∀ σ', Oth t.slots σ σ' → St K B ρ' σ' F H → Q σ' H
abbrev GD (X : Cx) (e : Expr) (t : Tg) : Prop := PG X e (tDG X.K t)
theorem gd_name (i : Nat) {x : Str} (hN : X.N.Nodup) (hi : X.N[i]? = some x := by rfl) (hx : Loc X.env.scope x := by first | exact Or.inl rfl | exact Or.inr rfl)
    (hf : X.fn x = true ∨ X.env.scope.names.lookup x = some .local := by first | exact .inl rfl | exact .inr rfl | assumption) : GD X (.Name x pos) (.nm i) := by
  refine ⟨fun pins s σ H v u Q I r ⟨B, ρ, F, d, ρ', S, q, e, k⟩ => (pg_name hN hi hx hf).run pins s σ H v u Q I r ?_⟩
  unfold Tg.bind at e
  by_cases lk : locked ρ i = true
  · rw [if_pos lk] at e
    cases e
  · rw [if_neg lk] at e
    cases e
    refine k _ ⟨by rw [List.length_set], fun j hj => ?_⟩ (S.store (s := .dat d) (unlocked (Bool.eq_false_iff.mpr lk)) q)
    unfold Tg.slots at hj
    exact set_ne fun z => hj (by rw [z]; exact List.mem_singleton.mpr rfl)
def tDGs (K : PySem.W.Frag) (ts : List Tg) : TGs := fun vs σ H Q => ∃ (B : Bs) (ρ : En) (F : Hp) (ds : List Dat) (ρ' : En), St K B ρ σ F H ∧ RpA K F ds vs ∧ Tg.bindAll ts ds ρ = some ρ' ∧ ∀ σ', Oth (Tg.slotsAll ts) σ σ' → St K B ρ' σ' F H → Q σ' H
abbrev GsD (X : Cx) (es : List Expr) (ts : List Tg) : Prop := PGs X es (tDGs X.K ts)
theorem gsd_nil : GsD X [] [] := by
  refine ⟨fun pins s σ H vs us Q I r ⟨B, ρ, F, ds, ρ', S, q, e, k⟩ => pgs_nil.run pins s σ H vs us Q I r ?_⟩
  cases ds with
  | nil =>
    unfold Tg.bindAll at e
    cases e
    exact ⟨q.nil_inv, k σ Oth.refl S⟩
  | cons _ _ => simp [Tg.bindAll] at e
theorem gsd_cons {t : Expr} {ts : List Expr} {b : Tg} {bs : List Tg} (h1 : GD X t b) (h2 : GsD X ts bs) (hs : (assignEach (t :: ts) X.env).map (·.2) = assign t X.env :: (assignEach ts X.env).map (·.2) := by rfl) : GsD X (t :: ts) (b :: bs) := by
  refine ⟨fun pins s σ H vs us Q I r ⟨B, ρ, F, ds, ρ', S, q, e, k⟩ => (pgs_cons h1 h2 hs).run pins s σ H vs us Q I r ?_⟩
  cases ds with
  | nil => simp [Tg.bindAll] at e
  | cons d ds =>
    unfold Tg.bindAll at e
    obtain ⟨v, vr, rfl, q1, q2⟩ := q.cons_inv
    cases e1 : b.bind d ρ with
    | none => rw [e1] at e; cases e
    | some ρ1 =>
      rw [e1] at e
      refine ⟨v, vr, rfl, B, ρ, F, d, ρ1, S, q1, e1, fun σ1 o1 S1 => ⟨B, ρ1, F, ds, ρ', S1, q2, e, fun σ2 o2 S2 => k σ2 ?_ S2⟩⟩
      unfold Tg.slotsAll
      exact o1.app o2
theorem bindAll_len : ∀ {bs : List Tg} {ds : List Dat} {ρ ρ' : En}, Tg.bindAll bs ds ρ = some ρ' → ds.length = bs.length
  | [], [], _, _, _ => rfl
  | b :: bs, d :: ds, ρ, ρ', e => by
    unfold Tg.bindAll at e
    cases e1 : b.bind d ρ with
    | none => rw [e1] at e; cases e
    | some ρ1 => rw [e1] at e; exact congrArg Nat.succ (bindAll_len e)
  | [], _ :: _, _, _, e => by simp [Tg.bindAll] at e
  | _ :: _, [], _, _, e => by simp [Tg.bindAll] at e
theorem gd_tup {es : List Expr} {k : Nat} {bs : List Tg} (hc : X.calm = true) (h : GsD X es bs) (hn : (assignEach es X.env).length = bs.length := by rfl) (hst : (assignEach es X.env).findIdx? (·.1) = none := by rfl) :
    GD X (.Tuple es k pos) (.tp bs) := by
  refine ⟨fun pins s σ H v u Q I r ⟨B, ρ, F, d, ρ', S, q, e, kk⟩ => (pg_tup hc h hn hst).run pins s σ H v u Q I r ?_⟩
  cases d with
  | tuple ds =>
    unfold Tg.bind at e
    unfold Rp at q
    obtain ⟨a, xs, rfl, hq, qa⟩ := q
    refine ⟨a, xs, rfl, same_t S.sub hq, qa.len.trans (bindAll_len e), B, ρ, F, ds, ρ', S, qa, e, fun σ' o => kk σ' ?_⟩
    unfold Tg.slots
    exact o
  | _ => simp [Tg.bind] at e
/-- a, b = e -/
def sUnp (b : Tg) (m : M Val) : MS := fun ρ => (m ρ).bnd fun v ρ => (settle v ρ).bnd fun d ρ =>
  match b.bind d ρ with
  | some ρ => .ok .nx ρ
  | none => .no
theorem sd_unp {tg : Expr} {bb : Tg} (he : ED X W e m) (hg : GD X tg bb) (hs : swapsWithSole [tg] e pos.line X.env = pure false := by rfl) (hw : swappedStores [tg] e X.env = pure none := by rfl)
    (h1 : (assignEach [tg] X.env).map (·.2) = [assign tg X.env] := by rfl) : SD X W (.Assign [tg] e pos) (sUnp bb m) := by
  refine ⟨fun pins s σ H D I ⟨B, ρ, F, S, h⟩ => (ps_asg he hg hs hw h1).run pins s σ H D I ⟨B, ρ, F, S, (WpS.splitV h).mono fun u H' ⟨v, ρ', F', _, S', _, vr, h'⟩ => ?_⟩⟩
  cases e1 : settle v ρ' with
  | no => rw [e1] at h'; exact h'.elim
  | ex x ρ1 => exact (settle_noex e1).elim
  | ok d ρ1 =>
    rw [e1] at h'
    obtain ⟨F2, S2, sm, q⟩ := settle_ok S' vr e1
    have h2 : WpS X.K X.mg W B F' (match bb.bind d ρ1 with
      | some ρ => .ok .nx ρ
      | none => .no) D := h'
    cases e2 : bb.bind d ρ1 with
    | none => rw [e2] at h2; exact h2.elim
    | some ρ2 =>
      rw [e2] at h2
      exact ⟨B, ρ1, F2, d, ρ2, S2, q, e2, fun σ3 _ S3 => h2 σ3 F2 H' S3 sm⟩
/-- a, b = x, y with plain local names -/
def sPar (i j : Nat) (m1 m2 : M Val) : MS := fun ρ => (m1 ρ).bnd fun v1 ρ => (settle v1 ρ).bnd fun d1 ρ => (m2 ρ).bnd fun v2 ρ => (settle v2 ρ).bnd fun d2 ρ =>
  if locked ρ i = true then .no else if locked (pt ρ i (.dat d1)) j = true then .no else .ok .nx (pt (pt ρ i (.dat d1)) j (.dat d2))

/-! ### loops -/
/-- one turn behind the target's binding -/
def turnS (r : R Fl) (k : MS) : R Fl :=
  match r with
  | .ok .nx ρ => k ρ
  | .ok .ct ρ => k ρ
  | .ok .bk ρ => .ok .nx ρ
  | r => r
def forD (b : Tg) (body : MS) : List Dat → MS
  | [], ρ => .ok .nx ρ
  | d :: ds, ρ => match b.bind d ρ with
    | some ρ1 => turnS (body ρ1) (forD b body ds)
    | none => .no
/-- what an iterable is -/
def WalkD (K : PySem.W.Frag) (F : Hp) (ds : List Dat) (J : It) : Prop :=
  (∀ k H, k < ds.length → Same F H → J.go k H) ∧ (∀ H, Same F H → J.stop ds.length H) ∧
    ∀ k H x H', Same F H → J.yld k H x H' → ∀ d, ds[k]? = some d → FinR K F H (.dat d) x H'
def tDI (K : PySem.W.Frag) (mg : Str → Option Value) (W : WX) (m : M (List Dat)) : TI := fun σ H R => ∃ (B : Bs) (ρ : En) (F : Hp), St K B ρ σ F H ∧ WpG K mg W B σ F (m ρ) fun ds _ F' H' => ∀ J, WalkD K F' ds J → R J H'
abbrev ID (X : Cx) (W : WX) (tg e : Expr) (m : M (List Dat)) : Prop := PI X tg e (tDI X.K X.mg W m)
def sFor (mi : M (List Dat)) (b : Tg) (body : MS) : MS := fun ρ => (mi ρ).bnd fun ds ρ => forD b body ds ρ

theorem turn_fix {K : PySem.W.Frag} {mg : Str → Option Value} {B : Bs} {F : Hp} {D : Ends} {r : R Fl} {k : MS} {N : L2.St → Hp → Prop} (h : WpS K mg W B F (turnS r k) D)
    (hn : ∀ ρ' σ' F' H', St K B ρ' σ' F' H' → Same F F' → WpS K mg W B F' (k ρ') D → N σ' H') :
    WpS K mg W B F r { D with nx := N, ct := N, bk := D.nx } := by
  cases r with
  | no => exact h
  | ex a b => exact h
  | ok a b =>
    cases a with
    | nx => exact fun σ2 F2 H2 S' s' => hn b σ2 F2 H2 S' s' (WpS.up (r := k b) h s')
    | ct => exact fun σ2 F2 H2 S' s' => hn b σ2 F2 H2 S' s' (WpS.up (r := k b) h s')
    | bk => exact h
    | rt v => exact h
theorem FinR.up {K : PySem.W.Frag} {F F' H H' : Hp} {d : Dat} {z : V} (s : Same F F') (h : FinR K F H (.dat d) z H') : FinR K F' H (.dat d) z H' := by
  rcases h with ⟨e, q⟩ | ⟨p, ds, vs, e1, e2, e3, e4, q⟩
  · exact .inl ⟨e, q.mono s⟩
  · exact .inr ⟨p, ds, vs, e1, e2, e3, e4, q.mono s⟩
theorem sd_for {tg iter : Expr} {mi : M (List Dat)} {bb : Tg} (hp : PassesOwn (model X.prog X.w) X.A X.env X.xe) (hc : X.calm = true) (hi : ID X W tg iter mi) (hg : GD X tg bb) (hb : SsD X W body s)
    (hs : ∀ x, foldedSetIterable iter X.env x = pure x := by intro _; rfl) : SD X W (.For tg iter body [] pos) (sFor mi bb s) := by
  refine ⟨fun pins st σ H D I ⟨B, ρ, F, S, h⟩ => (ps_for hp hc hi hg hb hs).run pins st σ H D I ⟨B, ρ, F, S, (WpS.splitG h).mono fun ds ρ1 F1 H1 ⟨_, S1, _, h1⟩ J w => ?_⟩⟩
  obtain ⟨wg, ws, wy⟩ := w
  refine ⟨fun k n σ H => ∃ ρ F, St X.K B ρ σ F H ∧ Same F1 F ∧ n = ds.length - k ∧ k ≤ ds.length ∧ WpS X.K X.mg W B F (forD bb s (ds.drop k) ρ) D, ⟨ds.length, ρ1, F1, S1, Same.refl F1, by simp, Nat.zero_le _, by simpa using h1⟩, ?_⟩
  rintro k n σ2 H2 ⟨ρ2, F2, S2, sm2, rfl, hk, h2⟩
  by_cases hlt : k < ds.length
  · refine .inr ⟨wg k H2 hlt (sm2.trans S2.sub), ?_⟩
    obtain ⟨d, hd⟩ : ∃ d, ds[k]? = some d := ⟨ds[k], List.getElem?_eq_getElem hlt⟩
    have hdr : ds.drop k = d :: ds.drop (k + 1) := by
      rw [List.drop_eq_getElem_cons hlt]
      rw [List.getElem?_eq_getElem hlt] at hd
      rw [Option.some.inj hd]
    rw [hdr] at h2
    have h3 : WpS X.K X.mg W B F2 (match bb.bind d ρ2 with
      | some ρ1 => turnS (s ρ1) (forD bb s (ds.drop (k + 1)))
      | none => .no) D := h2
    cases eb : bb.bind d ρ2 with
    | none => rw [eb] at h3; exact h3.elim
    | some ρ3 =>
      rw [eb] at h3
      refine ⟨fun σ' H' => ∃ ρ F, St X.K B ρ σ' F H' ∧ Same F1 F ∧ WpS X.K X.mg W B F (forD bb s (ds.drop (k + 1)) ρ) D, fun σ' H' ⟨ρ4, F4, S4, sm4, h4⟩ => ⟨ds.length - (k + 1), by omega, ρ4, F4, S4, sm4, rfl, hlt, h4⟩, fun x H' hy => ?_⟩
      obtain ⟨F5, S5, sm5, q5⟩ := ((wy k H2 x H' (sm2.trans S2.sub) hy d hd).up sm2).to S2
      refine ⟨B, ρ2, F5, d, ρ3, S5, q5, eb, fun σ6 _ S6 => ⟨B, ρ3, F5, S6, turn_fix (WpS.up h3 sm5) fun ρ7 σ7 F7 H7 S7 sm7 h7 => ⟨ρ7, F7, S7, (sm2.trans sm5).trans sm7, h7⟩⟩⟩
  · have ek : k = ds.length := by omega
    subst ek
    refine .inl ⟨ws H2 (sm2.trans S2.sub), ?_⟩
    rw [List.drop_length] at h2
    exact h2 σ2 F2 H2 S2 (Same.refl F2)

/-! while -/
def whN (p : M Bool) (body : MS) : Nat → En → Option (R Fl)
  | 0, _ => none
  | n + 1, ρ => match p ρ with
    | .ok true ρ1 => (match body ρ1 with
      | .ok .nx ρ2 => whN p body n ρ2
      | .ok .ct ρ2 => whN p body n ρ2
      | .ok .bk ρ2 => some (.ok .nx ρ2)
      | r => some r)
    | .ok false ρ1 => some (.ok .nx ρ1)
    | .ex x ρ1 => some (.ex x ρ1)
    | .no => some .no
theorem whN_mono {p : M Bool} {body : MS} : ∀ {n : Nat} {ρ : En} {r : R Fl} (k : Nat), whN p body n ρ = some r → whN p body (n + k) ρ = some r
  | 0, _, _, _, e => by cases e
  | n + 1, ρ, r, k, e => by
    rw [Nat.add_right_comm]
    unfold whN at e ⊢
    cases hp : p ρ with
    | no => rw [hp] at e; exact e
    | ex x ρ1 => rw [hp] at e; exact e
    | ok b ρ1 =>
      rw [hp] at e
      cases b with
      | false => exact e
      | true =>
        simp only at e ⊢
        cases hb : body ρ1 with
        | no => rw [hb] at e; exact e
        | ex x ρ2 => rw [hb] at e; exact e
        | ok f ρ2 =>
          rw [hb] at e
          cases f with
          | nx => exact whN_mono k e
          | ct => exact whN_mono k e
          | bk => exact e
          | rt v => exact e
theorem whN_det {p : M Bool} {body : MS} {n m : Nat} {ρ : En} {r q : R Fl} (h : whN p body n ρ = some r) (h' : whN p body m ρ = some q) : r = q := by
  have a := whN_mono m h
  have b := whN_mono n h'
  rw [Nat.add_comm] at b
  exact Option.some.inj (a.symm.trans b)
open Classical in
noncomputable def sWhile (p : M Bool) (body : MS) : MS := fun ρ => if h : ∃ n r, whN p body n ρ = some r then (h.choose_spec).choose else .no
theorem sWhile_eq {p : M Bool} {body : MS} {n : Nat} {ρ : En} {r : R Fl} (h : whN p body n ρ = some r) : sWhile p body ρ = r := by
  unfold sWhile
  have hh : ∃ n r, whN p body n ρ = some r := ⟨n, r, h⟩
  rw [dif_pos hh]
  exact whN_det (hh.choose_spec).choose_spec h
theorem sWhile_is {p : M Bool} {body : MS} {ρ : En} (h : sWhile p body ρ ≠ .no) : ∃ n, whN p body n ρ = some (sWhile p body ρ) := by
  by_cases hh : ∃ n r, whN p body n ρ = some r
  · obtain ⟨n, r, e⟩ := hh
    exact ⟨n, by rw [sWhile_eq e]; exact e⟩
  · refine absurd ?_ h
    unfold sWhile
    rw [dif_neg hh]
theorem sd_while (hp : PassesOwn (model X.prog X.w) X.A X.env X.xe) (hc : TD X W c p) (hb : SsD X W body s) : SD X W (.While c body [] pos) (sWhile p s) := by
  refine ⟨fun pins st σ H D I ⟨B, ρ, F, S, h⟩ => (ps_while hp hc hb).run pins st σ H D I ?_⟩
  obtain ⟨n0, e0⟩ := sWhile_is (p := p) (body := s) (ρ := ρ) (fun z => by rw [z] at h; exact h)
  refine ⟨fun n σ H => ∃ ρ F r, St X.K B ρ σ F H ∧ whN p s n ρ = some r ∧ WpS X.K X.mg W B F r D, ⟨n0, ρ, F, _, S, e0, h⟩, ?_⟩
  rintro n σ1 H1 ⟨ρ1, F1, r, S1, e1, h1⟩
  cases n with
  | zero => cases e1
  | succ n =>
    unfold whN at e1
    refine ⟨B, ρ1, F1, S1, ?_⟩
    cases hp : p ρ1 with
    | no => rw [hp] at e1; cases e1; exact h1
    | ex x ρ2 =>
      rw [hp] at e1
      cases e1
      exact fun F' H' cls d S' s' xr => h1 σ1 F' H' cls d S' s' xr
    | ok b ρ2 =>
      rw [hp] at e1
      intro F2 H2 S2 sm2
      cases b with
      | false =>
        cases e1
        exact h1 σ1 F2 H2 S2 sm2
      | true =>
        simp only at e1
        rw [if_pos rfl]
        refine ⟨fun σ' H' => ∃ ρ F r, St X.K B ρ σ' F H' ∧ whN p s n ρ = some r ∧ WpS X.K X.mg W B F r D, fun σ' H' ⟨ρ3, F3, r3, S3, e3, h3⟩ => ⟨n, Nat.lt_succ_self n, ρ3, F3, r3, S3, e3, h3⟩, B, ρ2, F2, S2, ?_⟩
        cases hb : s ρ2 with
        | no => rw [hb] at e1; cases e1; exact h1
        | ex x ρ4 =>
          rw [hb] at e1
          cases e1
          exact WpS.up (r := .ex x ρ4) h1 sm2
        | ok f ρ4 =>
          rw [hb] at e1
          cases f with
          | nx => exact fun σ' F' H' S' s' => ⟨ρ4, F', r, S', e1, h1.up (sm2.trans s')⟩
          | ct => exact fun σ' F' H' S' s' => ⟨ρ4, F', r, S', e1, h1.up (sm2.trans s')⟩
          | bk =>
            cases e1
            exact fun σ' F' H' S' s' => h1 σ' F' H' S' (sm2.trans s')
          | rt v =>
            cases e1
            exact fun σ' F' H' u S' s' vr => h1 σ' F' H' u S' (sm2.trans s') vr
end
end Dl
end

-- text D8
section
set_option Elab.async false
set_option linter.all false
set_option maxRecDepth 100000
set_option maxHeartbeats 1000000
/-! Dl, part 8: what is walked; comprehensions. -/
namespace Dl
open PySem L2

/-! ### what is walked -/
def chD (x : Str) : List Dat := x.cps.toList.map fun c => .str ⟨#[c]⟩
def itD : Dat → Option (List Dat)
  | .list ds => some ds
  | .tuple ds => some ds
  | .str x => some (chD x)
  | _ => none
def iVal (m : M Val) : M (List Dat) := fun ρ => (m ρ).bnd fun v ρ => (settle v ρ).bnd fun d ρ =>
  match itD d with
  | some ds => .ok ds ρ
  | none => .no

section
variable {K : PySem.W.Frag} {F F' H H' : Hp}
theorem walkD_lst {a : Addr} {xs : List V} {ds : List Dat} (h : F a = some (.lst xs)) (r : RpA K F ds xs) : WalkD K F ds (Itl K a) := by
  refine ⟨fun k H hk s => ?_, fun H s => ⟨xs, SqL.of (s _ _ h), Nat.le_of_eq r.len⟩, fun k H x H' s y d hd => ?_⟩
  · obtain ⟨d, hd⟩ : ∃ d, ds[k]? = some d := ⟨ds[k], List.getElem?_eq_getElem hk⟩
    obtain ⟨v, e, _⟩ := r.at hd
    exact ⟨xs, v, SqL.of (s _ _ h), e⟩
  · obtain ⟨e, y⟩ := y
    obtain ⟨v, e2, q⟩ := r.at hd
    rw [y xs (SqL.of (s _ _ h))] at e2
    cases e2
    exact .inl ⟨e, q⟩
theorem walkD_tup {a : Addr} {xs : List V} {ds : List Dat} (h : SqT K F a xs) (r : RpA K F ds xs) : WalkD K F ds (Itt K a) := by
  refine ⟨fun k H hk s => ?_, fun H s => ⟨xs, same_t s h, Nat.le_of_eq r.len⟩, fun k H x H' s y d hd => ?_⟩
  · obtain ⟨d, hd⟩ : ∃ d, ds[k]? = some d := ⟨ds[k], List.getElem?_eq_getElem hk⟩
    obtain ⟨v, e, _⟩ := r.at hd
    exact ⟨xs, v, same_t s h, e⟩
  · obtain ⟨e, y⟩ := y
    obtain ⟨v, e2, q⟩ := r.at hd
    rw [y xs (same_t s h)] at e2
    cases e2
    exact .inl ⟨e, q⟩
theorem walkD_str {z : Str} : WalkD K F (chD z) (Its z) := by
  have w := walk_str (z := z)
  have hl : (chD z).length = z.cps.size := by unfold chD; simp
  refine ⟨fun k H hk s => w.goes k H (by rw [← hl]; exact hk) trivial, fun H s => by rw [hl]; exact w.stops H trivial, fun k H x H' s y d hd => ?_⟩
  have hk : k < z.cps.size := by
    by_cases c : k < z.cps.size
    · exact c
    · have : (chD z)[k]? = none := List.getElem?_eq_none (by rw [hl]; omega)
      rw [this] at hd
      cases hd
  obtain ⟨e, c, hc, ex⟩ := w.yields k H x H' hk trivial y
  refine .inl ⟨e, ?_⟩
  have e2 : (chD z)[k]? = some (.str ⟨#[c]⟩) := by
    unfold chD
    rw [List.getElem?_map, Array.getElem?_toList, hc]
    rfl
  rw [e2] at hd
  cases hd
  rw [ex]
  exact rp_str
end

section
variable {X : Cx} {W : WX} {e a b c tg : Expr} {m m1 m2 m3 : M Val} {pos : Pos}
theorem id_val (h : ED X W e m) : ID X W tg e (iVal m) := by
  refine ⟨fun pins s σ H R0 I ⟨B, ρ, F, S, hw⟩ => ?_⟩
  have hw : WpG X.K X.mg W B σ F ((m ρ).bnd fun v ρ => (settle v ρ).bnd fun d ρ =>
    match itD d with
    | some ds => .ok ds ρ
    | none => .no) fun ds _ F' H' => ∀ J, WalkD X.K F' ds J → R0 J H' := hw
  cases hm : m ρ with
  | no => rw [hm] at hw; exact hw.elim
  | ex x ρ1 =>
    rw [hm] at hw
    exact (pi_list h).run pins s σ H R0 I ⟨B, ρ, F, S, by rw [hm]; exact hw⟩
  | ok v ρ1 =>
    rw [hm] at hw
    cases hs : settle v ρ1 with
    | no =>
      have hw : WpG X.K X.mg W B σ F ((settle v ρ1).bnd fun d ρ =>
        match itD d with
        | some ds => .ok ds ρ
        | none => .no) fun ds _ F' H' => ∀ J, WalkD X.K F' ds J → R0 J H' := hw
      rw [hs] at hw
      exact hw.elim
    | ex x ρ2 => exact (settle_noex hs).elim
    | ok d ρ2 =>
      have hw : WpG X.K X.mg W B σ F ((settle v ρ1).bnd fun d ρ =>
        match itD d with
        | some ds => .ok ds ρ
        | none => .no) fun ds _ F' H' => ∀ J, WalkD X.K F' ds J → R0 J H' := hw
      rw [hs] at hw
      have key : ∀ P : VK, (∀ u F' H', St X.K B ρ2 σ F' H' → Same F F' → Rp X.K F' d u → P u H') → tD X.K X.mg W m σ H P := fun P hp => ⟨B, ρ, F, S, by
        rw [hm]
        exact fun F' H' u S' sm vr => let ⟨F2, S2, sm2, q⟩ := settle_ok S' vr hs; hp u F2 H' S2 (sm.trans sm2) q⟩
      have hw : WpG X.K X.mg W B σ F (match itD d with
        | some ds => R.ok ds ρ2
        | none => .no) fun ds _ F' H' => ∀ J, WalkD X.K F' ds J → R0 J H' := hw
      cases d with
      | list ds =>
        refine (pi_list h).run pins s σ H R0 I (key _ fun u F' H' S' sm q => ?_)
        unfold Rp at q
        obtain ⟨a, xs, rfl, hF, ra⟩ := q
        exact ⟨a, rfl, ⟨xs, SqL.of (S'.sub _ _ hF)⟩, hw F' H' S' sm _ (walkD_lst hF ra)⟩
      | tuple ds =>
        refine (pi_tup h).run pins s σ H R0 I (key _ fun u F' H' S' sm q => ?_)
        unfold Rp at q
        obtain ⟨a, xs, rfl, hF, ra⟩ := q
        exact ⟨a, rfl, ⟨xs, same_t S'.sub hF⟩, hw F' H' S' sm _ (walkD_tup hF ra)⟩
      | str z =>
        refine (pi_str h).run pins s σ H R0 I (key _ fun u F' H' S' sm q => ?_)
        unfold Rp at q
        exact ⟨z, q, hw F' H' S' sm _ walkD_str⟩
      | _ => exact hw.elim

/-! ranges -/
def rgD (lo : Int) (n : Nat) : List Dat := (List.range n).map fun k => .int (lo + (k : Nat))
def rgC (lo c : Int) (n : Nat) : List Dat := (List.range n).map fun k => .int (lo + (k : Nat) * c)
def sml (j : Int) : Bool := decide (-(2 ^ 62) ≤ j) && decide (j < 2 ^ 62)
theorem sml_ok {j : Int} (h : sml j = true) : -(2 ^ 62) ≤ j ∧ j < 2 ^ 62 := by unfold sml at h; simpa using h
def gRg : List Dat → Option (List Dat)
  | [.int j] => if sml j = true then some (rgD 0 j.toNat) else none
  | [.int i, .int j] => if sml i = true then if sml j = true then some (rgD i (j - i).toNat) else none else none
  | [.int i, .int j, .int c] => if c = -1 then if sml i = true then if sml j = true then some (rgC i (-1) (i - j).toNat) else none else none else none
  | _ => none
def iRg (ms : List (M Val)) : M (List Dat) := fun ρ => (eArgs ms ρ).bnd fun vs ρ =>
  match rdAll ρ vs with
  | some ds => (match gRg ds with
    | some r => .ok r ρ
    | none => .no)
  | none => .no
theorem walkD_rg {K : PySem.W.Frag} {F : Hp} {lo : Int} {n : Nat} : WalkD K F (rgD lo n) (Itr lo n) := by
  have hl : (rgD lo n).length = n := by unfold rgD; simp
  refine ⟨fun k H hk s => by rw [hl] at hk; exact hk, fun H s => by rw [hl]; exact Nat.le_refl _, fun k H x H' s y d hd => ?_⟩
  obtain ⟨e, y⟩ := y
  refine .inl ⟨e, ?_⟩
  unfold rgD at hd
  rw [List.getElem?_map] at hd
  by_cases c : k < n
  · rw [List.getElem?_range c] at hd
    cases hd
    rw [y]
    exact rp_int
  · rw [List.getElem?_eq_none (by simpa using c)] at hd
    cases hd
theorem walkD_rgC {K : PySem.W.Frag} {F : Hp} {lo c : Int} {n : Nat} : WalkD K F (rgC lo c n) (Itc lo c n) := by
  have hl : (rgC lo c n).length = n := by unfold rgC; simp
  refine ⟨fun k H hk s => by rw [hl] at hk; exact hk, fun H s => by rw [hl]; exact Nat.le_refl _, fun k H x H' s y d hd => ?_⟩
  obtain ⟨e, y⟩ := y
  refine .inl ⟨e, ?_⟩
  unfold rgC at hd
  rw [List.getElem?_map] at hd
  by_cases c : k < n
  · rw [List.getElem?_range c] at hd
    cases hd
    rw [y]
    exact rp_int
  · rw [List.getElem?_eq_none (by simpa using c)] at hd
    cases hd
theorem rts1 {K : PySem.W.Frag} {F H : Hp} {i : Dat} {us : List V} (h : RTs K F H [i] us) : ∃ u, us = [u] ∧ RT K F H i u := by
  obtain ⟨u, r, rfl, q, rfl⟩ := h
  exact ⟨u, rfl, q⟩
theorem rts2 {K : PySem.W.Frag} {F H : Hp} {i j : Dat} {us : List V} (h : RTs K F H [i, j] us) : ∃ u v, us = [u, v] ∧ RT K F H i u ∧ RT K F H j v := by
  obtain ⟨u, r, rfl, q, r2⟩ := h
  obtain ⟨v, rfl, q2⟩ := rts1 r2
  exact ⟨u, v, rfl, q, q2⟩
theorem rts3 {K : PySem.W.Frag} {F H : Hp} {i j k : Dat} {us : List V} (h : RTs K F H [i, j, k] us) : ∃ u v w, us = [u, v, w] ∧ RT K F H i u ∧ RT K F H j v ∧ RT K F H k w := by
  obtain ⟨u, r, rfl, q, r2⟩ := h
  obtain ⟨v, w, rfl, q2⟩ := rts2 r2
  exact ⟨u, v, w, rfl, q, q2⟩
theorem rts_len {K : PySem.W.Frag} {F H : Hp} : ∀ {ds : List Dat} {us : List V}, RTs K F H ds us → us.length = ds.length
  | [], _, h => by rw [show _ = [] from h]; rfl
  | d :: ds, _, ⟨u, r, e, _, h⟩ => by rw [e]; exact congrArg Nat.succ (rts_len h)
theorem eArgs_len : ∀ {ms : List (M Val)} {ρ ρ' : En} {vs : List Val}, eArgs ms ρ = .ok vs ρ' → vs.length = ms.length
  | [], _, _, _, e => by cases e; rfl
  | m :: ms, ρ, ρ', vs, e => by
    have e : ((m ρ).bnd fun v ρ => (stow v ρ).bnd fun v ρ => (eArgs ms ρ).bnd fun vs ρ => .ok (v :: vs) ρ) = .ok vs ρ' := e
    cases h1 : m ρ with
    | no => rw [h1] at e; cases e
    | ex _ _ => rw [h1] at e; cases e
    | ok v ρ1 =>
      rw [h1] at e
      have e : ((stow v ρ1).bnd fun v ρ => (eArgs ms ρ).bnd fun vs ρ => .ok (v :: vs) ρ) = .ok vs ρ' := e
      cases h2 : stow v ρ1 with
      | no => rw [h2] at e; cases e
      | ex _ _ => rw [h2] at e; cases e
      | ok v2 ρ2 =>
        rw [h2] at e
        have e : ((eArgs ms ρ2).bnd fun vs ρ => .ok (v2 :: vs) ρ) = .ok vs ρ' := e
        cases h3 : eArgs ms ρ2 with
        | no => rw [h3] at e; cases e
        | ex _ _ => rw [h3] at e; cases e
        | ok v3 ρ3 =>
          rw [h3] at e
          cases e
          exact congrArg Nat.succ (eArgs_len h3)
theorem VSs_len {K : PySem.W.Frag} {F : Hp} {σ : L2.St} : ∀ {us : List V} {vs : List Val}, VSs K F σ us vs → us.length = vs.length
  | [], [], _ => rfl
  | _ :: _, _ :: _, h => congrArg Nat.succ (VSs_len h.2)
  | [], _ :: _, h => h.elim
  | _ :: _, [], h => h.elim
theorem rg_end {R0 : It → Hp → Prop} {ms : List (M Val)} {B : Bs} {σ : L2.St} {F : Hp} {ρ : En} (hw : WpG X.K X.mg W B σ F (iRg ms ρ) fun ds _ F' H' => ∀ J, WalkD X.K F' ds J → R0 J H') :
    WpG X.K X.mg W B σ F (eArgs ms ρ) fun vs _ F' H' => ∀ us, VSs X.K F' σ us vs → ∃ ds r, ds.length = ms.length ∧ gRg ds = some r ∧ RTs X.K F' H' ds us ∧ ∀ J, WalkD X.K F' r J → R0 J H' := by
  refine (WpG.split hw).mono fun vs ρ' F' H' ⟨ev, S', _, h'⟩ us hu => ?_
  cases e : rdAll ρ' vs with
  | none => rw [e] at h'; exact h'.elim
  | some ds =>
    rw [e] at h'
    have h2 : WpG X.K X.mg W B σ F' (match gRg ds with
      | some r => R.ok r ρ'
      | none => .no) fun ds _ F' H' => ∀ J, WalkD X.K F' ds J → R0 J H' := h'
    cases eg : gRg ds with
    | none => rw [eg] at h2; exact h2.elim
    | some r =>
      rw [eg] at h2
      exact ⟨ds, r, by rw [← eArgs_len ev, ← VSs_len hu, rts_len (rdAll_ok S' hu e)], eg, rdAll_ok S' hu e, fun J w => WpG.okI (a := r) h2 S' J w⟩
theorem gRg1 {ds : List Dat} {r : List Dat} (e : gRg ds = some r) (hl : ds.length = 1) : ∃ j, ds = [.int j] ∧ sml j = true ∧ r = rgD 0 j.toNat := by
  unfold gRg at e
  split at e
  · rename_i j
    by_cases c : sml j = true
    · rw [if_pos c] at e
      exact ⟨j, rfl, c, (Option.some.inj e).symm⟩
    · rw [if_neg c] at e; cases e
  · cases hl
  · cases hl
  · cases e
theorem gRg2 {ds : List Dat} {r : List Dat} (e : gRg ds = some r) (hl : ds.length = 2) : ∃ i j, ds = [.int i, .int j] ∧ sml i = true ∧ sml j = true ∧ r = rgD i (j - i).toNat := by
  unfold gRg at e
  split at e
  · cases hl
  · rename_i i j
    by_cases c : sml i = true
    · rw [if_pos c] at e
      by_cases c2 : sml j = true
      · rw [if_pos c2] at e
        exact ⟨i, j, rfl, c, c2, (Option.some.inj e).symm⟩
      · rw [if_neg c2] at e; cases e
    · rw [if_neg c] at e; cases e
  · cases hl
  · cases e
theorem id_rg1 {p : Pos} (hg : Gl X "range") (hm : X.mg "range" = none) (ha : AD X W [a] [m]) (hs : starEach [a] X.env = [(false, eval a X.env)] := by rfl) : ID X W tg (.Call (.Name "range" p) [a] [] pos) (iRg [m]) := by
  refine ⟨fun pins s σ H R0 I ⟨B, ρ, F, S, hw⟩ => (pi_range1 hg hm ha hs).run pins s σ H R0 I ⟨B, ρ, F, S, (rg_end hw).mono fun vs ρ' F' H' h us hu => ?_⟩⟩
  obtain ⟨ds, r, hl, eg, rt, q⟩ := h us hu
  obtain ⟨j, rfl, c, rfl⟩ := gRg1 eg hl
  obtain ⟨u, rfl, q1⟩ := rts1 rt
  obtain ⟨c1, c2⟩ := sml_ok c
  exact ⟨j, by rw [rt_int q1], c1, c2, q _ walkD_rg⟩
theorem id_rg2 {p : Pos} (hg : Gl X "range") (hm : X.mg "range" = none) (ha : AD X W [a, b] [m1, m2]) (hs : starEach [a, b] X.env = [(false, eval a X.env), (false, eval b X.env)] := by rfl) (hs2 : starEach [b] X.env = [(false, eval b X.env)] := by rfl) :
    ID X W tg (.Call (.Name "range" p) [a, b] [] pos) (iRg [m1, m2]) := by
  refine ⟨fun pins s σ H R0 I ⟨B, ρ, F, S, hw⟩ => (pi_range2 hg hm ha hs hs2).run pins s σ H R0 I ⟨B, ρ, F, S, (rg_end hw).mono fun vs ρ' F' H' h us hu => ?_⟩⟩
  obtain ⟨ds, r, hl, eg, rt, q⟩ := h us hu
  obtain ⟨i, j, rfl, c, c', rfl⟩ := gRg2 eg hl
  obtain ⟨u, v, rfl, q1, q2⟩ := rts2 rt
  obtain ⟨c1, c2⟩ := sml_ok c
  obtain ⟨c3, c4⟩ := sml_ok c'
  exact ⟨i, j, by rw [rt_int q1, rt_int q2], ⟨c1, c2, c3, c4⟩, q _ walkD_rg⟩
theorem gRg3 {ds : List Dat} {r : List Dat} (e : gRg ds = some r) (hl : ds.length = 3) : ∃ i j, ds = [.int i, .int j, .int (-1)] ∧ sml i = true ∧ sml j = true ∧ r = rgC i (-1) (i - j).toNat := by
  unfold gRg at e
  split at e
  · cases hl
  · cases hl
  · rename_i i j c
    by_cases c0 : c = -1
    · rw [if_pos c0] at e
      by_cases c1 : sml i = true
      · rw [if_pos c1] at e
        by_cases c2 : sml j = true
        · rw [if_pos c2] at e
          subst c0
          exact ⟨i, j, rfl, c1, c2, (Option.some.inj e).symm⟩
        · rw [if_neg c2] at e; cases e
      · rw [if_neg c1] at e; cases e
    · rw [if_neg c0] at e; cases e
  · cases e
theorem id_rg3 {p : Pos} (hg : Gl X "range") (hm : X.mg "range" = none) (ha : AD X W [a, b, c] [m1, m2, m3]) (hs : starEach [a, b, c] X.env = (false, eval a X.env) :: starEach [b, c] X.env := by rfl) (hpl : (backTo pos (starEach [b, c] X.env)).any (·.1) = false := by rfl) :
    ID X W tg (.Call (.Name "range" p) [a, b, c] [] pos) (iRg [m1, m2, m3]) := by
  refine ⟨fun pins s σ H R0 I ⟨B, ρ, F, S, hw⟩ => (pi_range3 hg hm ha hs hpl).run pins s σ H R0 I ⟨B, ρ, F, S, (rg_end hw).mono fun vs ρ' F' H' h us hu => ?_⟩⟩
  obtain ⟨ds, r, hl, eg, rt, q⟩ := h us hu
  obtain ⟨i, j, rfl, c, c', rfl⟩ := gRg3 eg hl
  obtain ⟨u, v, w, rfl, q1, q2, q3⟩ := rts3 rt
  obtain ⟨c1, c2⟩ := sml_ok c
  obtain ⟨c3, c4⟩ := sml_ok c'
  exact ⟨i, j, -1, _, by rw [rt_int q1, rt_int q2, rt_int q3], RgC.neg c1 c2 c3 c4, q _ walkD_rgC⟩
end
end Dl
end

-- text D9
section
set_option Elab.async false
set_option linter.all false
set_option maxRecDepth 100000
set_option maxHeartbeats 1000000
/-! Dl, part 9: comprehensions. -/
namespace Dl
open PySem L2

section
variable {K : PySem.W.Frag} {B : Bs} {ρ : En} {σ : L2.St} {F F' H H' : Hp} {u : V} {i : Nat} {D : Addr} {o o' : HO}

/-- D is kept, too -/
def Bs.prot (B : Bs) (D : Addr) (o : HO) : Bs := { B with H0 := upd B.H0 D o }
/-- D is nobody's -/
structure Alone (B : Bs) (ρ : En) (σ : L2.St) (F : Hp) (D : Addr) : Prop where
  f : F D = none
  h0 : B.H0 D = none
  sl : ∀ i b c, gt ρ i = .cel b c → σ[i]? ≠ some (some (.ref D))
  rf : ∀ i ∈ B.L, B.rf i ≠ some D
theorem St.prot (S : St K B ρ σ F H) (h : H D = some o) (al : Alone B ρ σ F D) : St K (B.prot D o) ρ σ F H := by
  refine ⟨S.len, S.sub, S.slot, S.dist, S.base, fun a e n => ?_, fun a x e r => ?_, fun i b c p hi e => ?_, S.refs⟩
  · rcases S.fnew a e n with q | q
    · refine .inl ?_
      show upd B.H0 D o a = none
      rw [upd_ne (fun z => n (by rw [z]; exact al.f))]
      exact q
    · exact .inr q
  · have e' : upd B.H0 D o a = some x := e
    by_cases ha : a = D
    · rw [ha, upd_same] at e'
      cases e'
      rw [ha]
      exact h
    · rw [upd_ne ha] at e'
      exact S.keep a x e' r
  · rcases S.cnew i b c p hi e with q | q
    · refine .inl ?_
      show upd B.H0 D o p = none
      rw [upd_ne (fun z => al.sl i b c hi (by rw [e, z]))]
      exact q
    · exact .inr q
theorem St.unprot (S : St K (B.prot D o) ρ σ F H) (h0 : B.H0 D = none) (hr : ∀ i ∈ B.L, B.rf i ≠ some D) (f0 : B.F0 D = none) : St K B ρ σ F H ∧ H D = some o ∧ Alone B ρ σ F D := by
  have np : ∀ {a}, upd B.H0 D o a = none → B.H0 a = none := fun {a} e => by
    by_cases ha : a = D
    · rw [ha]; exact h0
    · rw [upd_ne ha] at e; exact e
  have hD : (B.prot D o).H0 D = some o := upd_same
  refine ⟨⟨S.len, S.sub, S.slot, S.dist, S.base, fun a e n => ?_, fun a x e r => ?_, fun i b c p hi e => ?_, S.refs⟩, S.keep D o hD hr, ?_, h0, fun i b c hi e => ?_, hr⟩
  · rcases S.fnew a e n with q | q
    · exact .inl (np q)
    · exact .inr q
  · refine S.keep a x ?_ r
    show upd B.H0 D o a = some x
    rw [upd_ne (fun z => by rw [z, h0] at e; cases e)]
    exact e
  · rcases S.cnew i b c p hi e with q | q
    · exact .inl (np q)
    · exact .inr q
  · cases e : F D with
    | none => rfl
    | some x =>
      rcases S.fnew D f0 (by rw [e]; exact fun z => nomatch z) with q | ⟨j, hj, q⟩
      · rw [hD] at q; cases q
      · exact absurd q (hr j hj)
  · rcases S.cnew i b c D hi e with q | ⟨j, hj, q⟩
    · rw [hD] at q; cases q
    · exact absurd q (hr j hj)
/-- an object of nobody changes -/
theorem St.poke (S : St K B ρ σ F H) (al : Alone B ρ σ F D) : St K B ρ σ F (upd H D o) := by
  refine ⟨S.len, fun b x e => ?_, fun i => ?_, S.dist, S.base, S.fnew, fun a x e h => ?_, S.cnew, S.refs⟩
  · rw [upd_ne (ne_of_none e al.f)]
    exact S.sub _ _ e
  · have sl := S.slot i
    cases hg : gt ρ i with
    | un => trivial
    | dat d => rw [hg] at sl; exact sl
    | scr ns => rw [hg] at sl; exact sl
    | cel bk c =>
      rw [hg] at sl
      obtain ⟨q, e, f, z⟩ := sl
      exact ⟨q, e, f, z.mono (Same.refl _) (upd_ne fun x => al.sl i bk c hg (by rw [e, x]))⟩
  · rw [upd_ne (fun z => by rw [z, al.h0] at e; cases e)]
    exact S.keep a x e h

/-! the block's own slots -/
def wipeD : List Nat → En → En
  | [], ρ => ρ
  | v :: vs, ρ => pt (wipeD vs ρ) v .un
def backD (ρ0 : En) : List Nat → En → En
  | [], ρ => ρ
  | v :: vs, ρ => pt (backD ρ0 vs ρ) v (gt ρ0 v)
def still : Slot → Bool
  | .cel _ _ => false
  | _ => true
def ownOk (vs : List Nat) (ρ : En) : Bool := vs.all fun v => still (gt ρ v)
theorem wipeD_len : ∀ (vs : List Nat) (ρ : En), (wipeD vs ρ).length = ρ.length
  | [], _ => rfl
  | v :: vs, ρ => by unfold wipeD; rw [pt_len, wipeD_len vs ρ]
theorem backD_len {ρ0 : En} : ∀ (vs : List Nat) (ρ : En), (backD ρ0 vs ρ).length = ρ.length
  | [], _ => rfl
  | v :: vs, ρ => by unfold backD; rw [pt_len, backD_len vs ρ]
theorem wipeD_gt : ∀ (vs : List Nat) (ρ : En) (j : Nat), j ∉ vs → gt (wipeD vs ρ) j = gt ρ j
  | [], _, _, _ => rfl
  | v :: vs, ρ, j, h => by
    unfold wipeD
    rw [gt_pt_ne _ _ _ _ (fun z => h (by rw [z]; exact List.mem_cons_self))]
    exact wipeD_gt vs ρ j fun z => h (List.mem_cons_of_mem _ z)
theorem wipeD_own : ∀ (vs : List Nat) (ρ : En) (j : Nat), j ∈ vs → gt (wipeD vs ρ) j = .un
  | [], _, _, h => by cases h
  | v :: vs, ρ, j, h => by
    unfold wipeD
    by_cases e : j = v
    · by_cases hl : v < (wipeD vs ρ).length
      · rw [e, gt_pt_eq _ _ _ hl]
      · rw [e, gt_out _ _ (by rw [pt_len]; exact Nat.le_of_not_lt hl)]
    · rw [gt_pt_ne _ _ _ _ e]
      exact wipeD_own vs ρ j ((List.mem_cons.mp h).resolve_left e)
theorem backD_gt {ρ0 : En} : ∀ (vs : List Nat) (ρ : En) (j : Nat), j ∉ vs → gt (backD ρ0 vs ρ) j = gt ρ j
  | [], _, _, _ => rfl
  | v :: vs, ρ, j, h => by
    unfold backD
    rw [gt_pt_ne _ _ _ _ (fun z => h (by rw [z]; exact List.mem_cons_self))]
    exact backD_gt vs ρ j fun z => h (List.mem_cons_of_mem _ z)
theorem backD_own {ρ0 : En} : ∀ (vs : List Nat) (ρ : En) (j : Nat), ρ0.length = ρ.length → j ∈ vs → gt (backD ρ0 vs ρ) j = gt ρ0 j
  | [], _, _, _, h => by cases h
  | v :: vs, ρ, j, hl, h => by
    unfold backD
    by_cases e : j = v
    · by_cases hl2 : v < (backD ρ0 vs ρ).length
      · rw [e, gt_pt_eq _ _ _ hl2]
      · rw [e, gt_out _ _ (by rw [pt_len]; exact Nat.le_of_not_lt hl2)]
        rw [backD_len] at hl2
        exact (gt_out _ _ (by rw [hl]; exact Nat.le_of_not_lt hl2)).symm
    · rw [gt_pt_ne _ _ _ _ e]
      exact backD_own vs ρ j hl ((List.mem_cons.mp h).resolve_left e)
/-- a state may be told at other slots, where these are told nothing of -/
theorem St.shift {ρ' : En} {σ' : L2.St} (S : St K B ρ σ F H) (hl : ρ'.length = ρ.length) (hs : σ'.length = σ.length) (vs : List Nat) (hout : ∀ j, j ∉ vs → gt ρ' j = gt ρ j ∧ (σ'[j]? = σ[j]? ∨ gt ρ j = .un)) (hin : ∀ j ∈ vs, still (gt ρ' j) = true ∧ SltR K F H σ' j (gt ρ' j)) (hL : ∀ j ∈ vs, still (gt ρ j) = true) : St K B ρ' σ' F H := by
  have cel : ∀ {j b c}, gt ρ' j = .cel b c → j ∉ vs := fun {j b c} e z => by
    have := (hin j z).1
    rw [e] at this
    cases this
  have eqs : ∀ {j b c}, gt ρ' j = .cel b c → gt ρ j = .cel b c ∧ σ'[j]? = σ[j]? := fun {j b c} e => by
    obtain ⟨h1, h2⟩ := hout j (cel e)
    rw [h1] at e
    exact ⟨e, h2.resolve_right fun z => by rw [e] at z; cases z⟩
  refine ⟨by rw [hl, hs]; exact S.len, S.sub, fun j => ?_, fun i j bi bj ci cj p hi hj ei ej => ?_, S.base, S.fnew, S.keep, fun i b c p hi ei => ?_, fun i hi p ep => ?_⟩
  · by_cases hj : j ∈ vs
    · exact (hin j hj).2
    · obtain ⟨h1, h2⟩ := hout j hj
      rw [h1]
      have sl := S.slot j
      rcases h2 with h2 | h2
      · cases hg : gt ρ j with
        | un => trivial
        | dat d => rw [hg] at sl; obtain ⟨w, e, q⟩ := sl; exact ⟨w, by rw [h2]; exact e, q⟩
        | scr d => rw [hg] at sl; obtain ⟨w, e, q⟩ := sl; exact ⟨w, by rw [h2]; exact e, q⟩
        | cel bk d => rw [hg] at sl; obtain ⟨w, e, q⟩ := sl; exact ⟨w, by rw [h2]; exact e, q⟩
      · rw [h2]; trivial
  · obtain ⟨a1, a2⟩ := eqs hi
    obtain ⟨b1, b2⟩ := eqs hj
    exact S.dist i j bi bj ci cj p a1 b1 (by rw [← a2]; exact ei) (by rw [← b2]; exact ej)
  · obtain ⟨a1, a2⟩ := eqs hi
    exact S.cnew i b c p a1 (by rw [← a2]; exact ei)
  · obtain ⟨e1, c, e2⟩ := S.refs i hi p ep
    have hv : i ∉ vs := fun z => by
      have := hL i z
      rw [e2] at this
      cases this
    obtain ⟨h1, h2⟩ := hout i hv
    refine ⟨?_, c, by rw [h1]; exact e2⟩
    rw [h2.resolve_right fun z => by rw [e2] at z; cases z]
    exact e1
end

theorem wipe_in {σ : L2.St} {j : Nat} : ∀ {vs : List Nat}, j ∈ vs → (wipe σ vs)[j]? = if j < σ.length then some none else none
  | [], h => by cases h
  | v :: vs, h => by
    unfold wipe
    by_cases e : j = v
    · rw [e]
      by_cases hl : v < σ.length
      · rw [if_pos hl, List.getElem?_set_self (by rw [wipe_length]; exact hl)]
      · rw [if_neg hl, List.getElem?_eq_none (by rw [List.length_set, wipe_length]; exact Nat.le_of_not_lt hl)]
    · rw [List.getElem?_set_ne (Ne.symm e)]
      exact wipe_in ((List.mem_cons.mp h).resolve_left e)
theorem wipe_oth {σ σ2 : L2.St} {l vs : List Nat} (hl : ∀ j ∈ l, j ∈ vs) (o : Oth l (wipe σ vs) σ2) : wipe σ2 vs = wipe σ vs := by
  have hs : σ2.length = σ.length := by rw [o.1, wipe_length]
  refine List.ext_getElem? fun j => ?_
  by_cases hj : j ∈ vs
  · rw [wipe_in hj, wipe_in hj, hs]
  · rw [wipe_out hj]
    exact o.2 j fun z => hj (hl j z)

/-! ### [e for t in it if ..] -/
def lcT (b : Tg) (tt : M Bool) (me : M Val) (vs : List Nat) (d : Dat) : M (Option Dat) := fun ρ =>
  match b.bind d ρ with
  | none => .no
  | some ρ1 => match tt ρ1 with
    | .ok true ρ2 => (match me ρ2 with
      | .ok v ρ3 => (match settle v ρ3 with
        | .ok y ρ4 => if ownOk vs ρ4 = true then .ok (some y) (wipeD vs ρ4) else .no
        | _ => .no)
      | _ => .no)
    | .ok false ρ2 => if ownOk vs ρ2 = true then .ok none (wipeD vs ρ2) else .no
    | _ => .no
def lcD (f : Dat → M (Option Dat)) : List Dat → List Dat → M (List Dat)
  | acc, [], ρ => .ok acc ρ
  | acc, d :: ds, ρ => (f d ρ).bnd fun o ρ =>
    match o with
    | some y => if acc.length < sizeLine then lcD f (acc ++ [y]) ds ρ else .no
    | none => lcD f acc ds ρ
def eLc (mi : M (List Dat)) (b : Tg) (tt : M Bool) (me : M Val) (vs : List Nat) : M Val := fun ρ => (mi ρ).bnd fun ds ρ1 =>
  if ownOk vs ρ1 = true then (lcD (lcT b tt me vs) [] ds (wipeD vs ρ1)).bnd fun acc ρ2 => .ok (.cel (.lst acc)) (backD ρ1 vs ρ2) else .no
def W0 : WX := fun _ _ _ _ => False

theorem ownOk_at {vs : List Nat} {ρ : En} (h : ownOk vs ρ = true) : ∀ j ∈ vs, still (gt ρ j) = true := fun j hj => by
  unfold ownOk at h
  exact List.all_eq_true.mp h j hj
/-- the slots of the block forgotten -/
theorem St.wiped {K : PySem.W.Frag} {B : Bs} {ρ : En} {σ : L2.St} {F H : Hp} {vs : List Nat} (S : St K B ρ σ F H) (h : ownOk vs ρ = true) : St K B (wipeD vs ρ) (wipe σ vs) F H :=
  S.shift (wipeD_len vs ρ) (wipe_length σ vs) vs (fun j hj => ⟨wipeD_gt vs ρ j hj, .inl (wipe_out hj)⟩) (fun j hj => by
    rw [wipeD_own vs ρ j hj]
    exact ⟨rfl, trivial⟩) (ownOk_at h)
/-- .. and told again -/
theorem St.backed {K : PySem.W.Frag} {B B0 : Bs} {ρ0 ρ : En} {σ : L2.St} {F0 F H H0 : Hp} {vs : List Nat} (S : St K B ρ (wipe σ vs) F H) (S0 : St K B0 ρ0 σ F0 H0) (sm : Same F0 F) (h : ownOk vs ρ0 = true) (hu : ∀ j ∈ vs, gt ρ j = .un) : St K B (backD ρ0 vs ρ) σ F H := by
  have hl : ρ0.length = ρ.length := by rw [S.len, S0.len, wipe_length]
  refine S.shift (backD_len vs ρ) (wipe_length σ vs).symm vs (fun j hj => ⟨backD_gt vs ρ j hj, .inl (wipe_out hj).symm⟩) (fun j hj => ?_) fun j hj => by rw [hu j hj]; rfl
  rw [backD_own vs ρ j hl hj]
  have st := ownOk_at h j hj
  refine ⟨st, ?_⟩
  have sl := S0.slot j
  cases hg : gt ρ0 j with
  | un => trivial
  | dat d => rw [hg] at sl; obtain ⟨w, e, q⟩ := sl; exact ⟨w, e, q.mono sm⟩
  | scr d => rw [hg] at sl; obtain ⟨w, e, q⟩ := sl; exact ⟨w, e, sm.seq q⟩
  | cel bk d => rw [hg] at st; cases st

theorem bnd_ok {α β : Type} {r : R α} {f : α → En → R β} {a : β} {ρ : En} (h : r.bnd f = .ok a ρ) : ∃ x ρ1, r = .ok x ρ1 ∧ f x ρ1 = .ok a ρ := by
  cases r with
  | no => cases h
  | ex _ _ => cases h
  | ok x ρ1 => exact ⟨x, ρ1, rfl, h⟩
theorem lcT_ok {b : Tg} {tt : M Bool} {me : M Val} {vs : List Nat} {d : Dat} {ρ ρ' : En} {o : Option Dat} (h : lcT b tt me vs d ρ = .ok o ρ') :
    ∃ ρ1 k ρ2, b.bind d ρ = some ρ1 ∧ tt ρ1 = .ok k ρ2 ∧ ((k = false ∧ o = none ∧ ownOk vs ρ2 = true ∧ ρ' = wipeD vs ρ2) ∨ (k = true ∧ ∃ v ρ3 y ρ4, me ρ2 = .ok v ρ3 ∧ settle v ρ3 = .ok y ρ4 ∧ o = some y ∧ ownOk vs ρ4 = true ∧ ρ' = wipeD vs ρ4)) := by
  unfold lcT at h
  cases eb : b.bind d ρ with
  | none => simp only [eb] at h; cases h
  | some ρ1 =>
    simp only [eb] at h
    cases et : tt ρ1 with
    | no => simp only [et] at h; cases h
    | ex _ _ => simp only [et] at h; cases h
    | ok k ρ2 =>
      simp only [et] at h
      cases k with
      | false =>
        by_cases ok : ownOk vs ρ2 = true
        · have h : (if ownOk vs ρ2 = true then R.ok (none : Option Dat) (wipeD vs ρ2) else .no) = .ok o ρ' := h
          rw [if_pos ok] at h
          cases h
          exact ⟨ρ1, false, ρ2, rfl, et, .inl ⟨rfl, rfl, ok, rfl⟩⟩
        · have h : (if ownOk vs ρ2 = true then R.ok (none : Option Dat) (wipeD vs ρ2) else .no) = .ok o ρ' := h
          rw [if_neg ok] at h
          cases h
      | true =>
        cases em : me ρ2 with
        | no => simp only [em] at h; cases h
        | ex _ _ => simp only [em] at h; cases h
        | ok v ρ3 =>
          simp only [em] at h
          cases es : settle v ρ3 with
          | no => simp only [es] at h; cases h
          | ex _ _ => simp only [es] at h; cases h
          | ok y ρ4 =>
            simp only [es] at h
            by_cases ok : ownOk vs ρ4 = true
            · rw [if_pos ok] at h
              cases h
              exact ⟨ρ1, true, ρ2, rfl, et, .inr ⟨rfl, v, ρ3, y, ρ4, em, es, rfl, ok, rfl⟩⟩
            · rw [if_neg ok] at h
              cases h
theorem lcT_noex {b : Tg} {tt : M Bool} {me : M Val} {vs : List Nat} {d : Dat} {ρ ρ' : En} {x : Exn} (h : lcT b tt me vs d ρ = .ex x ρ') : False := by
  unfold lcT at h
  cases eb : b.bind d ρ with
  | none => simp only [eb] at h; cases h
  | some ρ1 =>
    simp only [eb] at h
    cases et : tt ρ1 with
    | no => simp only [et] at h; cases h
    | ex _ _ => simp only [et] at h; cases h
    | ok k ρ2 =>
      simp only [et] at h
      cases k with
      | false =>
        have h : (if ownOk vs ρ2 = true then R.ok (none : Option Dat) (wipeD vs ρ2) else .no) = .ex x ρ' := h
        by_cases ok : ownOk vs ρ2 = true
        · rw [if_pos ok] at h; cases h
        · rw [if_neg ok] at h; cases h
      | true =>
        cases em : me ρ2 with
        | no => simp only [em] at h; cases h
        | ex _ _ => simp only [em] at h; cases h
        | ok v ρ3 =>
          simp only [em] at h
          cases es : settle v ρ3 with
          | no => simp only [es] at h; cases h
          | ex _ _ => simp only [es] at h; cases h
          | ok y ρ4 =>
            simp only [es] at h
            by_cases ok : ownOk vs ρ4 = true
            · rw [if_pos ok] at h; cases h
            · rw [if_neg ok] at h; cases h
theorem lcD_noex {f : Dat → M (Option Dat)} (hf : ∀ d ρ x ρ', f d ρ ≠ .ex x ρ') : ∀ {ds acc : List Dat} {ρ ρ' : En} {x : Exn}, lcD f acc ds ρ = .ex x ρ' → False
  | [], _, _, _, _, h => by cases h
  | d :: ds, acc, ρ, ρ', x, h => by
    unfold lcD at h
    cases e : f d ρ with
    | no => rw [e] at h; cases h
    | ex _ _ => exact hf _ _ _ _ e
    | ok o ρ1 =>
      rw [e] at h
      cases o with
      | none => exact lcD_noex hf h
      | some y =>
        have h : (if acc.length < sizeLine then lcD f (acc ++ [y]) ds ρ1 else .no) = .ex x ρ' := h
        by_cases c : acc.length < sizeLine
        · rw [if_pos c] at h
          exact lcD_noex hf h
        · rw [if_neg c] at h
          cases h

/-- the turns of a comprehension, or of its inner loop -/
theorem lc_turns {K : PySem.W.Frag} {mg : Str → Option Value} {B : Bs} {ρ0 ρE : En} {σ : L2.St} {F1 F0 H0 : Hp} {Qd : Hp → Prop} {J : It} {ds acc0 accE : List Dat} {avs0 : List V} {b : Tg} {tt : M Bool} {me : M Val} {vs : List Nat} {D : Addr}
    (hb : ∀ j ∈ b.slots, j ∈ vs) (wk : WalkD K F1 ds J) (hok : lcD (lcT b tt me vs) acc0 ds ρ0 = .ok accE ρE) (S0 : St K B ρ0 (wipe σ vs) F0 H0) (sm0 : Same F1 F0) (hD0 : H0 D = some (.lst avs0)) (ra0 : RpA K F0 acc0 avs0)
    (al0 : Alone B ρ0 (wipe σ vs) F0 D) (un0 : ∀ j ∈ vs, gt ρ0 j = .un) (b0 : B.F0 D = none)
    (fin : ∀ F H avs, St K B ρE (wipe σ vs) F H → Same F0 F → H D = some (.lst avs) → RpA K F accE avs → Alone B ρE (wipe σ vs) F D → (∀ j ∈ vs, gt ρE j = .un) → Qd H) :
    ∃ W : Nat → Nat → Hp → Prop, (∃ m, W 0 m H0) ∧ ∀ i m H, W i m H →
      (J.stop i H ∧ Qd H) ∨ (J.go i H ∧ ∃ Nx : Hp → Prop, (∀ H', Nx H' → ∃ m', m' < m ∧ W (i + 1) m' H') ∧ ∀ x H', J.yld i H x H' → tDG K b x (wipe σ vs) H' fun σ2 H2 => wipe σ2 vs = wipe σ vs ∧ tDT K mg W0 tt σ2 H2 fun b H3 =>
        if b = true then tD K mg W0 me σ2 H3 fun y H4 => ∃ acc, H4 D = some (.lst acc) ∧ acc.length < sizeLine ∧ Nx (upd H4 D (.lst (acc ++ [y]))) else Nx H3) := by
  obtain ⟨wg, ws, wy⟩ := wk
  have h0 := al0.h0
  have nD := al0.rf
  refine ⟨fun i m H => m = ds.length - i ∧ i ≤ ds.length ∧ ∃ ρ F acc avs, St K B ρ (wipe σ vs) F H ∧ Same F0 F ∧ H D = some (.lst avs) ∧ RpA K F acc avs ∧ Alone B ρ (wipe σ vs) F D ∧ (∀ j ∈ vs, gt ρ j = .un) ∧
    lcD (lcT b tt me vs) acc (ds.drop i) ρ = .ok accE ρE,
    ⟨ds.length, rfl, Nat.zero_le _, ρ0, F0, acc0, avs0, S0, Same.refl F0, hD0, ra0, al0, un0, hok⟩, ?_⟩
  rintro i m H ⟨rfl, hi, ρ, F, acc, avs, S, sm, hHD, ra, al, un, hw⟩
  have sm1 := sm0.trans sm
  by_cases hlt : i < ds.length
  · refine .inr ⟨wg i H hlt (sm1.trans S.sub), fun H' => ∃ ρ F acc avs, St K B ρ (wipe σ vs) F H' ∧ Same F0 F ∧ H' D = some (.lst avs) ∧ RpA K F acc avs ∧ Alone B ρ (wipe σ vs) F D ∧ (∀ j ∈ vs, gt ρ j = .un) ∧
      lcD (lcT b tt me vs) acc (ds.drop (i + 1)) ρ = .ok accE ρE, fun H' h' => ⟨ds.length - (i + 1), by omega, rfl, hlt, h'⟩, fun x H' hy => ?_⟩
    obtain ⟨d, hd⟩ : ∃ d, ds[i]? = some d := ⟨ds[i], List.getElem?_eq_getElem hlt⟩
    have hdr : ds.drop i = d :: ds.drop (i + 1) := by
      rw [List.drop_eq_getElem_cons hlt]
      rw [List.getElem?_eq_getElem hlt] at hd
      rw [Option.some.inj hd]
    rw [hdr] at hw
    obtain ⟨o, ρn, e1, hw⟩ := bnd_ok (show (lcT b tt me vs d ρ).bnd _ = _ from hw)
    obtain ⟨ρ2, k, ρ3, eb, et, hk⟩ := lcT_ok e1
    have Sp := S.prot hHD al
    obtain ⟨F5, S5, sm5, q5⟩ := ((wy i H x H' (sm1.trans S.sub) hy d hd).up sm1).to Sp
    refine ⟨B.prot D (.lst avs), ρ, F5, d, ρ2, S5, q5, eb, fun σ2 o2 S2 => ⟨wipe_oth hb o2, B.prot D (.lst avs), ρ2, F5, S2, ?_⟩⟩
    have weq := wipe_oth hb o2
    -- the turn's end
    have fin : ∀ {ρ4 : En} {F4 H4 : Hp} {acc' : List Dat} {avs' : List V} {H6 : Hp}, St K (B.prot D (.lst avs)) ρ4 σ2 F4 H4 → Same F5 F4 → ownOk vs ρ4 = true → RpA K F4 acc' avs' → H6 = upd H4 D (.lst avs') ∨ (H6 = H4 ∧ avs' = avs) →
        lcD (lcT b tt me vs) acc' (ds.drop (i + 1)) (wipeD vs ρ4) = .ok accE ρE →
        ∃ ρ F acc avs, St K B ρ (wipe σ vs) F H6 ∧ Same F0 F ∧ H6 D = some (.lst avs) ∧ RpA K F acc avs ∧ Alone B ρ (wipe σ vs) F D ∧ (∀ j ∈ vs, gt ρ j = .un) ∧
          lcD (lcT b tt me vs) acc (ds.drop (i + 1)) ρ = .ok accE ρE := fun {ρ4 F4 H4 acc' avs' H6} S4 sm4 ok4 ra4 e6 h4 => by
      obtain ⟨U, hH4, al4⟩ := S4.unprot h0 nD b0
      have U2 : St K B ρ4 σ2 F4 H6 := by
        rcases e6 with e6 | ⟨e6, _⟩
        · rw [e6]; exact U.poke al4
        · rw [e6]; exact U
      have U3 := U2.wiped ok4
      rw [weq] at U3
      refine ⟨_, F4, acc', avs', U3, (sm.trans sm5).trans sm4, ?_, ra4, ⟨al4.f, h0, fun j bk c hj e => ?_, nD⟩, fun j hj => wipeD_own vs ρ4 j hj, h4⟩
      · rcases e6 with e6 | ⟨e6, e7⟩
        · rw [e6]; exact upd_same
        · rw [e6, e7]; exact hH4
      · have nj : j ∉ vs := fun z => by rw [wipeD_own vs ρ4 j z] at hj; cases hj
        rw [wipeD_gt vs ρ4 j nj] at hj
        refine al4.sl j bk c hj ?_
        rw [← weq, wipe_out nj] at e
        exact e
    rw [et]
    intro F3 H3 S3 sm3
    rcases hk with ⟨rfl, rfl, ok, rfl⟩ | ⟨rfl, v, ρ4, y, ρ5, em, es, rfl, ok, rfl⟩
    · rw [if_neg Bool.false_ne_true]
      exact fin S3 sm3 ok (ra.mono (sm5.trans sm3)) (.inr ⟨rfl, rfl⟩) hw
    · rw [if_pos rfl]
      refine ⟨B.prot D (.lst avs), ρ3, F3, S3, ?_⟩
      rw [em]
      intro F4 H4 u S4 sm4 vr
      obtain ⟨F6, S6, sm6, q⟩ := settle_ok S4 vr es
      have hw : (if acc.length < sizeLine then lcD (lcT b tt me vs) (acc ++ [y]) (ds.drop (i + 1)) (wipeD vs ρ5) else .no) = .ok accE ρE := hw
      by_cases c : acc.length < sizeLine
      · rw [if_pos c] at hw
        have hH6 : H4 D = some (.lst avs) := (S6.unprot h0 nD b0).2.1
        exact ⟨avs, hH6, by rw [ra.len]; exact c, fin S6 ((sm3.trans sm4).trans sm6) ok ((ra.mono (((sm5.trans sm3).trans sm4).trans sm6)).app (.one q)) (.inl rfl) hw⟩
      · rw [if_neg c] at hw
        cases hw
  · have ei : i = ds.length := by omega
    subst ei
    refine .inl ⟨ws H (sm1.trans S.sub), ?_⟩
    rw [List.drop_length] at hw
    cases hw
    exact fin F H avs S sm hHD ra al un

theorem alone_new {K : PySem.W.Frag} {B : Bs} {ρ : En} {σ : L2.St} {F H : Hp} {D : Addr} (S : St K B ρ σ F H) (hD : H D = none) : Alone B ρ σ F D ∧ B.F0 D = none := by
  have nD := S.nrf hD
  have f1 : F D = none := by
    cases e : F D with
    | none => rfl
    | some x => rw [S.sub _ _ e] at hD; cases hD
  refine ⟨⟨f1, ?_, (fun i bk c hi e => ?_), nD⟩, ?_⟩
  · cases e : B.H0 D with
    | none => rfl
    | some x => rw [S.keep D x e nD] at hD; cases hD
  · have sl := S.slot i
    rw [hi] at sl
    obtain ⟨q, e2, _, z⟩ := sl
    rw [e] at e2
    cases e2
    obtain ⟨x, hx⟩ := z.there
    rw [hD] at hx
    cases hx
  · cases e : B.F0 D with
    | none => rfl
    | some x => rw [S.base _ _ e] at f1; cases f1
/-- the end of a comprehension -/
theorem lc_end {K : PySem.W.Frag} {mg : Str → Option Value} {W : WX} {B : Bs} {ρ1 ρE : En} {σ : L2.St} {F1 H1 F H : Hp} {Q : VK} {accE : List Dat} {avs : List V} {vs : List Nat} {D : Addr} (S1 : St K B ρ1 σ F1 H1) (own : ownOk vs ρ1 = true)
    (hw : Wp K mg W B σ (.ok (.cel (.lst accE)) (backD ρ1 vs ρE)) F1 Q) (S : St K B ρE (wipe σ vs) F H) (sm : Same F1 F) (hHD : H D = some (.lst avs)) (ra : RpA K F accE avs) (al : Alone B ρE (wipe σ vs) F D) (un : ∀ j ∈ vs, gt ρE j = .un) : Q (.ref D) H := by
  have S9 := S.backed S1 sm own un
  refine hw F H (.ref D) S9 sm ⟨D, rfl, al.f, al.h0, ⟨avs, hHD, ra⟩, fun j bk c hj e => ?_, al.rf⟩
  have nj : j ∉ vs := fun z => by
    have hl : ρ1.length = ρE.length := by rw [S.len, S1.len, wipe_length]
    rw [backD_own vs ρE j hl z] at hj
    have := ownOk_at own j z
    rw [hj] at this
    cases this
  rw [backD_gt vs ρE j nj] at hj
  exact al.sl j bk c hj (by rw [wipe_out nj]; exact e)

section
variable {X : Cx} {W : WX} {e elt tg iter : Expr} {ifs : List Expr} {mi : M (List Dat)} {b : Tg} {tt : M Bool} {me : M Val} {scope : Scope} {own : List (Str × Nat)} {pos : Pos}
def tYesB : M Bool := fun ρ => .ok true ρ
theorem td_ifs0 : PTs X [] (tDT X.K X.mg W tYesB) := ⟨fun pins s σ H Q I ⟨B, ρ, F, S, h⟩ => pts_nil.run pins s σ H Q I (WpG.okI (a := true) h S)⟩
theorem td_ifs1 {c : Expr} (h : TD X W c tt) : PTs X [c] (tDT X.K X.mg W tt) := pts_one h
theorem lc_start (hb : ∀ j ∈ b.slots, j ∈ own.map (·.2)) {σ : L2.St} {H : Hp} {Q : VK} (h : tD X.K X.mg W (eLc mi b tt me (own.map (·.2))) σ H Q) :
    tLc (tDI X.K X.mg W mi) (tDG X.K b) (tDT X.K X.mg W0 tt) (tD X.K X.mg W0 me) (own.map (·.2)) σ H Q := by
  obtain ⟨B, ρ, F, S, h⟩ := h
  refine ⟨B, ρ, F, S, (Wp.splitG h).mono fun ds ρ1 F1 H1 ⟨_, S1, _, h1⟩ J wk D hD => ?_⟩
  by_cases ow : ownOk (own.map (·.2)) ρ1 = true
  · rw [if_pos ow] at h1
    cases el : lcD (lcT b tt me (own.map (·.2))) [] ds (wipeD (own.map (·.2)) ρ1) with
    | no => rw [el] at h1; exact h1.elim
    | ex _ _ => exact (lcD_noex (fun _ _ _ _ => lcT_noex) el).elim
    | ok accE ρE =>
      rw [el] at h1
      have Sw := S1.wiped ow
      obtain ⟨al, b0⟩ := alone_new Sw hD
      exact lc_turns hb wk el (Sw.grow hD) (Same.refl F1) upd_same .nil al (fun j hj => wipeD_own _ ρ1 j hj) b0 fun F H avs S sm hHD ra al un => lc_end S1 ow h1 S sm hHD ra al un
  · rw [if_neg ow] at h1
    exact h1.elim
theorem ed_lc (hc : X.calm = true) (hN : X.N.Nodup) (hi : ID X W tg iter mi) (ok : BlkOk X.N X.env.scope scope own)
    (hg : ∀ (s : Shared) (H : Hp) (C : Addr) (cl : List (Str × Addr)) (fp : List Addr), GD (X.blk s H scope (compEnvC scope cl C X.env) fp) tg b) (ht : ∀ (s : Shared) (H : Hp) (C : Addr) (cl : List (Str × Addr)) (fp : List Addr), PTs (X.blk s H scope (compEnvC scope cl C X.env) fp) ifs (tDT X.K X.mg W0 tt))
    (he : ∀ (s : Shared) (H : Hp) (C : Addr) (cl : List (Str × Addr)) (fp : List Addr), ED (X.blk s H scope (compEnvC scope cl C X.env) fp) W0 elt me) (hb : ∀ j ∈ b.slots, j ∈ own.map (·.2) := by decide)
    (hs : ∀ x, foldedSetIterable iter X.env x = pure x := by intro _; rfl) : ED X W (.ListComp elt [⟨tg, iter, ifs, 0⟩] scope pos) (eLc mi b tt me (own.map (·.2))) :=
  ⟨fun pins s σ H Q I h => (pe_lc hc hN hi ok hg ht he hs).run pins s σ H Q I (lc_start hb h)⟩
theorem sd_setLc {i : Nat} {y : Str} {py spos : Pos} (hc : X.calm = true) (hN : X.N.Nodup) (hy : X.N[i]? = some y) (hyl : X.env.scope.names.lookup y = some .local)
    (hsw : swapsWith (.ListComp elt [⟨tg, iter, ifs, 0⟩] scope pos) (some (.Name y py)) spos.line X.env = pure true) (hi : ID X W tg iter mi) (ok : BlkOk X.N X.env.scope scope own)
    (hg : ∀ (s : Shared) (H : Hp) (C : Addr) (cl : List (Str × Addr)) (fp : List Addr), GD (X.blk s H scope (compEnvC scope cl C X.env) fp) tg b) (ht : ∀ (s : Shared) (H : Hp) (C : Addr) (cl : List (Str × Addr)) (fp : List Addr), PTs (X.blk s H scope (compEnvC scope cl C X.env) fp) ifs (tDT X.K X.mg W0 tt))
    (he : ∀ (s : Shared) (H : Hp) (C : Addr) (cl : List (Str × Addr)) (fp : List Addr), ED (X.blk s H scope (compEnvC scope cl C X.env) fp) W0 elt me) (hb : ∀ j ∈ b.slots, j ∈ own.map (·.2) := by decide)
    (hs : ∀ x, foldedSetIterable iter X.env x = pure x := by intro _; rfl) : SD X W (.Assign [.Name y py] (.ListComp elt [⟨tg, iter, ifs, 0⟩] scope pos) spos) (sSet i (eLc mi b tt me (own.map (·.2)))) := by
  refine ⟨fun pins s σ H D I ⟨B, ρ, F, S, h⟩ => (ps_setLc (te := tD X.K X.mg W0 me) (g := tDG X.K b) hc hN hy hyl hsw hi ok hg ht he hs).run pins s σ H D I ?_⟩
  have h2 : tD X.K X.mg W (eLc mi b tt me (own.map (·.2))) σ H (fun u H' => gName i u σ H' D.nx) := ⟨B, ρ, F, S, (WpS.splitV h).mono fun u H' ⟨v, ρ', F', _, S', _, vr, h'⟩ => putV_ok S' vr h'⟩
  exact lc_start hb h2
end
end Dl
end

-- text D10
section
set_option Elab.async false
set_option linter.all false
set_option maxRecDepth 100000
set_option maxHeartbeats 1000000
/-! Dl, part 10: comprehensions of two clauses. -/
namespace Dl
open PySem L2

def lc2T (b : Tg) (tt : M Bool) (mi1 : M (List Dat)) (b1 : Tg) (tt1 : M Bool) (me : M Val) (vs vs1 : List Nat) (d : Dat) (acc : List Dat) : M (List Dat) := fun ρ =>
  match b.bind d ρ with
  | none => .no
  | some ρ1 => match tt ρ1 with
    | .ok true ρ2 => (match mi1 ρ2 with
      | .ok ds1 ρ3 => if ownOk vs1 ρ3 = true then (match lcD (lcT b1 tt1 me vs1) acc ds1 (wipeD vs1 ρ3) with
          | .ok acc' ρ4 => if ownOk vs ρ4 = true then .ok acc' (wipeD vs ρ4) else .no
          | _ => .no) else .no
      | _ => .no)
    | .ok false ρ2 => if ownOk vs ρ2 = true then .ok acc (wipeD vs ρ2) else .no
    | _ => .no
def lc2D (f : Dat → List Dat → M (List Dat)) : List Dat → List Dat → M (List Dat)
  | acc, [], ρ => .ok acc ρ
  | acc, d :: ds, ρ => (f d acc ρ).bnd fun acc ρ => lc2D f acc ds ρ
def eLc2 (mi : M (List Dat)) (b : Tg) (tt : M Bool) (mi1 : M (List Dat)) (b1 : Tg) (tt1 : M Bool) (me : M Val) (vs vs1 : List Nat) : M Val := fun ρ => (mi ρ).bnd fun ds ρ1 =>
  if ownOk vs ρ1 = true then (lc2D (lc2T b tt mi1 b1 tt1 me vs vs1) [] ds (wipeD vs ρ1)).bnd fun acc ρ2 => .ok (.cel (.lst acc)) (backD ρ1 vs ρ2) else .no

theorem lc2T_is {b : Tg} {tt : M Bool} {mi1 : M (List Dat)} {b1 : Tg} {tt1 : M Bool} {me : M Val} {vs vs1 : List Nat} {d : Dat} {acc : List Dat} {ρ : En} {r : R (List Dat)} (h : lc2T b tt mi1 b1 tt1 me vs vs1 d acc ρ = r) (hn : r ≠ .no) :
    ∃ acc' ρ', r = .ok acc' ρ' ∧ ∃ ρ1 k ρ2, b.bind d ρ = some ρ1 ∧ tt ρ1 = .ok k ρ2 ∧ ((k = false ∧ acc' = acc ∧ ownOk vs ρ2 = true ∧ ρ' = wipeD vs ρ2) ∨
      (k = true ∧ ∃ ds1 ρ3 ρ4, mi1 ρ2 = .ok ds1 ρ3 ∧ ownOk vs1 ρ3 = true ∧ lcD (lcT b1 tt1 me vs1) acc ds1 (wipeD vs1 ρ3) = .ok acc' ρ4 ∧ ownOk vs ρ4 = true ∧ ρ' = wipeD vs ρ4)) := by
  unfold lc2T at h
  cases eb : b.bind d ρ with
  | none => simp only [eb] at h; exact absurd h.symm hn
  | some ρ1 =>
    simp only [eb] at h
    cases et : tt ρ1 with
    | no => simp only [et] at h; exact absurd h.symm hn
    | ex _ _ => simp only [et] at h; exact absurd h.symm hn
    | ok k ρ2 =>
      simp only [et] at h
      cases k with
      | false =>
        have h : (if ownOk vs ρ2 = true then R.ok acc (wipeD vs ρ2) else .no) = r := h
        by_cases ok : ownOk vs ρ2 = true
        · rw [if_pos ok] at h
          exact ⟨acc, wipeD vs ρ2, h.symm, ρ1, false, ρ2, rfl, et, .inl ⟨rfl, rfl, ok, rfl⟩⟩
        · rw [if_neg ok] at h; exact absurd h.symm hn
      | true =>
        cases em : mi1 ρ2 with
        | no => simp only [em] at h; exact absurd h.symm hn
        | ex _ _ => simp only [em] at h; exact absurd h.symm hn
        | ok ds1 ρ3 =>
          simp only [em] at h
          by_cases ok1 : ownOk vs1 ρ3 = true
          · rw [if_pos ok1] at h
            cases el : lcD (lcT b1 tt1 me vs1) acc ds1 (wipeD vs1 ρ3) with
            | no => simp only [el] at h; exact absurd h.symm hn
            | ex _ _ => simp only [el] at h; exact absurd h.symm hn
            | ok acc' ρ4 =>
              simp only [el] at h
              by_cases ok : ownOk vs ρ4 = true
              · rw [if_pos ok] at h
                exact ⟨acc', _, h.symm, ρ1, true, ρ2, rfl, et, .inr ⟨rfl, ds1, ρ3, ρ4, em, ok1, el, ok, rfl⟩⟩
              · rw [if_neg ok] at h; exact absurd h.symm hn
          · rw [if_neg ok1] at h; exact absurd h.symm hn
theorem lc2D_noex {f : Dat → List Dat → M (List Dat)} (hf : ∀ d acc ρ x ρ', f d acc ρ ≠ .ex x ρ') : ∀ {ds acc : List Dat} {ρ ρ' : En} {x : Exn}, lc2D f acc ds ρ = .ex x ρ' → False
  | [], _, _, _, _, h => by cases h
  | d :: ds, acc, ρ, ρ', x, h => by
    unfold lc2D at h
    cases e : f d acc ρ with
    | no => rw [e] at h; cases h
    | ex _ _ => exact hf _ _ _ _ _ e
    | ok o ρ1 =>
      rw [e] at h
      exact lc2D_noex hf h
theorem wipe_wipe {σ : L2.St} {vs vs1 : List Nat} (h : ∀ j ∈ vs1, j ∈ vs) : wipe (wipe σ vs1) vs = wipe σ vs := by
  refine List.ext_getElem? fun j => ?_
  by_cases hj : j ∈ vs
  · rw [wipe_in hj, wipe_in hj, wipe_length]
  · rw [wipe_out hj, wipe_out hj, wipe_out fun z => hj (h j z)]

theorem lc2_turns {K : PySem.W.Frag} {mg : Str → Option Value} {B : Bs} {ρ0 ρE : En} {σ : L2.St} {F1 F0 H0 : Hp} {Qd : Hp → Prop} {J : It} {ds acc0 accE : List Dat} {avs0 : List V} {b b1 : Tg} {tt tt1 : M Bool} {mi1 : M (List Dat)} {me : M Val} {vs vs1 : List Nat} {D : Addr}
    (hb : ∀ j ∈ b.slots, j ∈ vs) (hb1 : ∀ j ∈ b1.slots, j ∈ vs1) (hv : ∀ j ∈ vs1, j ∈ vs) (wk : WalkD K F1 ds J) (hok : lc2D (lc2T b tt mi1 b1 tt1 me vs vs1) acc0 ds ρ0 = .ok accE ρE) (S0 : St K B ρ0 (wipe σ vs) F0 H0) (sm0 : Same F1 F0) (hD0 : H0 D = some (.lst avs0)) (ra0 : RpA K F0 acc0 avs0)
    (al0 : Alone B ρ0 (wipe σ vs) F0 D) (un0 : ∀ j ∈ vs, gt ρ0 j = .un) (b0 : B.F0 D = none)
    (fin : ∀ F H avs, St K B ρE (wipe σ vs) F H → Same F0 F → H D = some (.lst avs) → RpA K F accE avs → Alone B ρE (wipe σ vs) F D → (∀ j ∈ vs, gt ρE j = .un) → Qd H) :
    ∃ W : Nat → Nat → Hp → Prop, (∃ m, W 0 m H0) ∧ ∀ i m H, W i m H →
      (J.stop i H ∧ Qd H) ∨ (J.go i H ∧ ∃ Nx : Hp → Prop, (∀ H', Nx H' → ∃ m', m' < m ∧ W (i + 1) m' H') ∧ ∀ x H', J.yld i H x H' → tDG K b x (wipe σ vs) H' fun σ2 H2 => wipe σ2 vs = wipe σ vs ∧ tDT K mg W0 tt σ2 H2 fun b H3 =>
        if b = true then tDI K mg W0 mi1 σ2 H3 fun J1 H4 => ∃ W1 : Nat → Nat → Hp → Prop, (∃ m, W1 0 m H4) ∧ ∀ j k H, W1 j k H →
          (J1.stop j H ∧ Nx H) ∨ (J1.go j H ∧ ∃ Nx1 : Hp → Prop, (∀ H', Nx1 H' → ∃ k', k' < k ∧ W1 (j + 1) k' H') ∧ ∀ x H', J1.yld j H x H' → tDG K b1 x (wipe σ2 vs1) H' fun σ3 H5 => wipe σ3 vs1 = wipe σ2 vs1 ∧ tDT K mg W0 tt1 σ3 H5 fun b H6 =>
            if b = true then tD K mg W0 me σ3 H6 fun y H7 => ∃ acc, H7 D = some (.lst acc) ∧ acc.length < sizeLine ∧ Nx1 (upd H7 D (.lst (acc ++ [y]))) else Nx1 H6)
        else Nx H3) := by
  obtain ⟨wg, ws, wy⟩ := wk
  have h0 := al0.h0
  have nD := al0.rf
  refine ⟨fun i m H => m = ds.length - i ∧ i ≤ ds.length ∧ ∃ ρ F acc avs, St K B ρ (wipe σ vs) F H ∧ Same F0 F ∧ H D = some (.lst avs) ∧ RpA K F acc avs ∧ Alone B ρ (wipe σ vs) F D ∧ (∀ j ∈ vs, gt ρ j = .un) ∧
    lc2D (lc2T b tt mi1 b1 tt1 me vs vs1) acc (ds.drop i) ρ = .ok accE ρE,
    ⟨ds.length, rfl, Nat.zero_le _, ρ0, F0, acc0, avs0, S0, Same.refl F0, hD0, ra0, al0, un0, hok⟩, ?_⟩
  rintro i m H ⟨rfl, hi, ρ, F, acc, avs, S, sm, hHD, ra, al, un, hw⟩
  have sm1 := sm0.trans sm
  by_cases hlt : i < ds.length
  · refine .inr ⟨wg i H hlt (sm1.trans S.sub), fun H' => ∃ ρ F acc avs, St K B ρ (wipe σ vs) F H' ∧ Same F0 F ∧ H' D = some (.lst avs) ∧ RpA K F acc avs ∧ Alone B ρ (wipe σ vs) F D ∧ (∀ j ∈ vs, gt ρ j = .un) ∧
      lc2D (lc2T b tt mi1 b1 tt1 me vs vs1) acc (ds.drop (i + 1)) ρ = .ok accE ρE, fun H' h' => ⟨ds.length - (i + 1), by omega, rfl, hlt, h'⟩, fun x H' hy => ?_⟩
    obtain ⟨d, hd⟩ : ∃ d, ds[i]? = some d := ⟨ds[i], List.getElem?_eq_getElem hlt⟩
    have hdr : ds.drop i = d :: ds.drop (i + 1) := by
      rw [List.drop_eq_getElem_cons hlt]
      rw [List.getElem?_eq_getElem hlt] at hd
      rw [Option.some.inj hd]
    rw [hdr] at hw
    obtain ⟨acc2, ρn, e1, hw⟩ := bnd_ok (show (lc2T b tt mi1 b1 tt1 me vs vs1 d acc ρ).bnd _ = _ from hw)
    obtain ⟨_, _, er, ρ2, k, ρ3, eb, et, hk⟩ := lc2T_is e1 (fun z => nomatch z)
    cases er
    have Sp := S.prot hHD al
    obtain ⟨F5, S5, sm5, q5⟩ := ((wy i H x H' (sm1.trans S.sub) hy d hd).up sm1).to Sp
    refine ⟨B.prot D (.lst avs), ρ, F5, d, ρ2, S5, q5, eb, fun σ2 o2 S2 => ⟨wipe_oth hb o2, B.prot D (.lst avs), ρ2, F5, S2, ?_⟩⟩
    have weq := wipe_oth hb o2
    have fin : ∀ {σ4 : L2.St} {ρ4 : En} {F4 H4 : Hp} {acc' : List Dat} {avs' : List V}, wipe σ4 vs = wipe σ vs → St K B ρ4 σ4 F4 H4 → H4 D = some (.lst avs') → Alone B ρ4 σ4 F4 D → Same F5 F4 → ownOk vs ρ4 = true → RpA K F4 acc' avs' →
        lc2D (lc2T b tt mi1 b1 tt1 me vs vs1) acc' (ds.drop (i + 1)) (wipeD vs ρ4) = .ok accE ρE →
        ∃ ρ F acc avs, St K B ρ (wipe σ vs) F H4 ∧ Same F0 F ∧ H4 D = some (.lst avs) ∧ RpA K F acc avs ∧ Alone B ρ (wipe σ vs) F D ∧ (∀ j ∈ vs, gt ρ j = .un) ∧
          lc2D (lc2T b tt mi1 b1 tt1 me vs vs1) acc (ds.drop (i + 1)) ρ = .ok accE ρE := fun {σ4 ρ4 F4 H4 acc' avs'} weq U hH4 al4 sm4 ok4 ra4 h4 => by
      have U3 := U.wiped ok4
      rw [weq] at U3
      refine ⟨_, F4, acc', avs', U3, (sm.trans sm5).trans sm4, hH4, ra4, ⟨al4.f, h0, fun j bk c hj e => ?_, nD⟩, fun j hj => wipeD_own vs ρ4 j hj, h4⟩
      have nj : j ∉ vs := fun z => by rw [wipeD_own vs ρ4 j z] at hj; cases hj
      rw [wipeD_gt vs ρ4 j nj] at hj
      refine al4.sl j bk c hj ?_
      rw [← weq, wipe_out nj] at e
      exact e
    rw [et]
    intro F3 H3 S3 sm3
    rcases hk with ⟨rfl, rfl, ok, rfl⟩ | ⟨rfl, ds1, ρ4, ρ5, em, ok1, el, ok, rfl⟩
    · rw [if_neg Bool.false_ne_true]
      obtain ⟨U, hH4, al4⟩ := S3.unprot h0 nD b0
      exact fin weq U hH4 al4 sm3 ok (ra.mono (sm5.trans sm3)) hw
    · rw [if_pos rfl]
      refine ⟨B.prot D (.lst avs), ρ3, F3, S3, ?_⟩
      rw [em]
      intro F4 H4 S4 sm4 J1 wk1
      obtain ⟨U, hH4, al4⟩ := S4.unprot h0 nD b0
      have Uw := U.wiped ok1
      have alw : Alone B (wipeD vs1 ρ4) (wipe σ2 vs1) F4 D := ⟨al4.f, h0, fun j bk c hj e => by
        have nj : j ∉ vs1 := fun z => by rw [wipeD_own vs1 ρ4 j z] at hj; cases hj
        rw [wipeD_gt vs1 ρ4 j nj] at hj
        rw [wipe_out nj] at e
        exact al4.sl j bk c hj e, nD⟩
      refine lc_turns hb1 wk1 el Uw (Same.refl F4) hH4 (ra.mono ((sm5.trans sm3).trans sm4)) alw (fun j hj => wipeD_own vs1 ρ4 j hj) b0 fun F6 H6 avs6 S6 sm6 hH6 ra6 al6 un6 => ?_
      exact fin ((wipe_wipe hv).trans weq) S6 hH6 al6 ((sm3.trans sm4).trans sm6) ok ra6 hw
  · have ei : i = ds.length := by omega
    subst ei
    refine .inl ⟨ws H (sm1.trans S.sub), ?_⟩
    rw [List.drop_length] at hw
    cases hw
    exact fin F H avs S sm hHD ra al un

section
variable {X : Cx} {W : WX} {e elt tg iter tg1 iter1 : Expr} {ifs ifs1 : List Expr} {mi mi1 : M (List Dat)} {b b1 : Tg} {tt tt1 : M Bool} {me : M Val} {scope : Scope} {own : List (Str × Nat)} {vs1 : List Nat} {pos : Pos}
theorem lc2_start (hb : ∀ j ∈ b.slots, j ∈ own.map (·.2)) (hb1 : ∀ j ∈ b1.slots, j ∈ vs1) (hv : ∀ j ∈ vs1, j ∈ own.map (·.2)) {σ : L2.St} {H : Hp} {Q : VK} (h : tD X.K X.mg W (eLc2 mi b tt mi1 b1 tt1 me (own.map (·.2)) vs1) σ H Q) :
    tLc2 (tDI X.K X.mg W mi) (tDG X.K b) (tDT X.K X.mg W0 tt) (tDI X.K X.mg W0 mi1) (tDG X.K b1) (tDT X.K X.mg W0 tt1) (tD X.K X.mg W0 me) (own.map (·.2)) vs1 σ H Q := by
  obtain ⟨B, ρ, F, S, h⟩ := h
  refine ⟨B, ρ, F, S, (Wp.splitG h).mono fun ds ρ1 F1 H1 ⟨_, S1, _, h1⟩ J wk D hD => ?_⟩
  by_cases ow : ownOk (own.map (·.2)) ρ1 = true
  · rw [if_pos ow] at h1
    cases el : lc2D (lc2T b tt mi1 b1 tt1 me (own.map (·.2)) vs1) [] ds (wipeD (own.map (·.2)) ρ1) with
    | no => rw [el] at h1; exact h1.elim
    | ex _ _ =>
      refine (lc2D_noex (fun _ _ _ _ _ z => ?_) el).elim
      obtain ⟨_, _, q, _⟩ := lc2T_is z (fun z => nomatch z)
      cases q
    | ok accE ρE =>
      rw [el] at h1
      have Sw := S1.wiped ow
      obtain ⟨al, b0⟩ := alone_new Sw hD
      exact lc2_turns hb hb1 hv wk el (Sw.grow hD) (Same.refl F1) upd_same .nil al (fun j hj => wipeD_own _ ρ1 j hj) b0 fun F H avs S sm hHD ra al un => lc_end S1 ow h1 S sm hHD ra al un
  · rw [if_neg ow] at h1
    exact h1.elim
theorem ed_lc2 (hc : X.calm = true) (hN : X.N.Nodup) (hi : ID X W tg iter mi) (ok : BlkOk X.N X.env.scope scope own)
    (hg : ∀ (s : Shared) (H : Hp) (C : Addr) (cl : List (Str × Addr)) (fp : List Addr), GD (X.blk s H scope (compEnvC scope cl C X.env) fp) tg b) (ht : ∀ (s : Shared) (H : Hp) (C : Addr) (cl : List (Str × Addr)) (fp : List Addr), PTs (X.blk s H scope (compEnvC scope cl C X.env) fp) ifs (tDT X.K X.mg W0 tt))
    (hi1 : ∀ (s : Shared) (H : Hp) (C : Addr) (cl : List (Str × Addr)) (fp : List Addr), ID (X.blk s H scope (compEnvC scope cl C X.env) fp) W0 tg1 iter1 mi1)
    (hg1 : ∀ (s : Shared) (H : Hp) (C : Addr) (cl : List (Str × Addr)) (fp : List Addr), GD (X.blk s H scope (compEnvC scope cl C X.env) fp) tg1 b1) (ht1 : ∀ (s : Shared) (H : Hp) (C : Addr) (cl : List (Str × Addr)) (fp : List Addr), PTs (X.blk s H scope (compEnvC scope cl C X.env) fp) ifs1 (tDT X.K X.mg W0 tt1))
    (he : ∀ (s : Shared) (H : Hp) (C : Addr) (cl : List (Str × Addr)) (fp : List Addr), ED (X.blk s H scope (compEnvC scope cl C X.env) fp) W0 elt me) (hb : ∀ j ∈ b.slots, j ∈ own.map (·.2) := by decide) (hb1 : ∀ j ∈ b1.slots, j ∈ vs1 := by decide) (hv : ∀ j ∈ vs1, j ∈ own.map (·.2) := by decide)
    (hs : ∀ x, foldedSetIterable iter X.env x = pure x := by intro _; rfl) (hs1 : ∀ env x, foldedSetIterable iter1 env x = pure x := by intro _ _; rfl) :
    ED X W (.ListComp elt [⟨tg, iter, ifs, 0⟩, ⟨tg1, iter1, ifs1, 0⟩] scope pos) (eLc2 mi b tt mi1 b1 tt1 me (own.map (·.2)) vs1) :=
  ⟨fun pins s σ H Q I h => (pe_lc2 (wi1 := tDI X.K X.mg W0 mi1) (te := tD X.K X.mg W0 me) (g := tDG X.K b) (g1 := tDG X.K b1) hc hN hi ok hv hg ht hi1 hg1 ht1 he hs hs1).run pins s σ H Q I (lc2_start hb hb1 hv h)⟩
theorem sd_setLc2 {i : Nat} {y : Str} {py spos : Pos} (hc : X.calm = true) (hN : X.N.Nodup) (hy : X.N[i]? = some y) (hyl : X.env.scope.names.lookup y = some .local)
    (hsw : swapsWith (.ListComp elt [⟨tg, iter, ifs, 0⟩, ⟨tg1, iter1, ifs1, 0⟩] scope pos) (some (.Name y py)) spos.line X.env = pure true) (hi : ID X W tg iter mi) (ok : BlkOk X.N X.env.scope scope own)
    (hg : ∀ (s : Shared) (H : Hp) (C : Addr) (cl : List (Str × Addr)) (fp : List Addr), GD (X.blk s H scope (compEnvC scope cl C X.env) fp) tg b) (ht : ∀ (s : Shared) (H : Hp) (C : Addr) (cl : List (Str × Addr)) (fp : List Addr), PTs (X.blk s H scope (compEnvC scope cl C X.env) fp) ifs (tDT X.K X.mg W0 tt))
    (hi1 : ∀ (s : Shared) (H : Hp) (C : Addr) (cl : List (Str × Addr)) (fp : List Addr), ID (X.blk s H scope (compEnvC scope cl C X.env) fp) W0 tg1 iter1 mi1)
    (hg1 : ∀ (s : Shared) (H : Hp) (C : Addr) (cl : List (Str × Addr)) (fp : List Addr), GD (X.blk s H scope (compEnvC scope cl C X.env) fp) tg1 b1) (ht1 : ∀ (s : Shared) (H : Hp) (C : Addr) (cl : List (Str × Addr)) (fp : List Addr), PTs (X.blk s H scope (compEnvC scope cl C X.env) fp) ifs1 (tDT X.K X.mg W0 tt1))
    (he : ∀ (s : Shared) (H : Hp) (C : Addr) (cl : List (Str × Addr)) (fp : List Addr), ED (X.blk s H scope (compEnvC scope cl C X.env) fp) W0 elt me) (hb : ∀ j ∈ b.slots, j ∈ own.map (·.2) := by decide) (hb1 : ∀ j ∈ b1.slots, j ∈ vs1 := by decide) (hv : ∀ j ∈ vs1, j ∈ own.map (·.2) := by decide)
    (hs : ∀ x, foldedSetIterable iter X.env x = pure x := by intro _; rfl) (hs1 : ∀ env x, foldedSetIterable iter1 env x = pure x := by intro _ _; rfl) :
    SD X W (.Assign [.Name y py] (.ListComp elt [⟨tg, iter, ifs, 0⟩, ⟨tg1, iter1, ifs1, 0⟩] scope pos) spos) (sSet i (eLc2 mi b tt mi1 b1 tt1 me (own.map (·.2)) vs1)) := by
  refine ⟨fun pins s σ H D I ⟨B, ρ, F, S, h⟩ => (ps_setLc2 (wi1 := tDI X.K X.mg W0 mi1) (te := tD X.K X.mg W0 me) (g := tDG X.K b) (g1 := tDG X.K b1) hc hN hy hyl hsw hi ok hv hg ht hi1 hg1 ht1 he hs hs1).run pins s σ H D I ?_⟩
  have h2 : tD X.K X.mg W (eLc2 mi b tt mi1 b1 tt1 me (own.map (·.2)) vs1) σ H (fun u H' => gName i u σ H' D.nx) := ⟨B, ρ, F, S, (WpS.splitV h).mono fun u H' ⟨v, ρ', F', _, S', _, vr, h'⟩ => putV_ok S' vr h'⟩
  exact lc2_start hb hb1 hv h2
end
end Dl
end

-- text D11
section
set_option Elab.async false
set_option linter.all false
set_option maxRecDepth 100000
set_option maxHeartbeats 1000000
/-! Dl, part 11: zip and enumerate over lists, tuples and texts alike. -/
namespace Dl
open PySem PySem.Spec PyProof.Rows L2

/-! ### what a loop can draw from -/
inductive Src where
  | lst (a : Addr)
  | tup (a : Addr)
  | txt (x : Str) (t : Tok)
def Src.val : Src → Value
  | .lst a => .ref a
  | .tup a => .ref a
  | .txt x t => .str x t
def Src.obj : Src → Obj
  | .lst a => { cls := .type "list_iterator", data := .fields #[.ref a, .int 0 0] }
  | .tup a => { cls := .type "tuple_iterator", data := .fields #[.ref a, .int 0 0] }
  | .txt x t => { cls := .type (strIterType x), data := .fields #[.str x t, .int 0 0] }
def Src.cur : Src → Addr → Nat → Heap → Prop
  | .lst a, it, i, h => h.IsListIter it a i
  | .tup a, it, i, h => h.IsTupleIter it a i
  | .txt x t, it, i, h => h.IsStrIter it (strIterType x) x t i
def Src.own : Src → List Addr
  | .lst a => [a]
  | .tup a => [a]
  | .txt _ _ => []
def SrcIs (K : PySem.W.Frag) (F : Hp) : Src → List Dat → Prop
  | .lst a, ds => ∃ xs, F a = some (.lst xs) ∧ RpA K F ds xs
  | .tup a, ds => ∃ xs, SqT K F a xs ∧ RpA K F ds xs
  | .txt x _, ds => ds = chD x

theorem src_of {K : PySem.W.Frag} {F : Hp} {d : Dat} {v : V} {u : Value} {ds : List Dat} (h : Rp K F d v) (e : itD d = some ds) (r : RelV v u) : ∃ k : Src, u = k.val ∧ SrcIs K F k ds := by
  cases d with
  | list ds' =>
    cases e
    unfold Rp at h
    obtain ⟨a, xs, rfl, hF, ra⟩ := h
    cases (show u = .ref a from r)
    exact ⟨.lst a, rfl, xs, hF, ra⟩
  | tuple ds' =>
    cases e
    unfold Rp at h
    obtain ⟨a, xs, rfl, hF, ra⟩ := h
    cases (show u = .ref a from r)
    exact ⟨.tup a, rfl, xs, hF, ra⟩
  | str z =>
    cases e
    unfold Rp at h
    subst h
    obtain ⟨t, rfl⟩ := r
    exact ⟨.txt z t, rfl, rfl⟩
  | _ => cases e

section
variable {X : Cx} {pins : List (Addr × Obj)} {σ : L2.St} {H F : Hp} {s : Shared} {k : Src} {ds : List Dat} {it : Addr}
theorem src_lt (I : Inv X pins σ H s) (sm : Same F H) (h : SrcIs X.K F k ds) : ∀ b ∈ k.own, b < s.heap.objs.size := by
  intro b hb
  cases k with
  | lst a =>
    cases List.mem_singleton.mp hb
    obtain ⟨xs, hF, _⟩ := h
    obtain ⟨its, _, p, _⟩ := I.list (SqL.of (sm _ _ hF))
    exact p.lt
  | tup a =>
    cases List.mem_singleton.mp hb
    obtain ⟨xs, hF, _⟩ := h
    obtain ⟨its, _, p, _⟩ := I.tuple (same_t sm hF)
    obtain ⟨o, ho, _⟩ := id p
    exact Heap.lt_size ho
  | txt _ _ => cases hb
theorem src_begin (I : Inv X pins σ H s) (sm : Same F H) (h : SrcIs X.K F k ds) : ∃ Hc : Heap → Prop, Begins k.val k.obj Hc ∧ Hc s.heap := by
  cases k with
  | lst a =>
    obtain ⟨xs, hF, _⟩ := h
    obtain ⟨its, _, p, _⟩ := I.list (SqL.of (sm _ _ hF))
    exact ⟨_, begins_list a its.toArray, p.isList⟩
  | tup a =>
    obtain ⟨xs, hF, _⟩ := h
    obtain ⟨its, _, p, _⟩ := I.tuple (same_t sm hF)
    exact ⟨_, begins_tuple a its.toArray, p⟩
  | txt x t => exact ⟨_, begins_text x t, trivial⟩
theorem cur_new : ∀ {k : Src} {h : Heap}, h.get? it = some k.obj → k.cur it 0 h
  | .lst a, _, e => ⟨_, e, rfl, rfl⟩
  | .tup a, _, e => ⟨_, e, rfl, rfl⟩
  | .txt x t, _, e => ⟨_, e, rfl, rfl⟩
theorem cur_obj : ∀ {k : Src} {i : Nat} {h : Heap}, k.cur it i h → ∃ o, h.get? it = some o ∧ ∀ v, o.data ≠ .cell v
  | .lst a, _, _, ⟨o, e, c, d⟩ => ⟨o, e, fun v z => by rw [d] at z; cases z⟩
  | .tup a, _, _, ⟨o, e, c, d⟩ => ⟨o, e, fun v z => by rw [d] at z; cases z⟩
  | .txt x t, _, _, ⟨o, e, c, d⟩ => ⟨o, e, fun v z => by rw [d] at z; cases z⟩
theorem cur_keep : ∀ {k : Src} {i : Nat} {h h' : Heap}, k.cur it i h → (∀ o, h.get? it = some o → h'.get? it = some o) → k.cur it i h'
  | .lst a, _, _, _, ⟨o, e, r⟩, q => ⟨o, q _ e, r⟩
  | .tup a, _, _, _, ⟨o, e, r⟩, q => ⟨o, q _ e, r⟩
  | .txt x t, _, _, _, ⟨o, e, r⟩, q => ⟨o, q _ e, r⟩
theorem chD_at {x : Str} {i c : Nat} (h : x.cps[i]? = some c) : (chD x)[i]? = some (.str ⟨#[c]⟩) := by
  unfold chD
  rw [List.getElem?_map, Array.getElem?_toList, h]
  rfl
theorem vals_at : ∀ {xs : List V} {us : List Value} {i : Nat} {u : Value}, Vals xs us → us[i]? = some u → ∃ x, xs[i]? = some x ∧ RelV x u
  | [], [], _, _, _, e => by simp at e
  | x :: _, _ :: _, 0, _, .cons r _, e => by
    simp at e
    subst e
    exact ⟨x, by simp, r⟩
  | _ :: _, _ :: _, i + 1, _, .cons _ t, e => by
    obtain ⟨x, h, r⟩ := vals_at (i := i) t (by simpa using e)
    exact ⟨x, by simpa using h, r⟩
theorem src_draw (hc : X.calm = true) (I : Inv X pins σ H s) (sm : Same F H) (h : SrcIs X.K F k ds) (hit : H it = none) {i0 : Nat} (c0 : k.cur it i0 s.heap) :
    ∃ (P : Nat → Value → Prop) (Sd : Nat → Heap → Prop), Draws X.prog X.w X.A.in1 it (it :: k.own) ds.length P Sd ∧ (∀ i, k.cur it i s.heap → Sd i s.heap) ∧ (∀ i h, Sd i h → k.cur it i h) ∧ ∀ i v, P i v → ∃ x d, ds[i]? = some d ∧ Rp X.K F d x ∧ RelV x v := by
  have hh : X.A.in1.handled = none := I.ok.hd hc
  have ne : ∀ {a : Addr} {o : HO}, H a = some o → a ≠ it := fun e z => by rw [z, hit] at e; cases e
  cases k with
  | lst a =>
    obtain ⟨xs, hF, ra⟩ := h
    have hH := sm _ _ hF
    obtain ⟨its, rv, p, _⟩ := I.list (SqL.of (K := X.K) hH)
    have hl : its.toArray.size = ds.length := by rw [List.size_toArray, ← rv.length, ra.len]
    refine ⟨_, _, hl ▸ Draws.list hh it a (ne hH) its.toArray, fun i c => ⟨c, p.isList⟩, fun i h q => q.1, fun i v e => ?_⟩
    have e' : its[i]? = some v := by simpa using e
    obtain ⟨x, hx, rx⟩ := vals_at rv e'
    obtain ⟨d, hd, q⟩ := ra.at' hx
    exact ⟨x, d, hd, q, rx⟩
  | tup a =>
    obtain ⟨xs, hF, ra⟩ := h
    have hT := same_t sm hF
    obtain ⟨its, rv, p, _⟩ := I.tuple hT
    have hl : its.toArray.size = ds.length := by rw [List.size_toArray, ← rv.length, ra.len]
    have na : a ≠ it := fun z => by
      obtain ⟨o, e1, e2, _⟩ := id p
      obtain ⟨o', e3, e4, _⟩ := c0
      rw [z, e3] at e1
      cases e1
      rw [e4] at e2
      injection e2 with e5
      exact absurd e5 (by decide)
    refine ⟨_, _, hl ▸ Draws.tuple hh it a na its.toArray, fun i c => ⟨c, p⟩, fun i h q => q.1, fun i v e => ?_⟩
    have e' : its[i]? = some v := by simpa using e
    obtain ⟨x, hx, rx⟩ := vals_at rv e'
    obtain ⟨d, hd, q⟩ := ra.at' hx
    exact ⟨x, d, hd, q, rx⟩
  | txt x t =>
    have hl : x.cps.size = ds.length := by rw [show ds = chD x from h]; unfold chD; simp
    refine ⟨_, _, hl ▸ Draws.text hh it x t, fun i c => c, fun i h q => q, fun i v e => ?_⟩
    obtain ⟨c, u, hcx, rfl⟩ := e
    rw [show ds = chD x from h]
    exact ⟨.str ⟨#[c]⟩, _, chD_at hcx, rp_str, u, rfl⟩
end

/-! ### turns out of WalksT -/
/-- the i-th turn makes a pair of data -/
def Itp (K : PySem.W.Frag) (F : Hp) (ds : List Dat) : It :=
  ⟨fun i H => i < ds.length ∧ Same F H, fun i H v H' => ∃ T x y d1 d2, v = .ref T ∧ H T = none ∧ H' = upd H T (.tup [x, y]) ∧ ds[i]? = some (.tuple [d1, d2]) ∧ Rp K F d1 x ∧ Rp K F d2 y, fun i H => i = ds.length ∧ Same F H⟩
theorem walkD_p {K : PySem.W.Frag} {F : Hp} {ds : List Dat} : WalkD K F ds (Itp K F ds) := by
  refine ⟨fun k H hk s => ⟨hk, s⟩, fun H s => ⟨rfl, s⟩, fun k H v H' s y d hd => ?_⟩
  obtain ⟨T, x, y, d1, d2, rfl, hT, rfl, e, q1, q2⟩ := y
  rw [hd] at e
  cases e
  exact .inr ⟨T, _, _, rfl, rfl, hT, rfl, .cons q1 (.one q2)⟩
theorem turn_of {P : Program} {w : World} {K : PySem.W.Frag} {elts : List Expr} {kk : Nat} {tpos : Pos} {F : Hp} {ds : List Dat} {fp wr : List Addr} {it : Addr} {tn : Nat → Heap → Prop} (mem : it ∈ fp) (hwr : ∀ b ∈ wr, b ∈ fp)
    (obj : ∀ i h, tn i h → ∀ b ∈ fp, ∃ o, h.get? b = some o ∧ ∀ v, o.data ≠ .cell v) (keep : ∀ i h h', tn i h → (∀ b ∈ fp, ∀ o, h.get? b = some o → h'.get? b = some o) → tn i h')
    (self : ∀ (A : Around) (i : Nat) (s : Shared) (Q : Value → Shared → Prop) (E : Value → Shared → Prop), tn i s.heap → Q (.ref it) s → wpAny (model P w) A (pyIter (.ref it)) Q E s)
    (wk : ∀ (X : Cx), X.prog = P → X.w = w → X.K = K → X.calm = true → ∀ (i : Nat) (pins : List (Addr × Obj)) (s : Shared) (σ : L2.St) (H : Hp), Inv X pins σ H s → (∀ b ∈ fp, FpOk X pins H b) → tn i s.heap → Same F H →
      ∃ fpA n Pt Sd Mid, n = ds.length ∧ WalksT P w X.A it fpA wr n Pt Sd Mid ∧ Sd i s.heap ∧ (∀ h, Sd (i + 1) h → tn (i + 1) h) ∧
        ∀ vals, Pt i vals → ∃ x y u v d1 d2, vals = #[u, v] ∧ RelV x u ∧ RelV y v ∧ ds[i]? = some (.tuple [d1, d2]) ∧ Rp K F d1 x ∧ Rp K F d2 y) :
    Turn P w K (.Tuple elts kk tpos) (Itp K F ds) fp it tn where
  mem := mem
  obj := obj
  keep := keep
  self := self
  item := by
    intro X hP hw hK hc i pins s σ H E I hf st hg
    obtain ⟨hlt, sm⟩ := hg
    obtain ⟨fpA, n, Pt, Sd, Mid, rfl, W, s0, s1, pt⟩ := wk X hP hw hK hc i pins s σ H I hf st sm
    subst hP hw hK
    refine W.item i s _ _ hlt s0 fun T vals h' tk hp hsz hT hm hk => ?_
    refine ⟨_, rfl, W.go elts kk tpos i T { s with heap := h', toks := tk } _ _ hm fun h'' st' hk' => ?_⟩
    obtain ⟨x, y, u, v, d1, d2, rfl, r1, r2, e, q1, q2⟩ := pt vals hp
    obtain ⟨o, ho, hcl, hd⟩ := id hT
    have hT2 : h''.get? T = some o := hk' T o (W.apart i T _ hm) ho
    have new : ObjOk X.prog X.w (upd H T (.tup [x, y])) h'' T (.tup [x, y]) := ⟨by show 2 ≤ sizeLine; decide, [u, v], .cons r1 (.cons r2 .nil), o, hT2, hcl, hd⟩
    have I1 : Inv X pins σ (upd H T (.tup [x, y])) { s with heap := h'', toks := tk } := I.turnedNew (ch := wr) (fun c ob hb q => hk' c ob hb (hk c ob hb q)) (fun b hb => hf b (hwr b hb)) hsz new
    have hTn : H T = none := I.hok.fresh hsz
    refine ⟨.ref T, _, I1, rfl, ⟨T, x, y, d1, d2, rfl, hTn, rfl, e, q1, q2⟩, s1 _ st', fun b hb => ?_⟩
    obtain ⟨ob, hob, _⟩ := obj i _ st b hb
    rw [upd_ne (Nat.ne_of_lt (Nat.lt_of_lt_of_le (Heap.lt_size hob) hsz))]
    exact (hf b hb).1
  done := by
    intro X hP hw hK hc i pins s σ H E I hf st hg
    obtain ⟨rfl, sm⟩ := hg
    obtain ⟨fpA, n, Pt, Sd, Mid, rfl, W, s0, s1, pt⟩ := wk X hP hw hK hc _ pins s σ H I hf st sm
    subst hP hw hK
    exact W.done s _ _ s0 fun h' tk hk => ⟨rfl, I.turnedL (t' := tk) (ch := wr) hk fun b hb => hf b (hwr b hb)⟩

/-! ### zip -/
def zipD : List Dat → List Dat → List Dat
  | d :: ds, e :: es => .tuple [d, e] :: zipD ds es
  | _, _ => []
theorem zipD_len : ∀ {ds es : List Dat}, (zipD ds es).length = min ds.length es.length
  | [], _ => by simp [zipD]
  | _ :: _, [] => by simp [zipD]
  | _ :: ds, _ :: es => by simp [zipD, zipD_len (ds := ds) (es := es)]
theorem zipD_at : ∀ {ds es : List Dat} {i : Nat} {d e : Dat}, ds[i]? = some d → es[i]? = some e → (zipD ds es)[i]? = some (.tuple [d, e])
  | [], _, _, _, _, h, _ => by simp at h
  | _ :: _, [], _, _, _, _, h => by simp at h
  | _ :: _, _ :: _, 0, _, _, h1, h2 => by simp at h1 h2; subst h1 h2; rfl
  | _ :: ds, _ :: es, i + 1, d, e, h1, h2 => by
    have := zipD_at (ds := ds) (es := es) (i := i) (d := d) (e := e) (by simpa using h1) (by simpa using h2)
    simpa [zipD] using this
theorem turn_zipD {P : Program} {w : World} {K : PySem.W.Frag} {elts : List Expr} {kk : Nat} {tpos : Pos} {F : Hp} {k1 k2 : Src} {ds1 ds2 : List Dat} {N : Nat} (h1 : SrcIs K F k1 ds1) (h2 : SrcIs K F k2 ds2) (l1 : ∀ b ∈ k1.own, b < N) (l2 : ∀ b ∈ k2.own, b < N) :
    Turn P w K (.Tuple elts kk tpos) (Itp K F (zipD ds1 ds2)) [N + 4, N + 2, N + 3, N, N + 1] (N + 4)
      (fun i h => IsZip h (N + 4) (N + 2) (N + 3) .none ∧ IsTupOf2 h (N + 2) (.ref N) (.ref (N + 1)) ∧ (∃ a1 a2, IsTupOf2 h (N + 3) a1 a2) ∧ k1.cur N i h ∧ k2.cur (N + 1) i h) := by
  refine turn_of (wr := [N + 4, N + 3, N, N + 1]) (by simp) (by simp) (fun i h st b hb => ?_) (fun i h h' st k => ?_) (fun A i s Q E st q => wpAny_pyIter_zip st.1 q) ?_
  · obtain ⟨hz, hTI, ⟨x, y, hTO⟩, c1, c2⟩ := st
    have e' : b = N + 4 ∨ b = N + 2 ∨ b = N + 3 ∨ b = N ∨ b = N + 1 := by simpa using hb
    rcases e' with q | q | q | q | q
    · rw [q]; exact ⟨_, hz, fun v q => nomatch q⟩
    · rw [q]; exact ⟨_, hTI, fun v q => nomatch q⟩
    · rw [q]; exact ⟨_, hTO, fun v q => nomatch q⟩
    · rw [q]; exact cur_obj c1
    · rw [q]; exact cur_obj c2
  · obtain ⟨hz, hTI, ⟨x, y, hTO⟩, c1, c2⟩ := st
    exact ⟨k _ (by simp) _ hz, k _ (by simp) _ hTI, ⟨x, y, k _ (by simp) _ hTO⟩, cur_keep c1 fun o q => k N (by simp) o q, cur_keep c2 fun o q => k (N + 1) (by simp) o q⟩
  · intro X hP hw hK hc i pins s σ H I hf st sm
    subst hP hw hK
    obtain ⟨hz, hTI, hTO, c1, c2⟩ := st
    obtain ⟨P1, S1, D1, a1, b1, p1⟩ := src_draw hc I sm h1 (hf N (by simp)).1 c1
    obtain ⟨P2, S2, D2, a2, b2, p2⟩ := src_draw hc I sm h2 (hf (N + 1) (by simp)).1 c2
    refine ⟨_, _, _, _, _, zipD_len.symm, WalksT.zipD2 (zip_sep2 l1 l2) D1 D2, ⟨hz, hTI, hTO, a1 _ c1, a2 _ c2⟩, fun h q => ⟨q.1, q.2.1, q.2.2.1, b1 _ _ q.2.2.2.1, b2 _ _ q.2.2.2.2⟩, fun vals hp => ?_⟩
    obtain ⟨u, v, q1, q2, rfl⟩ := hp
    obtain ⟨x, d1, e1, r1, t1⟩ := p1 _ _ q1
    obtain ⟨y, d2, e2, r2, t2⟩ := p2 _ _ q2
    exact ⟨x, y, u, v, d1, d2, rfl, t1, t2, zipD_at e1 e2, r1, r2⟩
def gZip : List Dat → Option (List Dat)
  | [d, e] => match itD d, itD e with
    | some ds, some es => some (zipD ds es)
    | _, _ => none
  | _ => none
/-- the arguments settled, then walked -/
def iPrim (g : List Dat → Option (List Dat)) (ms : List (M Val)) : M (List Dat) := fun ρ => (eArgs ms ρ).bnd fun vs ρ => (settleAll vs ρ).bnd fun ds ρ =>
  match g ds with
  | some r => .ok r ρ
  | none => .no
theorem iprim_end {X : Cx} {W : WX} {R0 : It → Hp → Prop} {ms : List (M Val)} {g : List Dat → Option (List Dat)} {B : Bs} {σ : L2.St} {F : Hp} {ρ : En} (hw : WpG X.K X.mg W B σ F (iPrim g ms ρ) fun ds _ F' H' => ∀ J, WalkD X.K F' ds J → R0 J H') :
    WpG X.K X.mg W B σ F (eArgs ms ρ) fun vs _ F' H' => ∀ us, VSs X.K F' σ us vs → ∃ ds r F2, ds.length = ms.length ∧ g ds = some r ∧ Same F2 H' ∧ RpA X.K F2 ds us ∧ ∀ J, WalkD X.K F2 r J → R0 J H' := by
  refine (WpG.split hw).mono fun vs ρ' F' H' ⟨ev, S', _, h'⟩ us hu => ?_
  cases e : settleAll vs ρ' with
  | no => rw [e] at h'; exact h'.elim
  | ex x ρ1 => exact (settleAll_noex e).elim
  | ok ds ρ2 =>
    rw [e] at h'
    obtain ⟨F2, S2, sm2, q⟩ := settleAll_ok S' hu e
    have h2 : WpG X.K X.mg W B σ F' (match g ds with
      | some r => R.ok r ρ2
      | none => .no) fun ds _ F' H' => ∀ J, WalkD X.K F' ds J → R0 J H' := h'
    cases eg : g ds with
    | none => rw [eg] at h2; exact h2.elim
    | some r =>
      rw [eg] at h2
      exact ⟨ds, r, F2, by rw [← eArgs_len ev, ← VSs_len hu, q.len], eg, S2.sub, q, fun J w => h2 F2 H' S2 sm2 J w⟩
theorem id_zip {X : Cx} {W : WX} {e e2 : Expr} {m1 m2 : M Val} {p pos tpos : Pos} {elts : List Expr} {kk : Nat} (hg : Gl X "zip") (hm : X.mg "zip" = none) (ha : AD X W [e, e2] [m1, m2])
    (hs : starEach [e, e2] X.env = (false, eval e X.env) :: starEach [e2] X.env := by rfl) (hpl : (backTo pos (starEach [e2] X.env)).any (·.1) = false := by rfl) :
    ID X W (.Tuple elts kk tpos) (.Call (.Name "zip" p) [e, e2] [] pos) (iPrim gZip [m1, m2]) := by
  refine ⟨fun pins s σ H R0 I ⟨B, ρ, F, S, hw⟩ => ?_⟩
  refine Call_ (ld_blt I hg hm PyProof.Rows.boot_zip (PyProof.Rows.callWith_type1 (thn (ha.run pos pins s σ H _ I ⟨B, ρ, F, S, iprim_end hw⟩) fun us s1 ⟨vs, H1, I1, r1, q1⟩ => ?_) hs hpl))
  obtain ⟨ds, r, F2, hl, eg, sm, ra, q⟩ := q1
  cases r1 with
  | nil => have := ra.len; rw [hl] at this; cases this
  | cons t1 rr =>
    cases rr with
    | nil => have := ra.len; rw [hl] at this; cases this
    | cons t2 rr =>
      cases rr with
      | cons _ _ => have := ra.len; rw [hl] at this; cases this
      | nil =>
        obtain ⟨d1, d2, rfl⟩ : ∃ d1 d2, ds = [d1, d2] := by
          cases ds with
          | nil => cases hl
          | cons d1 r1 =>
            cases r1 with
            | nil => cases hl
            | cons d2 r2 =>
              cases r2 with
              | nil => exact ⟨d1, d2, rfl⟩
              | cons _ _ => cases hl
        obtain ⟨v1, _, ez, ra1, rb⟩ := ra.cons_inv
        cases ez
        obtain ⟨v2, _, ez, ra2, _⟩ := rb.cons_inv
        cases ez
        unfold gZip at eg
        cases g1 : itD d1 with
        | none => simp [g1] at eg
        | some ds1 =>
          cases g2 : itD d2 with
          | none => simp [g1, g2] at eg
          | some ds2 =>
            simp only [g1, g2, Option.some.injEq] at eg
            subst eg
            obtain ⟨k1, rfl, i1⟩ := src_of ra1 g1 t1
            obtain ⟨k2, rfl, i2⟩ := src_of ra2 g2 t2
            obtain ⟨_, B1, b1⟩ := src_begin I1 sm i1
            obtain ⟨_, B2, b2⟩ := src_begin I1 sm i2
            refine zip_begins2 B1 B2 b1 b2 fun h' hz hTI hTO g1 g2 hsz hk => wpAny_pyIter_zip hz ?_
            have I2 : Inv X pins σ H1 { s1 with heap := h' } := I1.kept (t' := s1.toks) hk
            refine ⟨s1.heap.objs.size + 4, [s1.heap.objs.size + 4, s1.heap.objs.size + 2, s1.heap.objs.size + 3, s1.heap.objs.size, s1.heap.objs.size + 1], _, _, H1, rfl, I2, turn_zipD (F := F2) i1 i2 (src_lt I1 sm i1) (src_lt I1 sm i2), ⟨hz, hTI, ⟨_, _, hTO⟩, cur_new g1, cur_new g2⟩, fun c hcm => ?_, q _ walkD_p⟩
            have e' : c = s1.heap.objs.size + 4 ∨ c = s1.heap.objs.size + 2 ∨ c = s1.heap.objs.size + 3 ∨ c = s1.heap.objs.size ∨ c = s1.heap.objs.size + 1 := by simpa using hcm
            have hle : s1.heap.objs.size ≤ c := by
              rcases e' with z | z | z | z | z
              · rw [z]; exact Nat.le_add_right _ _
              · rw [z]; exact Nat.le_add_right _ _
              · rw [z]; exact Nat.le_add_right _ _
              · rw [z]; exact Nat.le_refl _
              · rw [z]; exact Nat.le_add_right _ _
            exact I1.fpOk hle (I1.hok.fresh hle)
end Dl
end

-- text D12
section
set_option Elab.async false
set_option linter.all false
set_option maxRecDepth 100000
set_option maxHeartbeats 1000000
/-! Dl, part 12: stores to items, name op= e, a, b = x, y; what is built in. -/
namespace Dl
open PySem PySem.Spec PyProof.Rows L2

section
variable {X : Cx} {W : WX} {st : Stmt} {e a b c : Expr} {es : List Expr} {m m1 m2 m3 mk mv : M Val} {s s1 s2 : MS} {p : M Bool} {pos : Pos}

/-! ### x[k] = v -/
abbrev PW3 := Cel → Dat → Dat → Option Cel
def SetD (X : Cx) (g : PW3) : Prop :=
  PSet X fun o k v H Q => ∃ (F : Hp) (p : Addr) (c c' : Cel) (dk d : Dat), o = .ref p ∧ Same F H ∧ F p = none ∧ CelAt X.K F H p c ∧ RT X.K F H dk k ∧ Rp X.K F d v ∧ g c dk d = some c' ∧ ∀ ob, CelAt X.K F (upd H p ob) p c' → Q (upd H p ob)
def sPut (g : PW3) (i : Nat) (mk mv : M Val) : MS := fun ρ => (mv ρ).bnd fun v ρ => (settle v ρ).bnd fun d ρ =>
  match gt ρ i with
  | .cel _ _ => (mk ρ).bnd fun kv ρ =>
    (match rd ρ kv with
    | some dk => (match gt ρ i with
      | .cel b c => (match g c dk d with
        | some c' => .ok .nx (pt ρ i (.cel b c'))
        | none => .no)
      | _ => .no)
    | none => .no)
  | _ => .no
theorem sd_put {x : Str} {px p1 : Pos} {k : Expr} {g : PW3} (i : Nat) (hs : SetD X g) (he : ED X W e mv) (hk : ED X W k mk)
    (hN : X.N[i]? = some x := by rfl) (hv : Vis X.env.scope x := by first | exact Or.inl rfl | exact Or.inr (Or.inl rfl) | exact Or.inr (Or.inr rfl)) (hd : (x == ("__debug__" : Str)) = false := by decide)
    (hcd : (x == ("__classdict__" : Str)) = false := by decide)
    (ha : ∀ v, assign (.Subscript (.Name x px) k p1) X.env v = (do
      let ov ← holding [v] (eval (.Name x px) X.env)
      let iv ← holding [v, ov] (eval k X.env)
      standAt p1
      holding [v, ov, iv] (setItem ov iv v)
      release [v, ov, iv] []) := by intro _; rfl)
    (hsw : swapsWithSole [.Subscript (.Name x px) k p1] e pos.line X.env = pure false := by rfl) (hw : swappedStores [.Subscript (.Name x px) k p1] e X.env = pure none := by rfl)
    (h1 : (assignEach [.Subscript (.Name x px) k p1] X.env).map (·.2) = [assign (.Subscript (.Name x px) k p1) X.env] := by rfl) :
    SD X W (.Assign [.Subscript (.Name x px) k p1] e pos) (sPut g i mk mv) := by
  refine ⟨fun pins s σ H D I ⟨B, ρ, F, S, h⟩ => (ps_asg he (pg_sub (pv i hN hv hd hcd) hk hs ha) hsw hw h1).run pins s σ H D I ⟨B, ρ, F, S, (WpS.splitV h).mono fun u H' ⟨v, ρ', F', _, S', _, vr, h'⟩ => ?_⟩⟩
  cases e1 : settle v ρ' with
  | no => rw [e1] at h'; exact h'.elim
  | ex x ρ1 => exact (settle_noex e1).elim
  | ok d ρ1 =>
    rw [e1] at h'
    obtain ⟨F2, S2, sm, q⟩ := settle_ok S' vr e1
    have h2 : WpS X.K X.mg W B F' (match gt ρ1 i with
      | .cel _ _ => (mk ρ1).bnd fun kv ρ =>
        (match rd ρ kv with
        | some dk => (match gt ρ i with
          | .cel b c => (match g c dk d with
            | some c' => .ok .nx (pt ρ i (.cel b c'))
            | none => .no)
          | _ => .no)
        | none => .no)
      | _ => .no) D := h'
    have sl := S2.slot i
    cases hg : gt ρ1 i with
    | un => rw [hg] at h2; exact h2.elim
    | dat _ => rw [hg] at h2; exact h2.elim
    | scr _ => rw [hg] at h2; exact h2.elim
    | cel bk c =>
      rw [hg] at h2 sl
      obtain ⟨pa, ep, f, ca⟩ := sl
      refine ⟨_, ep, B, ρ1, F2, S2, (WpS.splitV (WpS.up h2 sm)).mono fun uk H3 ⟨kv, ρ3, F3, _, S3, sm3, vk, h3⟩ => ?_⟩
      cases ek : rd ρ3 kv with
      | none => simp only [ek] at h3; exact h3.elim
      | some dk =>
        simp only [ek] at h3
        have sl3 := S3.slot i
        cases hg3 : gt ρ3 i with
        | un => rw [hg3] at h3; exact h3.elim
        | dat _ => rw [hg3] at h3; exact h3.elim
        | scr _ => rw [hg3] at h3; exact h3.elim
        | cel bk3 c3 =>
          rw [hg3] at h3 sl3
          obtain ⟨pa3, ep3, f3, ca3⟩ := sl3
          rw [ep] at ep3
          cases ep3
          cases eg : g c3 dk d with
          | none => simp only [eg] at h3; exact h3.elim
          | some c' =>
            simp only [eg] at h3
            exact ⟨F3, pa, c3, c', dk, d, rfl, S3.sub, f3, ca3, rd_ok S3 vk ek, q.mono sm3, eg, fun ob co => h3 σ F3 _ (S3.mut hg3 ep co) (Same.refl F3)⟩
def gSetL : PW3
  | .lst xs, .int k, d => match ixN xs.length k with
    | some j => some (.lst (xs.set j d))
    | none => none
  | _, _, _ => none
theorem set_gSetL : SetD X gSetL := by
  intro pins s σ H o i v ov iv u Q I ro ri rv h
  obtain ⟨F, p, c, c', dk, d, rfl, sm, f, ca, rk, q, e, fin⟩ := h
  cases c with
  | lst xs =>
    cases dk with
    | int k =>
      obtain ⟨vs, hp, ra⟩ := ca
      obtain rfl := rt_int rk
      unfold gSetL at e
      cases ej : ixN xs.length k with
      | none => simp only [ej] at e; cases e
      | some j =>
        simp only [ej] at e
        cases e
        exact set_list pins s σ H _ _ _ ov iv u Q I ro ri rv ⟨p, vs, k, j, rfl, rfl, hp, by rw [ra.len]; exact ej, fin _ ⟨_, upd_same, ra.set j q⟩⟩
    | _ => simp [gSetL] at e
  | dcK _ => simp [gSetL] at e
  | dcT _ => simp [gSetL] at e

/-! ### x op= e -/
def sAug (g : P2) (i : Nat) (m : M Val) : MS := fun ρ =>
  match gt ρ i with
  | .dat d => (m ρ).bnd fun v ρ => (match rd ρ v with
    | some d2 => (match g d d2 with
      | some r => putV i r ρ
      | none => .no)
    | none => .no)
  | _ => .no
theorem sd_aug {x : Str} {pos' : Pos} {op : Operator} {g : P2} (i : Nat) (hN : X.N.Nodup) (ho : OpD X (inplaceOp op) g) (he : ED X W e m) (hi : X.N[i]? = some x := by rfl) (hx : Loc X.env.scope x := by first | exact Or.inl rfl | exact Or.inr rfl)
    (hf : X.fn x = true ∨ X.env.scope.names.lookup x = some .local := by first | exact .inl rfl | exact .inr rfl | assumption) : SD X W (.AugAssign (.Name x pos') op e pos) (sAug g i m) := by
  refine ⟨fun pins s σ H D I ⟨B, ρ, F, S, h⟩ => (ps_aug hN hi hx he ho hf).run pins s σ H D I ?_⟩
  unfold sAug at h
  have sl := S.slot i
  cases hg : gt ρ i with
  | un => rw [hg] at h; exact h.elim
  | scr _ => rw [hg] at h; exact h.elim
  | cel _ _ => rw [hg] at h; exact h.elim
  | dat d =>
    rw [hg] at h sl
    obtain ⟨v, ev, q⟩ := sl
    refine ⟨v, ev, B, ρ, F, S, (WpS.splitV h).mono fun u H' ⟨v2, ρ', F', _, S', sm, vr, h'⟩ => ?_⟩
    cases e2 : rd ρ' v2 with
    | none => simp only [e2] at h'; exact h'.elim
    | some d2 =>
      simp only [e2] at h'
      cases eg : g d d2 with
      | none => simp only [eg] at h'; exact h'.elim
      | some r =>
        simp only [eg] at h'
        refine ⟨F', d, d2, r, S'.sub, Rp.rt S'.sub (q.mono sm), rd_ok S' vr e2, eg, fun z H2 f => ?_⟩
        obtain ⟨F3, S3, sm3, vr3⟩ := f.to S'
        exact putV_ok S3 vr3 (WpS.up h' sm3)
def gIAdd : P2
  | .int i, .int j => some (.dat (.int (i + j)))
  | .str x, .str y => if x.length + y.length ≤ sizeLine then some (.dat (.str (x ++ y))) else none
  | _, _ => none
theorem iop_gAdd : OpD X (inplaceOp .Add) gIAdd := opD_of fun F H d1 d2 res x y sm h1 h2 e => by
  cases d1 <;> cases d2 <;> first | (cases e; done) | skip
  · cases e
    obtain rfl := rt_int h1
    obtain rfl := rt_int h2
    exact ⟨_, iop_add, fun Q q => ⟨_, _, rfl, rfl, q _ _ fin_int⟩⟩
  · rename_i a b
    obtain rfl := rt_str h1
    obtain rfl := rt_str h2
    by_cases c : a.length + b.length ≤ sizeLine
    · have e' : (if a.length + b.length ≤ sizeLine then some (Val.dat (.str (a ++ b))) else none) = some res := e
      rw [if_pos c] at e'
      cases e'
      exact ⟨_, iop_add_str, fun Q q => ⟨_, _, rfl, rfl, c, q _ _ fin_str⟩⟩
    · have e' : (if a.length + b.length ≤ sizeLine then some (Val.dat (.str (a ++ b))) else none) = some res := e
      rw [if_neg c] at e'
      cases e'
def gISub : P2
  | .int i, .int j => some (.dat (.int (i - j)))
  | _, _ => none
theorem iop_gSub : OpD X (inplaceOp .Sub) gISub := opD_of fun F H d1 d2 res x y sm h1 h2 e => by
  cases d1 <;> cases d2 <;> first | (cases e; done) | skip
  cases e
  obtain rfl := rt_int h1
  obtain rfl := rt_int h2
  exact ⟨_, iop_sub, fun Q q => ⟨_, _, rfl, rfl, q _ _ fin_int⟩⟩

/-! ### a, b = x, y -/
theorem rpa1 {K : PySem.W.Frag} {F : Hp} {d : Dat} {us : List V} (h : RpA K F [d] us) : ∃ u, us = [u] ∧ Rp K F d u := by
  obtain ⟨u, r, rfl, q, q2⟩ := h.cons_inv
  cases q2.nil_inv
  exact ⟨u, rfl, q⟩
theorem rpa2 {K : PySem.W.Frag} {F : Hp} {d e : Dat} {us : List V} (h : RpA K F [d, e] us) : ∃ u v, us = [u, v] ∧ Rp K F d u ∧ Rp K F e v := by
  obtain ⟨u, r, rfl, q, q2⟩ := h.cons_inv
  obtain ⟨v, rfl, q3⟩ := rpa1 q2
  exact ⟨u, v, rfl, q, q3⟩
def par2 (i j : Nat) : List Dat → MS
  | [d1, d2], ρ => if locked ρ i = true then .no else if locked (pt ρ i (.dat d1)) j = true then .no else .ok .nx (pt (pt ρ i (.dat d1)) j (.dat d2))
  | _, _ => .no
def sPar2 (i j : Nat) (m1 m2 : M Val) : MS := fun ρ => (eArgs [m1, m2] ρ).bnd fun vs ρ => (settleAll vs ρ).bnd fun ds ρ => par2 i j ds ρ
theorem sd_par {i j : Nat} {x y : Str} {px py ppt : Pos} {kt k2 pt2} (hc : X.calm = true) (hN : X.N.Nodup) (ha : AD X W [a, b] [m1, m2]) (hi : X.N[i]? = some x := by rfl) (hj : X.N[j]? = some y := by rfl) (hij : i ≠ j := by decide)
    (hx : X.env.scope.names.lookup x = some .local := by rfl) (hy : X.env.scope.names.lookup y = some .local := by rfl)
    (hw : swappedStores [.Tuple [.Name x px, .Name y py] kt ppt] (.Tuple [a, b] k2 pt2) X.env = pure (some [x, y]) := by rfl)
    (hs : swapsWithSole [.Tuple [.Name x px, .Name y py] kt ppt] (.Tuple [a, b] k2 pt2) pos.line X.env = pure false := by rfl) :
    SD X W (.Assign [.Tuple [.Name x px, .Name y py] kt ppt] (.Tuple [a, b] k2 pt2) pos) (sPar2 i j m1 m2) := by
  refine ⟨fun pins s σ H D I ⟨B, ρ, F, S, h⟩ => (ps_par hc hN hi hj hij hx hy ha hw hs).run pins s σ H D I ⟨B, ρ, F, S, (WpS.splitG h).mono fun vs ρ' F' H' ⟨_, S', _, h'⟩ us hu => ?_⟩⟩
  cases e1 : settleAll vs ρ' with
  | no => rw [e1] at h'; exact h'.elim
  | ex x ρ1 => exact (settleAll_noex e1).elim
  | ok ds ρ1 =>
    rw [e1] at h'
    obtain ⟨F2, S2, sm, q⟩ := settleAll_ok S' hu e1
    have h2 : WpS X.K X.mg W B F' (par2 i j ds ρ1) D := h'
    match ds, h2, q with
    | [], h2, _ => exact h2.elim
    | [_], h2, _ => exact h2.elim
    | _ :: _ :: _ :: _, h2, _ => exact h2.elim
    | [d1, d2], h2, q =>
      obtain ⟨u, v, rfl, q1, q2⟩ := rpa2 q
      have h2 : WpS X.K X.mg W B F' (if locked ρ1 i = true then .no else if locked (pt ρ1 i (.dat d1)) j = true then .no else .ok .nx (pt (pt ρ1 i (.dat d1)) j (.dat d2))) D := h2
      by_cases l1 : locked ρ1 i = true
      · rw [if_pos l1] at h2; exact h2.elim
      · rw [if_neg l1] at h2
        by_cases l2 : locked (pt ρ1 i (.dat d1)) j = true
        · rw [if_pos l2] at h2; exact h2.elim
        · rw [if_neg l2] at h2
          refine ⟨u, v, rfl, h2 _ F2 H' ?_ sm⟩
          exact (S2.store (s := .dat d1) (unlocked (Bool.eq_false_iff.mpr l1)) q1).store (s := .dat d2) (unlocked (Bool.eq_false_iff.mpr l2)) q2

/-! ### what is built in -/
def gLen : PN
  | [.list ds] => some (.dat (.int ds.length))
  | [.tuple ds] => some (.dat (.int ds.length))
  | [.str x] => if x.length ≤ sizeLine then some (.dat (.int x.length)) else none
  | _ => none
theorem gLen1 {ds : List Dat} {r : Val} (e : gLen ds = some r) : ∃ d, ds = [d] := by
  match ds, e with
  | [], e => cases e
  | [d], _ => exact ⟨d, rfl⟩
  | a :: _ :: _, e => cases a <;> cases e
theorem cd_len : CallD X (.builtin "len") gLen := callD_of fun F H ds res xs sm h e => by
  obtain ⟨d, rfl⟩ := gLen1 e
  obtain ⟨u, rfl, hh⟩ := rts1 h
  cases d with
  | list ds =>
    cases e
    obtain ⟨a, ys, rfl, hH, ra⟩ := rt_lst hh
    exact ⟨_, call_len_seq, fun Q q => ⟨a, ys, rfl, .inl (SqL.of hH), by rw [ra.len]; exact q _ _ fin_int⟩⟩
  | tuple ds =>
    cases e
    obtain ⟨a, ys, rfl, hH, ra⟩ := rt_tup hh
    exact ⟨_, call_len_seq, fun Q q => ⟨a, ys, rfl, .inr (same_t sm hH), by rw [ra.len]; exact q _ _ fin_int⟩⟩
  | str z =>
    obtain rfl := rt_str hh
    have e' : (if z.length ≤ sizeLine then some (Val.dat (.int z.length)) else none) = some res := e
    by_cases c : z.length ≤ sizeLine
    · rw [if_pos c] at e'
      cases e'
      exact ⟨_, call_len_str, fun Q q => ⟨z, rfl, c, q _ _ fin_int⟩⟩
    · rw [if_neg c] at e'
      cases e'
  | _ => cases e
def gAbs : PN
  | [.int i] => some (.dat (.int (if i < 0 then -i else i)))
  | _ => none
theorem cd_abs : CallD X (.builtin "abs") gAbs := callD_of fun F H ds res xs sm h e => by
  match ds, e, h with
  | [.int i], e, h =>
    cases e
    obtain ⟨u, rfl, hh⟩ := rts1 h
    obtain rfl := rt_int hh
    exact ⟨_, call_abs, fun Q q => ⟨i, rfl, q _ _ fin_int⟩⟩
def gInt : PN
  | [.int i] => some (.dat (.int i))
  | [.bool b] => some (.dat (.int (if b then 1 else 0)))
  | _ => none
theorem cd_int : CallD X (.type "int") gInt := callD_of fun F H ds res xs sm h e => by
  match ds, e, h with
  | [.int i], e, h =>
    cases e
    obtain ⟨u, rfl, hh⟩ := rts1 h
    obtain rfl := rt_int hh
    exact ⟨_, call_int1, fun Q q => .inl ⟨i, rfl, q _ _ fin_int⟩⟩
  | [.bool i], e, h =>
    cases e
    obtain ⟨u, rfl, hh⟩ := rts1 h
    obtain rfl := rt_bl hh
    exact ⟨_, call_int1, fun Q q => .inr ⟨i, rfl, q _ _ fin_int⟩⟩
def gMax2 : PN
  | [.int i, .int j] => some (.dat (.int (if j > i then j else i)))
  | _ => none
theorem cd_max2 (hc : X.calm = true) : CallD X (.builtin "max") gMax2 := callD_of fun F H ds res xs sm h e => by
  match ds, e, h with
  | [.int i, .int j], e, h =>
    cases e
    obtain ⟨u, v, rfl, hh, h2⟩ := rts2 h
    obtain rfl := rt_int hh
    obtain rfl := rt_int h2
    exact ⟨_, call_max2 hc, fun Q q => ⟨i, j, rfl, q _ _ fin_int⟩⟩
def gMin2 : PN
  | [.int i, .int j] => some (.dat (.int (if j < i then j else i)))
  | _ => none
theorem cd_min2 (hc : X.calm = true) : CallD X (.builtin "min") gMin2 := callD_of fun F H ds res xs sm h e => by
  match ds, e, h with
  | [.int i, .int j], e, h =>
    cases e
    obtain ⟨u, v, rfl, hh, h2⟩ := rts2 h
    obtain rfl := rt_int hh
    obtain rfl := rt_int h2
    exact ⟨_, call_min2 hc, fun Q q => ⟨i, j, rfl, q _ _ fin_int⟩⟩
def gList : PN
  | [.list ds] => some (.cel (.lst ds))
  | [.tuple ds] => some (.cel (.lst ds))
  | _ => none
theorem cd_list : CallD X (.type "list") gList := callD_of fun F H ds res xs sm h e => by
  match ds, e, h with
  | [.list ds], e, h =>
    cases e
    obtain ⟨u, rfl, hh⟩ := rts1 h
    obtain ⟨a, ys, rfl, hH, ra⟩ := rt_lst hh
    exact ⟨_, call_list_of, fun Q q => ⟨a, ys, rfl, .inl (SqL.of hH), fun l hl => q _ _ (fin_lst hl ra)⟩⟩
  | [.tuple ds], e, h =>
    cases e
    obtain ⟨u, rfl, hh⟩ := rts1 h
    obtain ⟨a, ys, rfl, hH, ra⟩ := rt_tup hh
    exact ⟨_, call_list_of, fun Q q => ⟨a, ys, rfl, .inr (same_t sm hH), fun l hl => q _ _ (fin_lst hl ra)⟩⟩
def gTuple : PN
  | [.list ds] => some (.dat (.tuple ds))
  | [.tuple ds] => some (.dat (.tuple ds))
  | _ => none
theorem cd_tuple : CallD X (.type "tuple") gTuple := callD_of fun F H ds res xs sm h e => by
  match ds, e, h with
  | [.list ds], e, h =>
    cases e
    obtain ⟨u, rfl, hh⟩ := rts1 h
    obtain ⟨a, ys, rfl, hH, ra⟩ := rt_lst hh
    exact ⟨_, call_tuple_of, fun Q q => ⟨a, ys, rfl, .inl ⟨SqL.of hH, fun l hl => q _ _ (fin_tup hl ra)⟩⟩⟩
  | [.tuple ds], e, h =>
    cases e
    obtain ⟨u, rfl, hh⟩ := rts1 h
    obtain ⟨a, ys, rfl, hH, ra⟩ := rt_tup hh
    exact ⟨_, call_tuple_of, fun Q q => ⟨a, ys, rfl, .inr ⟨same_t sm hH, q _ _ (fin_dat (rp_tup hH ra))⟩⟩⟩
def blsOf : List Dat → Option (List Bool)
  | [] => some []
  | .bool b :: r => (blsOf r).map (b :: ·)
  | _ => none
theorem blsOf_ok {K : PySem.W.Frag} {F : Hp} : ∀ {ds : List Dat} {bs : List Bool} {vs : List V}, blsOf ds = some bs → RpA K F ds vs → vs = bs.map V.bl
  | [], bs, vs, e, h => by cases e; exact h.nil_inv
  | d :: ds, bs, vs, e, h => by
    cases d with
    | bool b =>
      unfold blsOf at e
      obtain ⟨v, r, rfl, q1, q2⟩ := h.cons_inv
      cases e1 : blsOf ds with
      | none => rw [e1] at e; cases e
      | some bs' =>
        rw [e1] at e
        cases e
        unfold Rp at q1
        rw [q1, blsOf_ok e1 q2]
        rfl
    | _ => cases e
def gAll : PN
  | [.list ds] => (blsOf ds).map fun bs => .dat (.bool (bs.all id))
  | _ => none
def gAny : PN
  | [.list ds] => (blsOf ds).map fun bs => .dat (.bool (bs.any id))
  | _ => none
theorem cd_all (hc : X.calm = true) : CallD X (.builtin "all") gAll := callD_of fun F H ds res xs sm h e => by
  match ds, e, h with
  | [.list ds], e, h =>
    obtain ⟨u, rfl, hh⟩ := rts1 h
    obtain ⟨a, ys, rfl, hH, ra⟩ := rt_lst hh
    have e : (blsOf ds).map (fun bs => Val.dat (.bool (bs.all id))) = some res := e
    cases e1 : blsOf ds with
    | none => rw [e1] at e; cases e
    | some bs =>
      rw [e1] at e
      cases e
      exact ⟨_, cr_all hc, fun Q q => ⟨a, bs, rfl, by rw [← blsOf_ok e1 ra]; exact SqL.of hH, q _ _ fin_bl⟩⟩
theorem cd_any (hc : X.calm = true) : CallD X (.builtin "any") gAny := callD_of fun F H ds res xs sm h e => by
  match ds, e, h with
  | [.list ds], e, h =>
    obtain ⟨u, rfl, hh⟩ := rts1 h
    obtain ⟨a, ys, rfl, hH, ra⟩ := rt_lst hh
    have e : (blsOf ds).map (fun bs => Val.dat (.bool (bs.any id))) = some res := e
    cases e1 : blsOf ds with
    | none => rw [e1] at e; cases e
    | some bs =>
      rw [e1] at e
      cases e
      exact ⟨_, cr_any hc, fun Q q => ⟨a, bs, rfl, by rw [← blsOf_ok e1 ra]; exact SqL.of hH, q _ _ fin_bl⟩⟩

/-! methods of texts -/
def strsOf : List Dat → Option (List Str)
  | [] => some []
  | .str b :: r => (strsOf r).map (b :: ·)
  | _ => none
theorem strsOf_ok {K : PySem.W.Frag} {F : Hp} : ∀ {ds : List Dat} {bs : List Str} {vs : List V}, strsOf ds = some bs → RpA K F ds vs → vs = bs.map V.str
  | [], bs, vs, e, h => by cases e; exact h.nil_inv
  | d :: ds, bs, vs, e, h => by
    cases d with
    | str b =>
      unfold strsOf at e
      obtain ⟨v, r, rfl, q1, q2⟩ := h.cons_inv
      cases e1 : strsOf ds with
      | none => rw [e1] at e; cases e
      | some bs' =>
        rw [e1] at e
        cases e
        unfold Rp at q1
        rw [q1, strsOf_ok e1 q2]
        rfl
    | _ => cases e
def joinOk (x : Str) (ys : List Str) : Bool := decide ((ys.map (·.length)).sum + ys.length * x.length ≤ 16777216)
def gJoin : Dat → PN
  | .str x, [.list ds] => match strsOf ds with
    | some ys => if joinOk x ys = true then some (.dat (.str (Txt.join x ys))) else none
    | none => none
  | _, _ => none
theorem mt_gJoin : MtD X "str.join" "str" gJoin := mtD_of fun F H d ds res x xs sm h0 h e => by
  match d, ds, e, h0, h with
  | .str z, [.list ds], e, h0, h =>
    obtain ⟨u, rfl, hh⟩ := rts1 h
    obtain ⟨a, ys, rfl, hH, ra⟩ := rt_lst hh
    obtain rfl := rt_str h0
    unfold gJoin at e
    cases e1 : strsOf ds with
    | none => simp only [e1] at e; cases e
    | some bs =>
      simp only [e1] at e
      by_cases c : joinOk z bs = true
      · rw [if_pos c] at e
        cases e
        exact ⟨_, mt_join, fun Q q => ⟨z, a, bs, rfl, rfl, .inl (by rw [← strsOf_ok e1 ra]; exact SqL.of hH), by unfold joinOk at c; exact of_decide_eq_true c, q _ _ fin_str⟩⟩
      · rw [if_neg c] at e
        cases e
def gSIndex : Dat → PN
  | .str a, [.str b] => match Builtin.Str.occurrences a b 0 a.length 1 with
    | i :: _ => some (.dat (.int (i : Nat)))
    | [] => none
  | _, _ => none
theorem mt_gSIndex : MtD X "str.index" "str" gSIndex := mtD_of fun F H d ds res x xs sm h0 h e => by
  match d, ds, e, h0, h with
  | .str z, [.str y], e, h0, h =>
    obtain ⟨u, rfl, hh⟩ := rts1 h
    obtain rfl := rt_str hh
    obtain rfl := rt_str h0
    unfold gSIndex at e
    cases e1 : Builtin.Str.occurrences z y 0 z.length 1 with
    | nil => simp only [e1] at e; cases e
    | cons i r =>
      simp only [e1] at e
      cases e
      exact ⟨_, mt_sindex, fun Q q => ⟨z, y, i, r, rfl, rfl, e1, q _ _ fin_int⟩⟩
end
end Dl
end

-- text D13
section
set_option Elab.async false
set_option linter.all false
set_option maxRecDepth 100000
set_option maxHeartbeats 1000000
/-! Dl, part 13: functions: what they promise, how they are called. -/
namespace Dl
open PySem PySem.Spec PyProof.Rows L2

/-! ### room, with no guard on the way -/
structure RoomG (k : Nat) (A : Around) : Prop where
  r : Room k A
  g : A.guards = some []
theorem RoomG.mono {j k : Nat} {A : Around} (r : RoomG k A) (h : j ≤ k) : RoomG j A := ⟨r.r.mono h, r.g⟩
theorem RoomG.deeper {k : Nat} {A : Around} (r : RoomG (k + 1) A) (env : Env) : RoomG k (A.deeper env) := ⟨r.r.deeper env, r.g⟩

theorem RoomG.u64 {k : Nat} {A : Around} (r : RoomG k A) : A.units + 64 < cLine := by have := r.r.un; omega
theorem RoomG.u65 {k : Nat} {A : Around} (r : RoomG k A) : A.units + 65 < cLine := by have := r.r.un; omega

/-- a def's promise -/
structure FnG (P : Program) (w : World) (K : PySem.W.Frag) (mg : Str → Option Value) (base : Heap) (k : Nat) (f : Addr) (fd : FuncData) (ps : List Str) (sp : Sp) : Prop where
  len : ∀ vs H Q E, sp vs H Q E → vs.length = ps.length
  run : ∀ (A : Around) (outer : List Env) (s : Shared) (H : Hp) (args : Args) (us : List Value) (vs : List V) (Q : VK) (E : XK), RoomG k A → Env0 P w K mg base A outer s H → BindsTo s fd args (ps.zip us) → Vals vs us → sp vs H Q E →
    codeAny (model P w) A (.call (.ref f) args) (CR (L2.CX P w) outer P w H s Q E) s
theorem FnG.up {P : Program} {w : World} {K : PySem.W.Frag} {mg : Str → Option Value} {base : Heap} {j k : Nat} {f : Addr} {fd : FuncData} {ps : List Str} {sp : Sp} (F : FnG P w K mg base j f fd ps sp) (h : j ≤ k) : FnG P w K mg base k f fd ps sp :=
  ⟨F.len, fun A outer s H args us vs Q E r => F.run A outer s H args us vs Q E (r.mono h)⟩

/-- the frame of a def's body -/
abbrev bodyX (P : Program) (w : World) (K : PySem.W.Frag) (mg : Str → Option Value) (base : Heap) (N : List Str) (qual : Str) (scope : Scope) (f : Addr) (cd : Value) (A : Around) (outer : List Env) (s : Shared) (H : Hp) (E : XK) : Cx :=
  cxOf (L2.CX P w) P w K mg base N qual scope f cd A outer s H E

section
variable {P : Program} {w : World} {K : PySem.W.Frag} {mg : Str → Option Value} {base : Heap} {k : Nat} {f : Addr} {fd : FuncData} {x qual : Str} {params : Arguments} {body : List Stmt} {scope : Scope} {dvs : List V} {kws : List (Str × V)} {N ps : List Str} {sp : Sp}
/-- a body that does what is told makes the def keep its promise -/
theorem fng_of (F : FunD K x qual params body scope dvs kws f fd) (S : FnScope N ps scope) (len : ∀ vs H Q E, sp vs H Q E → vs.length = ps.length)
    (hb : ∀ (cd : Value) (A : Around) (outer : List Env) (s : Shared) (H : Hp) (vs : List V) (Q : VK) (E : XK), RoomG k (A.deeper (envOfC qual scope s.heap.objs.size f cd)) → sp vs H Q E →
      ∃ t, PSs (bodyX P w K mg base N qual scope f cd A outer s H E) body t ∧ t ⟨fun _ H' => Q .non H', Q, fun _ _ => False, fun _ _ => False⟩ (start N vs) H) : FnG P w K mg base (k + 1) f fd ps sp := by
  obtain ⟨oc, od, dV, kV, doc, pm, an, cd, ct, osl, rfl, lk, code, _, _⟩ := F.ex
  constructor
  · exact len
  intro A outer s H args us vs Q E room e0 bnd rv q
  have here : K.In s.heap := e0.mod.kin.keeps fun a o z => (e0.bs a o z).1
  have free : s.heap.NoLimit := e0.mod.nolimit.keeps fun a o z => (e0.bs a o z).1
  have kinds : ∀ y ∈ ps.zip us, scope.names.lookup y.1 = some .local ∨ (scope.names.lookup y.1 = some .cell ∧ ((cellsFrom (s.heap.objs.size + 1) scope.names []).lookup y.1).isSome = true) := by
    rintro ⟨n, u⟩ hy
    have hn : n ∈ ps := (List.of_mem_zip hy).1
    rcases S.par n hn with z | z
    · left; exact z
    · right; exact ⟨z, PySem.W.cellsFrom_some _ _ _ (Or.inl z)⟩
  obtain ⟨t, pt, qt⟩ := hb cd A outer s H vs Q E (room.deeper _) q
  refine codeAny_call_function room.r.depth (here _ _ lk) rfl S.co S.gen rfl (PySem.W.codeRec_of here code) (bnd _ _ _ _ (wpAny_newFunctionEnv_cells S.kind kinds ?_))
  rintro _ rfl s1 ent
  refine ⟨free.keeps ent.toInCall.keep, codeAny_func ?_⟩
  have J0 := inv_start (CX := L2.CX P w) (mg := mg) (E := E) S room.r.hd e0 (len _ _ _ _ q) rv ent
  have ret : ∀ {s' : Shared} {σ' : L2.St} {H' : Hp} {v : V} {u : Value}, Inv (bodyX P w K mg base N qual scope f cd A outer s H E) [] σ' H' s' → RelV v u → Q v H' → CE outer P w H s Q u s' := by
    intro s' σ' H' v u J r z
    exact ⟨v, H', J.os, J.bare, J.base, J.hok, r, z⟩
  refine wpAny_mono (pt.run [] s1 _ H _ J0 qt) ?_ (fun _ _ z => z)
  intro fl s' z
  match fl, z with
  | .next, ⟨_, _, J, z⟩ => exact ret (v := .non) (u := .none) J rfl z
  | .ret _, ⟨_, _, _, J, r, z⟩ => exact ret J r z
  | .brk, ⟨_, _, _, z⟩ => exact z.elim
  | .cont, ⟨_, _, _, z⟩ => exact z.elim
/-- a call of such a def from within a body -/
theorem run_fng {X : Cx} {W : WX} {pins : List (Addr × Obj)} {σ : L2.St} {H : Hp} {s : Shared} {Q : VK} {us ds : List Value} {vs dvs : List V} (F : FnG X.prog X.w X.K X.mg X.base k f fd ps sp) (room : RoomG k X.A) (tk : Takes X W) (bnd : Binds X.K fd ps ds) (rd : Vals dvs ds)
    (I : Inv X pins σ H s) (r : Vals vs us) (q : sp (vs ++ dvs) H Q fun cls d H' => W cls d σ H') : wpAny (model X.prog X.w) X.A (call (.ref f) us) (EP X pins σ Q) X.xe s := by
  have rr := r.append rd
  have hl : (us ++ ds).length = ps.length := rr.length.symm.trans (F.len _ _ _ _ q)
  have go := F.run X.A X.stack s H ⟨us, []⟩ (us ++ ds) (vs ++ dvs) Q _ room I.env0 (bnd s us I.kIn hl) rr q
  refine wpAny_call (codeAny_mono go ?_)
  intro res s' z
  match res, z with
  | .error e, z => exact tk e s' (XE.of_call (W := W) I (fun _ _ _ y => y) z)
  | .ok (.ret _), z => exact I.after z
  | .ok .next, z => exact z.elim
  | .ok .brk, z => exact z.elim
  | .ok .cont, z => exact z.elim
/-- f(e, ..), as an expression -/
theorem pe_callG {X : Cx} {W : WX} {y : Str} {p pos : Pos} {e : Expr} {es : List Expr} {t : TA} {ds : List Value} {dvs : List V} (F : FnG X.prog X.w X.K X.mg X.base k f fd ps sp) (room : RoomG k X.A) (tk : Takes X W) (gl : Gl X y) (at_ : X.mg y = some (.ref f)) (kp : PySem.W.keepIn X.K (.ref f) = true)
    (bnd : Binds X.K fd ps ds) (rd : Vals dvs ds) (ha : PA X (e :: es) t) (hdb : (y == ("__debug__" : Str)) = false := by decide) (he : starEach (e :: es) X.env = (false, eval e X.env) :: starEach es X.env := by rfl) (hpl : (backTo pos (starEach es X.env)).any (·.1) = false := by rfl) :
    PE X (.Call (.Name y p) (e :: es) [] pos) (fun σ H Q => t σ H fun vs H1 => sp (vs ++ dvs) H1 Q fun cls d H' => W cls d σ H') := by
  constructor
  intro pins s σ H Q I q
  refine wpAny_Call_Name_kw (ld_glob I gl at_ (PySem.W.callWith_K (h₀ := X.base) I.ok.mod.kin kp (thn (ha.run pos pins s σ H _ I q) ?_) he hpl) hdb)
  rintro us s1 ⟨vs, H1, I1, r, z⟩
  exact ⟨I1.kIn, run_fng F room tk bnd rd I1 r z⟩
theorem pe_callG0 {X : Cx} {W : WX} {y : Str} {p pos : Pos} {ds : List Value} {dvs : List V} (F : FnG X.prog X.w X.K X.mg X.base k f fd ps sp) (room : RoomG k X.A) (tk : Takes X W) (gl : Gl X y) (at_ : X.mg y = some (.ref f)) (kp : PySem.W.keepIn X.K (.ref f) = true)
    (bnd : Binds X.K fd ps ds) (rd : Vals dvs ds) (hdb : (y == ("__debug__" : Str)) = false := by decide) :
    PE X (.Call (.Name y p) [] [] pos) (fun σ H Q => sp dvs H Q fun cls d H' => W cls d σ H') := by
  constructor
  intro pins s σ H Q I q
  exact wpAny_Call_Name_kw (ld_glob I gl at_ (PySem.W.callWith_K0 I.kIn kp (run_fng (us := []) (vs := []) F room tk bnd rd I .nil q)) hdb)
end
end Dl
end

-- text D14
section
set_option Elab.async false
set_option linter.all false
set_option maxRecDepth 100000
set_option maxHeartbeats 1000000
/-! Dl, part 14: functions by what they mean. -/
namespace Dl
open PySem PySem.Spec PyProof.Rows L2

/-- how a call ends -/
def WpC (K : PySem.W.Frag) (mg : Str → Option Value) (B : Bs) (F : Hp) (r : R Val) (Q : VK) (E : XK) : Prop :=
  match r with
  | .ok v ρ' => ∀ σ' F' H' u, St K B ρ' σ' F' H' → Same F F' → VR K B ρ' σ' F' H' u v → (∀ i, v ≠ .bor i) → Q u H'
  | .ex x ρ' => ∀ σ' F' H' cls d, St K B ρ' σ' F' H' → Same F F' → XR K mg F' H' x cls d → E cls d H'
  | .no => False
/-- a def that means m on its parameters' slots -/
def spD (K : PySem.W.Frag) (mg : Str → Option Value) (n : Nat) (m : M Val) : Sp := fun vs H Q E =>
  ∃ (args : En) (B : Bs) (F : Hp), vs.length = n ∧ B.H0 = H ∧ B.F0 = F ∧ St K B args (vs.map some) F H ∧ WpC K mg B F (m args) Q E
structure DF (P : Program) (w : World) (K : PySem.W.Frag) (mg : Str → Option Value) (base : Heap) (k : Nat) (f : Addr) (fd : FuncData) (ps : List Str) (m : M Val) : Prop where
  g : FnG P w K mg base k f fd ps (spD K mg ps.length m)

/-! ### bodies -/
def endF : R Fl → R Val
  | .ok .nx ρ => .ok (.dat .none) ρ
  | .ok (.rt (.bor i)) ρ => (match gt ρ i with
    | .cel false c => .ok (.cel c) (pt ρ i .un)
    | .dat d => .ok (.dat d) ρ
    | _ => .no)
  | .ok (.rt v) ρ => .ok v ρ
  | .ex x ρ => .ex x ρ
  | _ => .no
def runF (loc : Nat) (s : MS) : M Val := fun args => endF (s (args ++ List.replicate loc .un))

section
variable {K : PySem.W.Frag} {mg : Str → Option Value} {B : Bs} {ρ ρ' : En} {σ : L2.St} {F F' H H' : Hp} {Q : VK} {E : XK} {u : V} {i : Nat}
theorem gt_app : ∀ (ρ τ : En) (i : Nat), gt (ρ ++ τ) i = if i < ρ.length then gt ρ i else gt τ (i - ρ.length)
  | [], τ, i => by simp
  | s :: r, τ, 0 => by simp [gt]
  | s :: r, τ, i + 1 => by
    have := gt_app r τ i
    simp [gt, this]
theorem gt_rep : ∀ (n i : Nat), gt (List.replicate n Slot.un) i = .un
  | 0, _ => rfl
  | n + 1, 0 => rfl
  | n + 1, i + 1 => gt_rep n i
/-- further slots that hold nothing yet -/
theorem St.wide (S : St K B ρ σ F H) (n : Nat) : St K B (ρ ++ List.replicate n .un) (σ ++ List.replicate n none) F H := by
  have g : ∀ j, gt (ρ ++ List.replicate n .un) j ≠ .un → gt (ρ ++ List.replicate n .un) j = gt ρ j ∧ (σ ++ List.replicate n none)[j]? = σ[j]? := fun j h => by
    rw [gt_app] at h ⊢
    by_cases hj : j < ρ.length
    · rw [if_pos hj]
      exact ⟨rfl, List.getElem?_append_left (by rw [← S.len]; exact hj)⟩
    · rw [if_neg hj, gt_rep] at h
      exact absurd rfl h
  refine ⟨by simp [S.len], S.sub, fun j => ?_, fun a b ba bb ca cb p ha hb ea eb => ?_, S.base, S.fnew, S.keep, fun a b c p ha ea => ?_, fun a ha p ep => ?_⟩
  · by_cases hu : gt (ρ ++ List.replicate n .un) j = .un
    · rw [hu]; trivial
    · obtain ⟨h1, h2⟩ := g j hu
      rw [h1]
      have sl := S.slot j
      cases hg : gt ρ j with
      | un => trivial
      | dat d => rw [hg] at sl; obtain ⟨w, e, q⟩ := sl; exact ⟨w, by rw [h2]; exact e, q⟩
      | scr d => rw [hg] at sl; obtain ⟨w, e, q⟩ := sl; exact ⟨w, by rw [h2]; exact e, q⟩
      | cel bk d => rw [hg] at sl; obtain ⟨w, e, q⟩ := sl; exact ⟨w, by rw [h2]; exact e, q⟩
  · obtain ⟨h1, h2⟩ := g a (by rw [ha]; exact fun z => nomatch z)
    obtain ⟨h3, h4⟩ := g b (by rw [hb]; exact fun z => nomatch z)
    exact S.dist a b ba bb ca cb p (by rw [← h1]; exact ha) (by rw [← h3]; exact hb) (by rw [← h2]; exact ea) (by rw [← h4]; exact eb)
  · obtain ⟨h1, h2⟩ := g a (by rw [ha]; exact fun z => nomatch z)
    exact S.cnew a b c p (by rw [← h1]; exact ha) (by rw [← h2]; exact ea)
  · obtain ⟨e1, c, e2⟩ := S.refs a ha p ep
    have hl : a < ρ.length := gt_in e2 (fun z => nomatch z)
    refine ⟨?_, c, ?_⟩
    · rw [List.getElem?_append_left (by rw [← S.len]; exact hl)]
      exact e1
    · rw [gt_app, if_pos hl]
      exact e2
/-- a slot is forgotten -/
theorem St.drop (S : St K B ρ σ F H) (hL : ∀ c, gt ρ i ≠ .cel true c) : St K B (pt ρ i .un) σ F H := by
  have g : ∀ j, gt (pt ρ i .un) j ≠ .un → gt (pt ρ i .un) j = gt ρ j := fun j h => by
    by_cases e : j = i
    · by_cases hi : i < ρ.length
      · rw [e, gt_pt_eq _ _ _ hi] at h; exact absurd rfl h
      · rw [e, gt_out _ _ (by rw [pt_len]; exact Nat.le_of_not_lt hi)] at h; exact absurd rfl h
    · exact gt_pt_ne _ _ _ _ e
  refine ⟨by rw [pt_len]; exact S.len, S.sub, fun j => ?_, fun a b ba bb ca cb p ha hb ea eb => ?_, S.base, S.fnew, S.keep, fun a b c p ha ea => ?_, fun a ha p ep => ?_⟩
  · by_cases hu : gt (pt ρ i .un) j = .un
    · rw [hu]; trivial
    · rw [g j hu]; exact S.slot j
  · exact S.dist a b ba bb ca cb p (by rw [← g a (by rw [ha]; exact fun z => nomatch z)]; exact ha) (by rw [← g b (by rw [hb]; exact fun z => nomatch z)]; exact hb) ea eb
  · exact S.cnew a b c p (by rw [← g a (by rw [ha]; exact fun z => nomatch z)]; exact ha) ea
  · obtain ⟨e1, c, e2⟩ := S.refs a ha p ep
    have ne : a ≠ i := fun z => hL c (by rw [← z]; exact e2)
    exact ⟨e1, c, by rw [gt_pt_ne _ _ _ _ ne]; exact e2⟩
theorem endF_ok {r : R Fl} (h : WpC K mg B F (endF r) Q E) : WpS K mg (fun cls d _ H' => E cls d H') B F r ⟨fun _ H' => Q .non H', Q, fun _ _ => False, fun _ _ => False⟩ := by
  cases r with
  | no => exact h
  | ex x ρ1 => exact fun σ' F' H' cls d S sm xr => h σ' F' H' cls d S sm xr
  | ok fl ρ1 =>
    cases fl with
    | nx => exact fun σ' F' H' S sm => h σ' F' H' .non S sm (rp_none (K := K) (F := F')) fun i z => nomatch z
    | bk => exact False.elim h
    | ct => exact False.elim h
    | rt v =>
      cases v with
      | dat d => exact fun σ' F' H' u S sm vr => h σ' F' H' u S sm vr fun i z => nomatch z
      | cel c => exact fun σ' F' H' u S sm vr => h σ' F' H' u S sm vr fun i z => nomatch z
      | bor i =>
        have h : WpC K mg B F (match gt ρ1 i with
          | .cel false c => R.ok (Val.cel c) (pt ρ1 i .un)
          | .dat d => .ok (.dat d) ρ1
          | _ => .no) Q E := h
        intro σ' F' H' u S sm vr
        have eu : σ'[i]? = some (some u) := vr
        have sl := S.slot i
        cases hg : gt ρ1 i with
        | un => rw [hg] at h; exact h.elim
        | scr _ => rw [hg] at h; exact h.elim
        | dat d =>
          rw [hg] at h sl
          obtain ⟨w, e, q⟩ := sl
          rw [eu] at e
          cases e
          exact h σ' F' H' u S sm q fun i z => nomatch z
        | cel bk c =>
          rw [hg] at h sl
          cases bk with
          | true => exact h.elim
          | false =>
            obtain ⟨p, e, f, ca⟩ := sl
            rw [eu] at e
            cases e
            have nt : ∀ c, gt ρ1 i ≠ .cel true c := fun c z => by rw [hg] at z; cases z
            have nl : ∀ j ∈ B.L, B.rf j ≠ some p := fun j hj z => by
              obtain ⟨e1, c1, e2⟩ := S.refs j hj p z
              have := S.dist i j false true c c1 p hg e2 eu e1
              rw [this, e2] at hg
              cases hg
            refine h σ' F' H' _ (S.drop nt) sm ⟨p, rfl, f, ?_, ca, fun j b c' hj ej => ?_, nl⟩ fun i z => nomatch z
            · rcases S.cnew i false c p hg eu with q | ⟨j, hj, q⟩
              · exact q
              · exact absurd q (nl j hj)
            · by_cases e : j = i
              · have hi : i < ρ1.length := gt_in hg (fun z => nomatch z)
                rw [e, gt_pt_eq _ _ _ hi] at hj
                cases hj
              · rw [gt_pt_ne _ _ _ _ e] at hj
                exact e (S.dist j i b false c' c p hj hg ej eu)
end
/-- a def's body, read -/
theorem DF.of {P : Program} {w : World} {K : PySem.W.Frag} {mg : Str → Option Value} {base : Heap} {k : Nat} {f : Addr} {fd : FuncData} {x qual : Str} {params : Arguments} {body : List Stmt} {scope : Scope} {dvs : List V} {kws : List (Str × V)} {N ps : List Str} {s : MS}
    (F : FunD K x qual params body scope dvs kws f fd) (S : FnScope N ps scope)
    (hb : ∀ (cd : Value) (A : Around) (outer : List Env) (st : Shared) (H : Hp) (E : XK), RoomG k (A.deeper (envOfC qual scope st.heap.objs.size f cd)) →
      Takes (bodyX P w K mg base N qual scope f cd A outer st H E) (fun cls d _ H' => E cls d H') →
      PassesOwn (model P w) (bodyX P w K mg base N qual scope f cd A outer st H E).A (bodyX P w K mg base N qual scope f cd A outer st H E).env (bodyX P w K mg base N qual scope f cd A outer st H E).xe →
      SsD (bodyX P w K mg base N qual scope f cd A outer st H E) (fun cls d _ H' => E cls d H') body s) : DF P w K mg base (k + 1) f fd ps (runF (N.length - ps.length) s) := by
  refine ⟨fng_of F S (fun vs H Q E h => ?_) fun cd A outer st H vs Q E room h => ⟨_, hb cd A outer st H E room (takes_of rfl rfl rfl rfl) (passes_of rfl), ?_⟩⟩
  · obtain ⟨args, B, F, hv, _⟩ := h
    exact hv
  · obtain ⟨args, B, F, hv, _, _, St0, h⟩ := h
    refine ⟨B, args ++ List.replicate (N.length - ps.length) .un, F, ?_, endF_ok (r := s (args ++ List.replicate (N.length - ps.length) .un)) h⟩
    have e : L2.start N vs = vs.map some ++ List.replicate (N.length - ps.length) none := by unfold L2.start; rw [hv]
    rw [e]
    exact St0.wide _
end Dl
end

-- text D15
section
set_option Elab.async false
set_option linter.all false
set_option maxRecDepth 100000
set_option maxHeartbeats 1000000
/-! Dl, part 15: calls. -/
namespace Dl
open PySem PySem.Spec PyProof.Rows L2

def flat : Dat → Bool
  | .none => true
  | .bool _ => true
  | .int _ => true
  | .str _ => true
  | _ => false
theorem flat_rp {K : PySem.W.Frag} {F F' : Hp} {d : Dat} {v : V} (h : flat d = true) (r : Rp K F d v) : Rp K F' d v := by
  cases d <;> first | (cases h; done) | (unfold Rp at r ⊢; exact r)

section
variable {K : PySem.W.Frag} {mg : Str → Option Value} {W : WX} {B Bc : Bs} {ρ ρ1 ρc : En} {σ σc : L2.St} {F F' H H' : Hp} {Q : VK} {E : XK} {u : V} {i : Nat}
/-- where a slot's object lies, something lies -/
theorem St.cel_there {b : Bool} {c : Cel} {p : Addr} (S : St K B ρ σ F H) (hg : gt ρ i = .cel b c) (e : σ[i]? = some (some (.ref p))) : H p ≠ none ∧ F p = none := by
  have sl := S.slot i
  rw [hg] at sl
  obtain ⟨q, e2, f, ca⟩ := sl
  rw [e] at e2
  cases e2
  obtain ⟨o, ho⟩ := ca.there
  exact ⟨by rw [ho]; exact fun z => (nomatch z), f⟩
theorem St.rf_there {p : Addr} (S : St K B ρ σ F H) (hi : i ∈ B.L) (e : B.rf i = some p) : H p ≠ none := by
  obtain ⟨e1, c, e2⟩ := S.refs i hi p e
  exact (S.cel_there e2 e1).1
/-- the heap grows; what is settled stays as it was -/
theorem St.on (S : St K B ρ σ F H) (k : ∀ a o, H a = some o → H' a = some o) : St K B ρ σ F H' := by
  refine ⟨S.len, fun b x e => k _ _ (S.sub _ _ e), fun i => ?_, S.dist, S.base, S.fnew, fun a x e h => k _ _ (S.keep a x e h), S.cnew, S.refs⟩
  have sl := S.slot i
  cases hg : gt ρ i with
  | un => trivial
  | dat d => rw [hg] at sl; exact sl
  | scr ns => rw [hg] at sl; exact sl
  | cel bk c =>
    rw [hg] at sl
    obtain ⟨q, e, f, z⟩ := sl
    obtain ⟨o, ho⟩ := z.there
    exact ⟨q, e, f, z.mono (Same.refl _) (by rw [k _ _ ho, ho])⟩
/-- behind a call -/
theorem St.after {rf : Nat → Option Addr} (S : St K B ρ σ F H) (C : St K ⟨H, F, [], rf⟩ ρc σc F' H') : St K B ρ σ F' H' := by
  have k : ∀ a o, H a = some o → H' a = some o := fun a o e => C.keep a o e fun j hj => by cases hj
  have fn : ∀ a, F a = none → F' a ≠ none → H a = none := fun a e n => (C.fnew a e n).resolve_right fun ⟨j, hj, _⟩ => by cases hj
  have sm : Same F F' := C.base
  refine ⟨S.len, C.sub, fun i => ?_, S.dist, fun b x e => sm _ _ (S.base _ _ e), fun a e n => ?_, fun a x e h => k _ _ (S.keep a x e h), S.cnew, S.refs⟩
  · have sl := S.slot i
    cases hg : gt ρ i with
    | un => trivial
    | dat d => rw [hg] at sl; obtain ⟨w, e, q⟩ := sl; exact ⟨w, e, q.mono sm⟩
    | scr ns => rw [hg] at sl; obtain ⟨w, e, q⟩ := sl; exact ⟨w, e, sm.seq q⟩
    | cel bk c =>
      rw [hg] at sl
      obtain ⟨q, e, f, z⟩ := sl
      obtain ⟨o, ho⟩ := z.there
      refine ⟨q, e, ?_, z.mono sm (by rw [k _ _ ho, ho])⟩
      cases h : F' q with
      | none => rfl
      | some x =>
        have := fn q f (by rw [h]; exact fun z => (nomatch z))
        rw [ho] at this
        cases this
  · by_cases h : F a = none
    · have hn := fn a h n
      cases q : B.H0 a with
      | none => exact .inl rfl
      | some o =>
        refine Classical.byContradiction fun z => ?_
        have := S.keep a o q fun j hj ej => z (.inr ⟨j, hj, ej⟩)
        rw [hn] at this
        cases this
    · exact S.fnew a e h
theorem VR.out {v : Val} (S : St K B ρ σ F H) (S' : St K B ρ σ F' H') (hB : Bc.H0 = H) (nb : ∀ i, v ≠ .bor i) (vr : VR K Bc ρc σc F' H' u v) : VR K B ρ σ F' H' u v := by
  cases v with
  | dat d => exact vr
  | bor i => exact absurd rfl (nb i)
  | cel c =>
    obtain ⟨p, rfl, f, h0, ca, _, _⟩ := vr
    rw [hB] at h0
    refine ⟨p, rfl, f, ?_, ca, fun i b c' hi e => (S.cel_there hi e).1 h0, fun i hi e => S.rf_there hi e h0⟩
    cases q : B.H0 p with
    | none => rfl
    | some o =>
      have := S.keep p o q fun j hj ej => S.rf_there hj ej h0
      rw [h0] at this
      cases this

/-- data as arguments -/
theorem gt_dats : ∀ (ds : List Dat) (i : Nat), gt (ds.map Slot.dat) i = match ds[i]? with
    | some d => .dat d
    | none => .un
  | [], _ => by simp [gt]
  | d :: ds, 0 => by simp [gt]
  | d :: ds, i + 1 => by simp [gt, gt_dats ds i]
theorem St.dats {ds : List Dat} {vs : List V} {rf : Nat → Option Addr} (sm : Same F H) (r : RpA K F ds vs) : St K ⟨H, F, [], rf⟩ (ds.map .dat) (vs.map some) F H := by
  have nc : ∀ {i b c}, gt (ds.map Slot.dat) i = .cel b c → False := fun {i b c} e => by
    rw [gt_dats] at e
    cases h : ds[i]? <;> rw [h] at e <;> cases e
  refine ⟨by simp [r.len], sm, fun i => ?_, fun i j bi bj ci cj p hi => (nc hi).elim, Same.refl F, fun a e n => absurd e n, fun a o e _ => e, fun i b c p hi => (nc hi).elim, fun i hi => by cases hi⟩
  rw [gt_dats]
  cases h : ds[i]? with
  | none => trivial
  | some d =>
    obtain ⟨v, hv, q⟩ := r.at h
    exact ⟨v, by rw [List.getElem?_map, hv]; rfl, q⟩
theorem rts_rpa (sm : Same F H) : ∀ {ds : List Dat} {us : List V}, RTs K F H ds us → RpA K H ds us
  | [], _, h => by rw [show _ = [] from h]; exact .nil
  | d :: ds, _, ⟨u, r, e, q, h⟩ => by rw [e]; exact .cons (q.rp sm) (rts_rpa sm h)
end

/-! what is read is what is settled -/
theorem settle_rd {v : Val} {ρ ρ1 : En} {d d' : Dat} (hr : rd ρ v = some d) (hs : settle v ρ = .ok d' ρ1) (nc : ∀ c, v ≠ .cel c) : d' = d ∧ ∀ w, rd ρ1 w = rd ρ w := by
  cases v with
  | dat x =>
    have h1 : x = d := Option.some.inj hr
    have h2 : R.ok x ρ = .ok d' ρ1 := hs
    injection h2 with h3 h4
    exact ⟨h3.symm.trans h1, fun w => by rw [h4]⟩
  | cel c => exact absurd rfl (nc c)
  | bor i =>
    have hr : rdS (gt ρ i) = some d := hr
    have hs : settleS i ρ = .ok d' ρ1 := hs
    unfold settleS at hs
    cases hg : gt ρ i with
    | un => rw [hg] at hs; cases hs
    | scr _ => rw [hg] at hs; cases hs
    | dat x =>
      rw [hg] at hs hr
      have hr : some x = some d := hr
      have hs : R.ok x ρ = .ok d' ρ1 := hs
      cases hr
      cases hs
      exact ⟨rfl, fun _ => rfl⟩
    | cel b c =>
      rw [hg] at hs hr
      cases b with
      | true => cases hs
      | false =>
        cases c with
        | dcK _ => cases hs
        | dcT _ => cases hs
        | lst ds =>
          cases hr
          cases hs
          refine ⟨rfl, fun w => ?_⟩
          cases w with
          | dat _ => rfl
          | cel c => cases c <;> rfl
          | bor j =>
            show rdS (gt (pt ρ i (.dat (.list ds))) j) = rdS (gt ρ j)
            by_cases e : j = i
            · rw [e, gt_pt_eq _ _ _ (gt_in hg (fun z => nomatch z)), hg]
              rfl
            · rw [gt_pt_ne _ _ _ _ e]
theorem rdAll_congr {ρ ρ1 : En} (h : ∀ w, rd ρ1 w = rd ρ w) : ∀ vs, rdAll ρ1 vs = rdAll ρ vs
  | [] => rfl
  | v :: vs => by unfold rdAll; rw [h v, rdAll_congr h vs]
theorem settleAll_rd : ∀ {vs : List Val} {ρ ρ1 : En} {ds ds' : List Dat}, rdAll ρ vs = some ds → settleAll vs ρ = .ok ds' ρ1 → (∀ v ∈ vs, ∀ c, v ≠ .cel c) → ds' = ds
  | [], _, _, _, _, hr, hs, _ => by cases hr; cases hs; rfl
  | v :: vs, ρ, ρ1, ds, ds', hr, hs, nc => by
    unfold rdAll at hr
    cases h1 : rd ρ v with
    | none => simp only [h1] at hr; cases hr
    | some d =>
      cases h2 : rdAll ρ vs with
      | none => simp only [h1, h2] at hr; cases hr
      | some dr =>
        simp only [h1, h2] at hr
        cases hr
        obtain ⟨d1, ρ2, e1, hs⟩ := bnd_ok (show (settle v ρ).bnd _ = _ from hs)
        obtain ⟨dr1, ρ3, e2, hs⟩ := bnd_ok (show (settleAll vs ρ2).bnd _ = _ from hs)
        cases hs
        obtain ⟨rfl, hc⟩ := settle_rd h1 e1 (nc v List.mem_cons_self)
        rw [settleAll_rd (by rw [rdAll_congr hc]; exact h2) e2 fun w hw => nc w (List.mem_cons_of_mem _ hw)]
theorem VSs_nocel {K : PySem.W.Frag} {F : Hp} {σ : L2.St} : ∀ {us : List V} {vs : List Val}, VSs K F σ us vs → ∀ v ∈ vs, ∀ c, v ≠ .cel c
  | [], [], _, v, hv => by cases hv
  | u :: us, w :: vs, h, v, hv => by
    rcases List.mem_cons.mp hv with e | hv
    · intro c z
      rw [e] at z
      rw [z] at h
      exact h.1
    · exact VSs_nocel h.2 v hv
  | [], _ :: _, h, _, _ => h.elim
  | _ :: _, [], h, _, _ => h.elim

/-! ### f(e, ..), nothing lent -/
def callEnd (vs : List Val) : R Val → M Val
  | .ok (.dat d) _, ρ => if flat d = true then .ok (.dat d) ρ else (settleAll vs ρ).bnd fun _ ρ => .ok (.dat d) ρ
  | .ok (.cel c) _, ρ => (settleAll vs ρ).bnd fun _ ρ => .ok (.cel c) ρ
  | .ok (.bor _) _, _ => .no
  | .ex x _, ρ => if flat x.place = true then .ex x ρ else (settleAll vs ρ).bnd fun _ ρ => .ex x ρ
  | .no, _ => .no
def eCall (f : M Val) (dds : List Dat) (ms : List (M Val)) : M Val := fun ρ => (eArgs ms ρ).bnd fun vs ρ =>
  match rdAll ρ vs with
  | some ds => callEnd vs (f ((ds ++ dds).map .dat)) ρ
  | none => .no
section
variable {X : Cx} {W : WX} {k : Nat} {f : Addr} {fd : FuncData} {ps : List Str} {m : M Val}
/-- from the arguments to the promise -/
theorem call_in {B : Bs} {ρ : En} {σ : L2.St} {F H : Hp} {Q : VK} {vs : List Val} {us dvs : List V} {dds ds : List Dat} {r : R Val} (S : St X.K B ρ σ F H) (hu : VSs X.K F σ us vs) (hr : rdAll ρ vs = some ds) (hd : ∀ F : Hp, RpA X.K F dds dvs) (hn : us.length + dvs.length = ps.length)
    (em : m ((ds ++ dds).map .dat) = r) (h : Wp X.K X.mg W B σ (callEnd vs r ρ) F Q) : spD X.K X.mg ps.length m (us ++ dvs) H Q fun cls d H' => W cls d σ H' := by
  have hl : (us ++ dvs).length = ps.length := by rw [List.length_append]; exact hn
  have rH : RpA X.K H (ds ++ dds) (us ++ dvs) := (rts_rpa S.sub (rdAll_ok S hu hr)).app (hd H)
  -- nothing settled
  have easy : (∀ ρc σc F' H' u, St X.K ⟨H, H, [], fun _ => none⟩ ρc σc F' H' → ∀ v, r = .ok v ρc → VR X.K ⟨H, H, [], fun _ => none⟩ ρc σc F' H' u v → (∀ i, v ≠ .bor i) → Q u H') →
      (∀ ρc σc F' H' cls d x, St X.K ⟨H, H, [], fun _ => none⟩ ρc σc F' H' → r = .ex x ρc → XR X.K X.mg F' H' x cls d → W cls d σ H') → r ≠ .no → spD X.K X.mg ps.length m (us ++ dvs) H Q fun cls d H' => W cls d σ H' := fun q1 q2 q3 => by
    refine ⟨_, ⟨H, H, [], fun _ => none⟩, H, hl, rfl, rfl, St.dats (Same.refl H) rH, ?_⟩
    rw [em]
    cases r with
    | no => exact absurd rfl q3
    | ex x ρc => exact fun σ' F' H' cls d S' sm xr => q2 ρc σ' F' H' cls d x S' rfl xr
    | ok v ρc => exact fun σ' F' H' u S' sm vr nb => q1 ρc σ' F' H' u S' v rfl vr nb
  -- all settled
  have hard : ∀ {ds' : List Dat} {ρ2 : En}, settleAll vs ρ = .ok ds' ρ2 → (∀ ρc σc F2 F' H' u, St X.K B ρ2 σ F2 H → Same F F2 → St X.K ⟨H, F2, [], fun _ => none⟩ ρc σc F' H' → ∀ v, r = .ok v ρc → VR X.K ⟨H, F2, [], fun _ => none⟩ ρc σc F' H' u v → (∀ i, v ≠ .bor i) → Q u H') →
      (∀ ρc σc F2 F' H' cls d x, St X.K B ρ2 σ F2 H → Same F F2 → St X.K ⟨H, F2, [], fun _ => none⟩ ρc σc F' H' → r = .ex x ρc → XR X.K X.mg F' H' x cls d → W cls d σ H') → r ≠ .no → spD X.K X.mg ps.length m (us ++ dvs) H Q fun cls d H' => W cls d σ H' := fun {ds' ρ2} es q1 q2 q3 => by
    obtain ⟨F2, S2, sm2, ra⟩ := settleAll_ok S hu es
    have := settleAll_rd hr es (VSs_nocel hu)
    subst this
    refine ⟨_, ⟨H, F2, [], fun _ => none⟩, F2, hl, rfl, rfl, St.dats S2.sub (ra.app (hd F2)), ?_⟩
    rw [em]
    cases r with
    | no => exact absurd rfl q3
    | ex x ρc => exact fun σ' F' H' cls d S' sm xr => q2 ρc σ' F2 F' H' cls d x S2 sm2 S' rfl xr
    | ok v ρc => exact fun σ' F' H' u S' sm vr nb => q1 ρc σ' F2 F' H' u S2 sm2 S' v rfl vr nb
  have kp : ∀ {F2 F' H' : Hp} {ρc : En} {σc : L2.St}, St X.K ⟨H, F2, [], fun _ => none⟩ ρc σc F' H' → ∀ a o, H a = some o → H' a = some o := fun C a o e => C.keep a o e fun j hj => by cases hj
  cases r with
  | no => exact h.elim
  | ex x ρc =>
    by_cases c : flat x.place = true
    · have h : Wp X.K X.mg W B σ (if flat x.place = true then .ex x ρ else (settleAll vs ρ).bnd fun _ ρ => .ex x ρ) F Q := h
      rw [if_pos c] at h
      refine easy (fun _ _ _ _ _ _ v z => nomatch z) (fun ρc σc F' H' cls d x' C z xr => ?_) (fun z => nomatch z)
      cases z
      obtain ⟨Ca, dd, v, e1, e2, e3, e4, e5⟩ := xr
      exact h F H' cls d (S.on (kp C)) (Same.refl F) ⟨Ca, dd, v, e1, e2, e3, e4, flat_rp c e5⟩
    · have h : Wp X.K X.mg W B σ (if flat x.place = true then .ex x ρ else (settleAll vs ρ).bnd fun _ ρ => .ex x ρ) F Q := h
      rw [if_neg c] at h
      cases es : settleAll vs ρ with
      | no => rw [es] at h; exact h.elim
      | ex _ _ => exact (settleAll_noex es).elim
      | ok ds' ρ2 =>
        rw [es] at h
        refine hard es (fun _ _ _ _ _ _ _ _ _ v z => nomatch z) (fun ρc σc F2 F' H' cls d x' S2 sm2 C z xr => ?_) (fun z => nomatch z)
        cases z
        exact h F' H' cls d (S2.after C) (sm2.trans C.base) xr
  | ok v ρc =>
    cases v with
    | bor _ => exact h.elim
    | cel c =>
      have h : Wp X.K X.mg W B σ ((settleAll vs ρ).bnd fun _ ρ => .ok (.cel c) ρ) F Q := h
      cases es : settleAll vs ρ with
      | no => rw [es] at h; exact h.elim
      | ex _ _ => exact (settleAll_noex es).elim
      | ok ds' ρ2 =>
        rw [es] at h
        refine hard es (fun ρc σc F2 F' H' u S2 sm2 C v z vr nb => ?_) (fun _ _ _ _ _ _ _ _ _ _ _ z => nomatch z) (fun z => nomatch z)
        cases z
        have S3 := S2.after C
        exact h F' H' u S3 (sm2.trans C.base) (VR.out S2 S3 rfl nb vr)
    | dat d =>
      have h : Wp X.K X.mg W B σ (if flat d = true then .ok (.dat d) ρ else (settleAll vs ρ).bnd fun _ ρ => .ok (.dat d) ρ) F Q := h
      by_cases c : flat d = true
      · rw [if_pos c] at h
        refine easy (fun ρc σc F' H' u C v z vr nb => ?_) (fun _ _ _ _ _ _ _ _ z => nomatch z) (fun z => nomatch z)
        cases z
        exact h F H' u (S.on (kp C)) (Same.refl F) (flat_rp c vr)
      · rw [if_neg c] at h
        cases es : settleAll vs ρ with
        | no => rw [es] at h; exact h.elim
        | ex _ _ => exact (settleAll_noex es).elim
        | ok ds' ρ2 =>
          rw [es] at h
          refine hard es (fun ρc σc F2 F' H' u S2 sm2 C v z vr nb => ?_) (fun _ _ _ _ _ _ _ _ _ _ _ z => nomatch z) (fun z => nomatch z)
          cases z
          exact h F' H' u (S2.after C) (sm2.trans C.base) vr
theorem ed_call {y : Str} {p pos : Pos} {e : Expr} {es : List Expr} {ms : List (M Val)} {dds : List Dat} {ds : List Value} {dvs : List V} (D : DF X.prog X.w X.K X.mg X.base k f fd ps m) (room : RoomG k X.A) (tk : Takes X W) (gl : Gl X y) (at_ : X.mg y = some (.ref f)) (kp : PySem.W.keepIn X.K (.ref f) = true)
    (bnd : Binds X.K fd ps ds) (rd : Vals dvs ds) (hd : ∀ F : Hp, RpA X.K F dds dvs) (hn : ms.length + dvs.length = ps.length) (ha : AD X W (e :: es) ms) (hdb : (y == ("__debug__" : Str)) = false := by decide) (he : starEach (e :: es) X.env = (false, eval e X.env) :: starEach es X.env := by rfl) (hpl : (backTo pos (starEach es X.env)).any (·.1) = false := by rfl) :
    ED X W (.Call (.Name y p) (e :: es) [] pos) (eCall m dds ms) := by
  refine ⟨fun pins s σ H Q I ⟨B, ρ, F, S, h⟩ => (pe_callG (W := W) D.g room tk gl at_ kp bnd rd ha hdb he hpl).run pins s σ H Q I ⟨B, ρ, F, S, (Wp.splitG h).mono fun vs ρ1 F1 H1 ⟨ev, S1, _, h1⟩ us hu => ?_⟩⟩
  cases er : rdAll ρ1 vs with
  | none => rw [er] at h1; exact h1.elim
  | some ds =>
    rw [er] at h1
    exact call_in S1 hu er hd (by rw [VSs_len hu, eArgs_len ev]; exact hn) rfl h1
theorem ed_call0 {y : Str} {p pos : Pos} {dds : List Dat} {ds : List Value} {dvs : List V} (D : DF X.prog X.w X.K X.mg X.base k f fd ps m) (room : RoomG k X.A) (tk : Takes X W) (gl : Gl X y) (at_ : X.mg y = some (.ref f)) (kp : PySem.W.keepIn X.K (.ref f) = true)
    (bnd : Binds X.K fd ps ds) (rd : Vals dvs ds) (hd : ∀ F : Hp, RpA X.K F dds dvs) (hn : dvs.length = ps.length) (hdb : (y == ("__debug__" : Str)) = false := by decide) :
    ED X W (.Call (.Name y p) [] [] pos) (eCall m dds []) := by
  refine ⟨fun pins s σ H Q I ⟨B, ρ, F, S, h⟩ => (pe_callG0 (W := W) D.g room tk gl at_ kp bnd rd hdb).run pins s σ H Q I ?_⟩
  exact call_in (us := []) (vs := []) (ds := []) S trivial rfl hd (by simpa using hn) rfl h
end
end Dl
end

-- text D16
section
set_option Elab.async false
set_option linter.all false
set_option maxRecDepth 100000
set_option maxHeartbeats 1000000
/-! Dl, part 16: calls that lend what their first argument's name holds. -/
namespace Dl
open PySem PySem.Spec PyProof.Rows L2

def refEnd (i : Nat) : R Val → M Val
  | .ok (.bor _) _, _ => .no
  | .ok v ρ', ρ => (match gt ρ' 0 with
    | .cel _ c' => (match gt ρ i with
      | .cel b _ => .ok v (pt ρ i (.cel b c'))
      | _ => .no)
    | _ => .no)
  | .ex x ρ', ρ => (match gt ρ' 0 with
    | .cel _ c' => (match gt ρ i with
      | .cel b _ => .ex x (pt ρ i (.cel b c'))
      | _ => .no)
    | _ => .no)
  | .no, _ => .no
def eCallR (f : M Val) (dds : List Dat) (i : Nat) (ms : List (M Val)) : M Val := fun ρ =>
  match gt ρ i with
  | .cel _ _ => (eArgs ms ρ).bnd fun vs ρ => (settleAll vs ρ).bnd fun ds ρ =>
    (match gt ρ i with
    | .cel b c => refEnd i (f (.cel true c :: (ds ++ dds).map .dat)) ρ
    | _ => .no)
  | _ => .no

section
variable {K : PySem.W.Frag} {B Bc : Bs} {ρ ρ1 ρc : En} {σ σc : L2.St} {F F' H H' : Hp} {u : V} {i : Nat} {p : Addr}
/-- what is lent, and data -/
theorem St.lent {ds : List Dat} {vs : List V} {c : Cel} (sm : Same F H) (f : F p = none) (ca : CelAt K F H p c) (r : RpA K F ds vs) : St K ⟨H, F, [0], fun _ => some p⟩ (.cel true c :: ds.map .dat) ((V.ref p :: vs).map some) F H := by
  have S := St.dats (rf := fun _ => none) sm r
  have z0 : ∀ {j b c'}, gt (.cel true c :: ds.map Slot.dat) j = .cel b c' → j = 0 := fun {j b c'} e => by
    cases j with
    | zero => rfl
    | succ j =>
      have e : gt (ds.map Slot.dat) j = .cel b c' := e
      rw [gt_dats] at e
      cases h : ds[j]? <;> rw [h] at e <;> cases e
  refine ⟨by simp [r.len], sm, fun j => ?_, fun a b ba bb ca cb q ha hb _ _ => (z0 ha).trans (z0 hb).symm, Same.refl F, fun a e n => absurd e n, fun a o e _ => e, fun a b c' q ha ea => ?_, fun a ha q eq => ?_⟩
  · cases j with
    | zero => exact ⟨p, rfl, f, ca⟩
    | succ j =>
      have sl := S.slot j
      show SltR K F H _ (j + 1) (gt (ds.map Slot.dat) j)
      cases hg : gt (ds.map Slot.dat) j with
      | un => trivial
      | dat d => rw [hg] at sl; obtain ⟨w, e, q⟩ := sl; exact ⟨w, by simpa using e, q⟩
      | scr d => rw [hg] at sl; obtain ⟨w, e, q⟩ := sl; exact ⟨w, by simpa using e, q⟩
      | cel bk d => have := z0 (j := j + 1) hg; cases this
  · cases z0 ha
    cases ea
    exact .inr ⟨0, List.mem_singleton.mpr rfl, rfl⟩
  · cases List.mem_singleton.mp ha
    cases eq
    exact ⟨rfl, c, rfl⟩
/-- behind such a call -/
theorem St.afterR {b bk : Bool} {c c' : Cel} (S : St K B ρ σ F H) (hg : gt ρ i = .cel b c) (ep : σ[i]? = some (some (.ref p))) (C : St K ⟨H, F, [0], fun _ => some p⟩ ρc σc F' H') (hc : gt ρc 0 = .cel bk c') : St K B (pt ρ i (.cel b c')) σ F' H' := by
  obtain ⟨r0, _⟩ := C.refs 0 (List.mem_singleton.mpr rfl) p rfl
  have sl0 := C.slot 0
  rw [hc] at sl0
  obtain ⟨p', e0, fp, ca⟩ := sl0
  rw [r0] at e0
  cases e0
  have hi : i < ρ.length := gt_in hg (fun z => nomatch z)
  have k : ∀ a o, a ≠ p → H a = some o → H' a = some o := fun a o n e => C.keep a o e fun j hj z => n (Option.some.inj z).symm
  have fn : ∀ a, F a = none → F' a ≠ none → H a = none := fun a e n => (C.fnew a e n).resolve_right fun ⟨j, hj, z⟩ => by
    cases (show some p = some a from z)
    exact n fp
  have sm : Same F F' := C.base
  have cel : ∀ {j b2 c2}, gt (pt ρ i (.cel b c')) j = .cel b2 c2 → ∃ c3, gt ρ j = .cel b2 c3 := fun {j b2 c2} e => by
    by_cases hj : j = i
    · rw [hj, gt_pt_eq _ _ _ hi] at e
      cases e
      exact ⟨c, hj ▸ hg⟩
    · rw [gt_pt_ne _ _ _ _ hj] at e
      exact ⟨c2, e⟩
  refine ⟨by rw [pt_len]; exact S.len, C.sub, fun j => ?_, fun a b2 ba bb ca cb q ha hb ea eb => ?_, fun b x e => sm _ _ (S.base _ _ e), fun a e n => ?_, fun a x e h => ?_, fun a b2 c2 q ha ea => ?_, fun a ha q eq => ?_⟩
  · by_cases hj : j = i
    · rw [hj, gt_pt_eq _ _ _ hi]
      exact ⟨p, ep, fp, ca⟩
    · rw [gt_pt_ne _ _ _ _ hj]
      have sl := S.slot j
      cases hgj : gt ρ j with
      | un => trivial
      | dat d => rw [hgj] at sl; obtain ⟨w, e, q⟩ := sl; exact ⟨w, e, q.mono sm⟩
      | scr ns => rw [hgj] at sl; obtain ⟨w, e, q⟩ := sl; exact ⟨w, e, sm.seq q⟩
      | cel b2 c2 =>
        rw [hgj] at sl
        obtain ⟨q, e, f, z⟩ := sl
        obtain ⟨o, ho⟩ := z.there
        have nq : q ≠ p := fun y => hj (S.dist j i b2 b c2 c p hgj hg (by rw [e, y]) ep)
        refine ⟨q, e, ?_, z.mono sm (by rw [k _ _ nq ho, ho])⟩
        cases h : F' q with
        | none => rfl
        | some x =>
          have := fn q f (by rw [h]; exact fun z => (nomatch z))
          rw [ho] at this
          cases this
  · obtain ⟨c3, h3⟩ := cel ha
    obtain ⟨c4, h4⟩ := cel hb
    exact S.dist a b2 ba bb c3 c4 q h3 h4 ea eb
  · by_cases h : F a = none
    · have hn := fn a h n
      cases q : B.H0 a with
      | none => exact .inl rfl
      | some o =>
        refine Classical.byContradiction fun z => ?_
        have := S.keep a o q fun j hj ej => z (.inr ⟨j, hj, ej⟩)
        rw [hn] at this
        cases this
    · exact S.fnew a e h
  · refine k a x (fun z => ?_) (S.keep a x e h)
    rcases S.cnew i b c p hg ep with q | ⟨j, hj, q⟩
    · rw [z, q] at e; cases e
    · exact h j hj (by rw [z]; exact q)
  · obtain ⟨c3, h3⟩ := cel ha
    exact S.cnew a b2 c3 q h3 ea
  · obtain ⟨e1, c2, e2⟩ := S.refs a ha q eq
    refine ⟨e1, ?_⟩
    by_cases hj : a = i
    · rw [hj, gt_pt_eq _ _ _ hi]
      rw [hj, hg] at e2
      cases e2
      exact ⟨c', rfl⟩
    · rw [gt_pt_ne _ _ _ _ hj]
      exact ⟨c2, e2⟩
theorem VR.outR {b b2 : Bool} {c c2 : Cel} {v : Val} (S : St K B ρ σ F H) (hg : gt ρ i = .cel b c) (hB : Bc.H0 = H) (nb : ∀ i, v ≠ .bor i) (vr : VR K Bc ρc σc F' H' u v) : VR K B (pt ρ i (.cel b2 c2)) σ F' H' u v := by
  cases v with
  | dat d => exact vr
  | bor i => exact absurd rfl (nb i)
  | cel c3 =>
    obtain ⟨p, rfl, f, h0, ca, _, _⟩ := vr
    rw [hB] at h0
    refine ⟨p, rfl, f, ?_, ca, fun j b c' hj e => ?_, fun i hi e => S.rf_there hi e h0⟩
    · cases q : B.H0 p with
      | none => rfl
      | some o =>
        have := S.keep p o q fun j hj ej => S.rf_there hj ej h0
        rw [h0] at this
        cases this
    · by_cases hji : j = i
      · rw [hji] at e
        exact (S.cel_there hg e).1 h0
      · rw [gt_pt_ne _ _ _ _ hji] at hj
        exact (S.cel_there hj e).1 h0
end
section
variable {X : Cx} {W : WX} {k : Nat} {f : Addr} {fd : FuncData} {ps : List Str} {m : M Val}
theorem callR_in {B : Bs} {ρ : En} {σ : L2.St} {F H : Hp} {Q : VK} {i : Nat} {b : Bool} {c : Cel} {p : Addr} {us dvs : List V} {dds ds : List Dat} {r : R Val} (S : St X.K B ρ σ F H) (hg : gt ρ i = .cel b c) (ep : σ[i]? = some (some (.ref p))) (ra : RpA X.K F ds us) (hd : ∀ F : Hp, RpA X.K F dds dvs) (hn : us.length + 1 + dvs.length = ps.length)
    (em : m (.cel true c :: (ds ++ dds).map .dat) = r) (h : Wp X.K X.mg W B σ (refEnd i r ρ) F Q) : spD X.K X.mg ps.length m ((.ref p :: us) ++ dvs) H Q fun cls d H' => W cls d σ H' := by
  have sl := S.slot i
  rw [hg] at sl
  obtain ⟨p', e0, fp, ca⟩ := sl
  rw [ep] at e0
  cases e0
  refine ⟨_, ⟨H, F, [0], fun _ => some p⟩, F, by simp; omega, rfl, rfl, St.lent S.sub fp ca (ra.app (hd F)), ?_⟩
  rw [em]
  cases r with
  | no => exact h.elim
  | ex x ρc =>
    intro σ' F' H' cls d C sm xr
    have h : Wp X.K X.mg W B σ (match gt ρc 0 with
      | .cel _ c' => (match gt ρ i with
        | .cel b _ => .ex x (pt ρ i (.cel b c'))
        | _ => .no)
      | _ => .no) F Q := h
    cases hc : gt ρc 0 with
    | un => rw [hc] at h; exact h.elim
    | dat _ => rw [hc] at h; exact h.elim
    | scr _ => rw [hc] at h; exact h.elim
    | cel bk c' =>
      simp only [hc, hg] at h
      exact h F' H' cls d (S.afterR hg ep C hc) sm xr
  | ok v ρc =>
    intro σ' F' H' u C sm vr nb
    have h : Wp X.K X.mg W B σ (match gt ρc 0 with
      | .cel _ c' => (match gt ρ i with
        | .cel b _ => .ok v (pt ρ i (.cel b c'))
        | _ => .no)
      | _ => .no) F Q := by
      cases v with
      | bor j => exact absurd rfl (nb j)
      | dat _ => exact h
      | cel _ => exact h
    cases hc : gt ρc 0 with
    | un => rw [hc] at h; exact h.elim
    | dat _ => rw [hc] at h; exact h.elim
    | scr _ => rw [hc] at h; exact h.elim
    | cel bk c' =>
      simp only [hc, hg] at h
      exact h F' H' u (S.afterR hg ep C hc) sm (VR.outR S hg rfl nb vr)
theorem ed_callR {y x : Str} {p pos px : Pos} {es : List Expr} {ms : List (M Val)} {dds : List Dat} {ds : List Value} {dvs : List V} (i : Nat) (D : DF X.prog X.w X.K X.mg X.base k f fd ps m) (room : RoomG k X.A) (tk : Takes X W) (gl : Gl X y) (at_ : X.mg y = some (.ref f)) (kp : PySem.W.keepIn X.K (.ref f) = true)
    (bnd : Binds X.K fd ps ds) (rd : Vals dvs ds) (hd : ∀ F : Hp, RpA X.K F dds dvs) (hn : ms.length + 1 + dvs.length = ps.length) (ha : AD X W es ms) (hdb : (y == ("__debug__" : Str)) = false := by decide)
    (hN : X.N[i]? = some x := by rfl) (hv : Vis X.env.scope x := by first | exact Or.inl rfl | exact Or.inr (Or.inl rfl) | exact Or.inr (Or.inr rfl)) (hd2 : (x == ("__debug__" : Str)) = false := by decide)
    (hcd : (x == ("__classdict__" : Str)) = false := by decide)
    (he : starEach (.Name x px :: es) X.env = (false, eval (.Name x px) X.env) :: starEach es X.env := by rfl) (hpl : (backTo pos (starEach es X.env)).any (·.1) = false := by rfl) :
    ED X W (.Call (.Name y p) (.Name x px :: es) [] pos) (eCallR m dds i ms) := by
  refine ⟨fun pins s σ H Q I ⟨B, ρ, F, S, h⟩ => (pe_callG (W := W) D.g room tk gl at_ kp bnd rd (pa_cons (pv i hN hv hd2 hcd) ha he) hdb he hpl).run pins s σ H Q I ?_⟩
  have sl := S.slot i
  unfold eCallR at h
  cases hg : gt ρ i with
  | un => rw [hg] at h; exact h.elim
  | dat _ => rw [hg] at h; exact h.elim
  | scr _ => rw [hg] at h; exact h.elim
  | cel b c =>
    rw [hg] at h sl
    obtain ⟨q, eq, _⟩ := sl
    refine ⟨_, eq, B, ρ, F, S, (Wp.splitG h).mono fun vs ρ1 F1 H1 ⟨ev, S1, _, h1⟩ us hu => ?_⟩
    obtain ⟨ds, ρ2, F2, S2, ra, h2⟩ := args_settled S1 hu h1
    have sl2 := S2.slot i
    cases hg2 : gt ρ2 i with
    | un => rw [hg2] at h2; exact h2.elim
    | dat _ => rw [hg2] at h2; exact h2.elim
    | scr _ => rw [hg2] at h2; exact h2.elim
    | cel b2 c2 =>
      rw [hg2] at h2
      exact callR_in S2 hg2 eq ra hd (by rw [VSs_len hu, eArgs_len ev]; exact hn) rfl h2
end
end Dl
end

-- text D17
section
set_option Elab.async false
set_option linter.all false
set_option maxRecDepth 100000
set_option maxHeartbeats 1000000
/-! Dl, part 17: the script; repr. -/
namespace Dl
open PySem PySem.Spec PyProof.Rows L2

def iScr (i : Nat) : M (List Dat) := fun ρ =>
  match gt ρ i with
  | .scr ns => .ok (ns.map .int) ρ
  | _ => .no
def eLsc (i : Nat) : M Val := fun ρ =>
  match gt ρ i with
  | .scr ns => .ok (.cel (.lst (ns.map .int))) ρ
  | _ => .no
theorem rpa_ints {K : PySem.W.Frag} {F : Hp} : ∀ ns : List Int, RpA K F (ns.map .int) (ns.map V.int)
  | [] => .nil
  | n :: ns => .cons rp_int (rpa_ints ns)
theorem walkD_sq {K : PySem.W.Frag} {F : Hp} {a : Addr} {xs : List V} {ds : List Dat} (h : SqL K F a xs) (r : RpA K F ds xs) : WalkD K F ds (Itl K a) := by
  refine ⟨fun k H hk s => ?_, fun H s => ⟨xs, s.seq h, Nat.le_of_eq r.len⟩, fun k H x H' s y d hd => ?_⟩
  · obtain ⟨d, hd⟩ : ∃ d, ds[k]? = some d := ⟨ds[k], List.getElem?_eq_getElem hk⟩
    obtain ⟨v, e, _⟩ := r.at hd
    exact ⟨xs, v, s.seq h, e⟩
  · obtain ⟨e, y⟩ := y
    obtain ⟨v, e2, q⟩ := r.at hd
    rw [y xs (s.seq h)] at e2
    cases e2
    exact .inl ⟨e, q⟩
section
variable {X : Cx} {W : WX} {tg : Expr} {k : Nat} {f : Addr} {fd : FuncData} {ps : List Str} {m : M Val}
theorem id_scr {x : Str} {px : Pos} (i : Nat) (hN : X.N[i]? = some x := by rfl) (hv : Vis X.env.scope x := by first | exact Or.inl rfl | exact Or.inr (Or.inl rfl) | exact Or.inr (Or.inr rfl)) (hd : (x == ("__debug__" : Str)) = false := by decide)
    (hcd : (x == ("__classdict__" : Str)) = false := by decide) : ID X W tg (.Name x px) (iScr i) := by
  refine ⟨fun pins s σ H R0 I ⟨B, ρ, F, S, h⟩ => (pi_list (pv i hN hv hd hcd)).run pins s σ H R0 I ?_⟩
  have sl := S.slot i
  unfold iScr at h
  cases hg : gt ρ i with
  | un => rw [hg] at h; exact h.elim
  | dat _ => rw [hg] at h; exact h.elim
  | cel _ _ => rw [hg] at h; exact h.elim
  | scr ns =>
    rw [hg] at h sl
    obtain ⟨p, e, q⟩ := sl
    exact ⟨_, e, p, rfl, ⟨_, S.sub.seq q⟩, h F H S (Same.refl F) _ (walkD_sq q (rpa_ints ns))⟩
theorem ed_lsc {x y : Str} {px p pos : Pos} (i : Nat) (hg : Gl X y) (hm : X.mg y = none) (hv : bootBuiltins y = some (.type "list")) (hN : X.N[i]? = some x := by rfl) (hvi : Vis X.env.scope x := by first | exact Or.inl rfl | exact Or.inr (Or.inl rfl) | exact Or.inr (Or.inr rfl))
    (hn : y ≠ "__name__" := by decide) (hdb : (y == ("__debug__" : Str)) = false := by decide) (hd : (x == ("__debug__" : Str)) = false := by decide) (hcd : (x == ("__classdict__" : Str)) = false := by decide)
    (he : starEach [.Name x px] X.env = (false, eval (.Name x px) X.env) :: starEach [] X.env := by rfl) (hpl : (backTo pos (starEach [] X.env)).any (·.1) = false := by rfl) :
    ED X W (.Call (.Name y p) [.Name x px] [] pos) (eLsc i) := by
  refine ⟨fun pins s σ H Q I ⟨B, ρ, F, S, h⟩ => (pe_callTy call_list_of hg hm hv (pa_cons (pv i hN hvi hd hcd) pa_nil he) hn hdb he hpl).run pins s σ H Q I ?_⟩
  have sl := S.slot i
  unfold eLsc at h
  cases hg : gt ρ i with
  | un => rw [hg] at h; exact h.elim
  | dat _ => rw [hg] at h; exact h.elim
  | cel _ _ => rw [hg] at h; exact h.elim
  | scr ns =>
    rw [hg] at h sl
    obtain ⟨q, e, sq⟩ := sl
    exact ⟨_, e, q, _, rfl, .inl (S.sub.seq sq), fun l hl => h.fin S (fin_lst hl (rpa_ints ns))⟩
/-- f(script) -/
def scrEnd : R Val → M Val
  | .ok (.dat d) _, ρ => .ok (.dat d) ρ
  | .ok (.cel c) _, ρ => .ok (.cel c) ρ
  | _, _ => .no
def eCallS (m : M Val) (i : Nat) : M Val := fun ρ =>
  match gt ρ i with
  | .scr ns => scrEnd (m [.scr ns]) ρ
  | _ => .no
theorem ed_callS {y x : Str} {p pos px : Pos} (i : Nat) (D : DF X.prog X.w X.K X.mg X.base k f fd ps m) (room : RoomG k X.A) (tk : Takes X W) (gl : Gl X y) (at_ : X.mg y = some (.ref f)) (kp : PySem.W.keepIn X.K (.ref f) = true)
    (bnd : Binds X.K fd ps []) (hn : ps.length = 1) (hdb : (y == ("__debug__" : Str)) = false := by decide)
    (hN : X.N[i]? = some x := by rfl) (hv : Vis X.env.scope x := by first | exact Or.inl rfl | exact Or.inr (Or.inl rfl) | exact Or.inr (Or.inr rfl)) (hd2 : (x == ("__debug__" : Str)) = false := by decide)
    (hcd : (x == ("__classdict__" : Str)) = false := by decide)
    (he : starEach [.Name x px] X.env = (false, eval (.Name x px) X.env) :: starEach [] X.env := by rfl) (hpl : (backTo pos (starEach [] X.env)).any (·.1) = false := by rfl) :
    ED X W (.Call (.Name y p) [.Name x px] [] pos) (eCallS m i) := by
  refine ⟨fun pins s σ H Q I ⟨B, ρ, F, S, h⟩ => (pe_callG (W := W) D.g room tk gl at_ kp bnd .nil (pa_cons (pv i hN hv hd2 hcd) pa_nil he) hdb he hpl).run pins s σ H Q I ?_⟩
  have sl := S.slot i
  unfold eCallS at h
  cases hg : gt ρ i with
  | un => rw [hg] at h; exact h.elim
  | dat _ => rw [hg] at h; exact h.elim
  | cel _ _ => rw [hg] at h; exact h.elim
  | scr ns =>
    rw [hg] at h sl
    obtain ⟨q, e, sq⟩ := sl
    refine ⟨_, e, [.scr ns], ⟨H, F, [], fun _ => none⟩, F, hn.symm, rfl, rfl, ?_, ?_⟩
    · have nc : ∀ {j b c}, gt [Slot.scr ns] j = .cel b c → False := fun {j b c} z => by
        cases j with
        | zero => cases z
        | succ j => cases z
      refine ⟨rfl, S.sub, fun j => ?_, fun a b ba bb ca cb p ha => (nc ha).elim, Same.refl F, fun a e n => absurd e n, fun a o e _ => e, fun a b c p ha => (nc ha).elim, fun a ha => by cases ha⟩
      cases j with
      | zero => exact ⟨q, rfl, sq⟩
      | succ j => trivial
    · have h : Wp X.K X.mg W B σ (scrEnd (m [.scr ns]) ρ) F Q := h
      cases em : m [.scr ns] with
      | no => rw [em] at h; exact h.elim
      | ex _ _ => rw [em] at h; exact h.elim
      | ok v ρc =>
        rw [em] at h
        intro σ' F' H' u C sm vr nb
        have S3 := S.after C
        cases v with
        | bor j => exact absurd rfl (nb j)
        | dat d => exact h F' H' u S3 sm vr
        | cel c => exact h F' H' u S3 sm (VR.out (v := .cel c) S S3 rfl (fun _ z => nomatch z) vr)

/-! ### repr -/
def reprOk (d : Dat) : Bool := d.showable && (decide (d.shown.length ≤ sizeLine) && decide (d.depth ≤ 100))
def gRepr : PN
  | [d] => if reprOk d = true then some (.dat (.str d.shown)) else none
  | _ => none
theorem gRepr_is {ds : List Dat} {r : Val} (e : gRepr ds = some r) : ∃ d, ds = [d] ∧ reprOk d = true ∧ r = .dat (.str d.shown) := by
  match ds, e with
  | [], e => cases e
  | _ :: _ :: _, e => cases e
  | [d], e =>
    have e : (if reprOk d = true then some (Val.dat (.str d.shown)) else none) = some r := e
    by_cases c : reprOk d = true
    · rw [if_pos c] at e
      exact ⟨d, rfl, c, (Option.some.inj e).symm⟩
    · rw [if_neg c] at e
      cases e
mutual
theorem noDict_rp {K : PySem.W.Frag} {F : Hp} : ∀ {d : Dat} {v : V}, Rp K F d v → d.hasDict = false
  | .none, _, _ => by simp only [PyData.hasDict]
  | .bool _, _, _ => by simp only [PyData.hasDict]
  | .int _, _, _ => by simp only [PyData.hasDict]
  | .str _, _, _ => by simp only [PyData.hasDict]
  | .list ds, _, h => by
    unfold Rp at h
    obtain ⟨a, xs, e, e2, q⟩ := h
    simp only [PyData.hasDict]
    exact noDict_rpa q
  | .tuple ds, _, h => by
    unfold Rp at h
    obtain ⟨a, xs, e, e2, q⟩ := h
    simp only [PyData.hasDict]
    exact noDict_rpa q
  | .dict _, _, h => by unfold Rp at h; exact h.elim
theorem noDict_rpa {K : PySem.W.Frag} {F : Hp} : ∀ {ds : List Dat} {vs : List V}, RpA K F ds vs → PyData.hasDictAll ds = false
  | [], _, _ => by simp only [PyData.hasDictAll]
  | d :: ds, _, h => by
    obtain ⟨v, r, _, a, b⟩ := h.cons_inv
    simp only [PyData.hasDictAll, noDict_rp a, noDict_rpa b, Bool.or_self]
end
theorem cd_repr (room : RoomG k X.A) : CallD X (.builtin "repr") gRepr := by
  intro pins s σ H xs us Q I rx ⟨F, ds, res, sm, h1, e, q⟩
  obtain ⟨d, rfl, ok, rfl⟩ := gRepr_is e
  obtain ⟨v, rfl, h2⟩ := rts1 h1
  obtain ⟨u, rfl, r⟩ := vals1 rx
  clear h1
  unfold reprOk at ok
  rw [Bool.and_eq_true, Bool.and_eq_true, decide_eq_true_eq, decide_eq_true_eq] at ok
  obtain ⟨hs, hl, hdp⟩ := ok
  have rp := h2.rp sm
  obtain ⟨as, rd⟩ := Dp.reads I d v u rp.dp r
  have hu : X.A.units + (d.depth + 1) < cLine := by have := room.r.un; omega
  have fin : ∀ (tk : Nat) (t : Tok), EP X pins σ Q (.str d.shown t) { s with toks := tk } := fun tk t => ⟨.str d.shown, H, I.tok tk, ⟨t, rfl⟩, q _ _ fin_str⟩
  have big : ∀ {a : Addr}, u = .ref a → wpAny (model X.prog X.w) X.A (call (.builtin "repr") [u]) (EP X pins σ Q) X.xe s := fun {a} eu => by
    subst eu
    exact repr_of_reads' rd hs (PyData.noDict_hsm (noDict_rp rp)) room.g hu (fun _ _ z => z) (fun h' w tk hk => ⟨.str d.shown, H, I.kept (t' := tk) hk, ⟨w, rfl⟩, q _ _ fin_str⟩) hl
  cases d with
  | none =>
    rw [rt_none h2] at r
    cases r
    exact PySem.P.repr_of_none (fin _ _)
  | bool b =>
    rw [rt_bl h2] at r
    cases r
    exact PySem.P.repr_of_bool (fin _ _)
  | int i =>
    rw [rt_int h2] at r
    obtain ⟨t, rfl⟩ := r
    exact PySem.P.repr_of_int (by simpa [PyData.showable] using hs) (fin _ _)
  | str x =>
    rw [rt_str h2] at r
    obtain ⟨t, rfl⟩ := r
    exact PySem.P.repr_of_str (fin _ _) hl
  | list ds =>
    obtain ⟨a, xs, rfl, _⟩ := rt_lst h2
    exact big (show u = .ref a from r)
  | tuple ds =>
    obtain ⟨a, xs, rfl, _⟩ := rt_tup h2
    exact big (show u = .ref a from r)
  | dict _ => exact (rt_dct h2).elim
end
end Dl
end

-- text D18
section
set_option Elab.async false
set_option linter.all false
set_option maxRecDepth 100000
set_option maxHeartbeats 1000000
/-! Dl, part 18: a law's end. -/
namespace Dl
open PySem PySem.Spec PyProof.Rows L2

/-- what is tracked ahead of the law: the script, unless the module holds it itself -/
noncomputable def only (K : PySem.W.Frag) (a : Addr) (ob : Obj) (ns : List Int) : Hp := fun b => if b = a ∧ K.lookup a = none then some (.frz ob (.lst (ns.map V.int))) else none
section
variable {P : Program} {w : World} {K : PySem.W.Frag} {mg mb : Str → Option Value} {k : Nat} {fa a : Addr} {fd : FuncData} {x : Str} {m : M Val} {s₁ : Shared} {vs : List Value} {ns : List Int} {ob : Obj}
theorem only_at {b : Addr} {o : HO} (h : only K a ob ns b = some o) : b = a ∧ K.lookup a = none ∧ o = .frz ob (.lst (ns.map V.int)) := by
  unfold only at h
  by_cases c : b = a ∧ K.lookup a = none
  · rw [if_pos c] at h
    exact ⟨c.1, c.2, (Option.some.inj h).symm⟩
  · rw [if_neg c] at h
    cases h
/-- the law's def, called -/
theorem law_goes (KX : K.In s₁.heap) (hns : s₁.heap.Ns mainGlobals mg) (hb : s₁.heap.Ns builtinsNs mb) (hbb : ∀ x : Str, x ≠ "__name__" → mb x = bootBuiltins x) (hlim : s₁.heap.NoLimit) (hg : s₁.gens = #[])
    (ha : s₁.heap.get? a = some { cls := .type "list", data := .seq vs.toArray }) (hi : IntsAre vs ns) (hl : ns.length ≤ sizeLine) (hr : RoomG k callerA)
    (F : ∀ base : Heap, K.In base → base.Ns mainGlobals mg → DF P w K mg base k fa fd [x] m) (hbind : ∀ (s : Shared) (u : Value), BindsTo s fd ⟨[u], []⟩ [(x, u)]) (hm : ∃ ρ', m [.scr ns] = .ok (.dat (.bool true)) ρ') :
    codeAny (model P w) callerA (.call (.ref fa) ⟨[.ref a], []⟩) (fun r s' => r = .ok (.ret (.bool true)) ∧ OldK s₁.heap s'.heap ∧ s'.os = s₁.os ∧ AllBare s'.gens) s₁ := by
  obtain ⟨H, eH⟩ : ∃ H : Hp, H = only K a { cls := .type "list", data := .seq vs.toArray } ns := ⟨_, rfl⟩
  have at_ : ∀ {b o}, H b = some o → b = a ∧ K.lookup a = none ∧ o = .frz { cls := .type "list", data := .seq vs.toArray } (.lst (ns.map V.int)) := fun {b o} e => only_at (by rw [← eH]; exact e)
  have away : ∀ {b o}, s₁.heap.get? b = some o → (b = a → o ≠ { cls := .type "list", data := .seq vs.toArray } ∨ K.lookup a ≠ none) → H b = none := fun {b o} e n => by
    cases q : H b with
    | none => rfl
    | some u =>
      obtain ⟨e1, e2, _⟩ := at_ q
      rcases n e1 with n | n
      · rw [e1, ha] at e
        exact absurd (Option.some.inj e).symm n
      · exact absurd e2 n
  have nsB : ∀ {b : Addr} {mm : Str → Option Value}, s₁.heap.Ns b mm → (hidT s₁.heap H).Ns b mm := fun {b mm} ⟨o, es, ep, e, d, r⟩ => ⟨o, es, ep, hidT_get e (away e fun _ => .inl fun z => by rw [z] at d; cases d), d, r⟩
  have KB : K.In (hidT s₁.heap H) := fun b o e => hidT_get (KX b o e) (away (KX b o e) fun z => .inr fun y => by rw [z, y] at e; cases e)
  have md : Mod K mg (hidT s₁.heap H) := by
    obtain ⟨mc, q1, q2⟩ := hlim
    exact ⟨KB, nsB hns, ⟨mb, nsB hb, hbb⟩, mc, nsB q1, q2⟩
  have rv := vals_ints hi
  have len := hi.length
  have hok : HOk P w H s₁.heap := fun b o e => by
    obtain ⟨rfl, _, rfl⟩ := at_ e
    exact ⟨ha, by rw [List.length_map]; exact hl, vs, _, rv, ha⟩
  have e0 : Env0 P w K mg (hidT s₁.heap H) callerA [] s₁ H := ⟨rfl, md, fun b o e => of_hidT e, Nat.le_of_eq (hidT_size _ _), trivial, fun b z => (nomatch z), hok, .of_eq hg⟩
  have sq : SqL K H a (ns.map V.int) := by
    cases q : K.lookup a with
    | some o =>
      have e := KX a o q
      rw [ha] at e
      cases e
      exact .inr ⟨_, vs.toArray, _, q, rfl, rfl, rfl, by rw [List.size_toArray, len]; exact hl, by simpa using rv⟩
    | none =>
      refine .inl (.inr ⟨{ cls := .type "list", data := .seq vs.toArray }, ?_⟩)
      rw [eH]
      unfold only
      rw [if_pos ⟨rfl, q⟩]
  obtain ⟨ρ', em⟩ := hm
  have sp : spD K mg 1 m [.ref a] H (fun v _ => v = .bl true) fun _ _ _ => False := by
    refine ⟨[.scr ns], ⟨H, H, [], fun _ => none⟩, H, rfl, rfl, rfl, ?_, ?_⟩
    · have nc : ∀ {j b c}, gt [Slot.scr ns] j = .cel b c → False := fun {j b c} z => by
        cases j with
        | zero => cases z
        | succ j => cases z
      refine ⟨rfl, Same.refl H, fun j => ?_, fun a b ba bb ca cb p ha => (nc ha).elim, Same.refl H, fun a e n => absurd e n, fun a o e _ => e, fun a b c p ha => (nc ha).elim, fun a ha => by cases ha⟩
      cases j with
      | zero => exact ⟨a, rfl, sq⟩
      | succ j => trivial
    · rw [em]
      intro σ' F' H' u _ _ vr _
      have vr : Rp K F' (.bool true) u := vr
      unfold Rp at vr
      exact vr
  have go := (F _ KB (nsB hns)).g.run callerA [] s₁ H ⟨[.ref a], []⟩ [.ref a] [.ref a] _ _ hr e0 (hbind s₁ (.ref a)) (.cons rfl .nil) sp
  refine codeAny_mono go ?_
  intro res s' z
  match res, z with
  | .error e, z =>
    obtain ⟨_, _, _, _, _, _, _, _, _, _, _, _, y⟩ := z
    exact y.elim
  | .ok .next, z => exact z.elim
  | .ok .brk, z => exact z.elim
  | .ok .cont, z => exact z.elim
  | .ok (.ret u), z =>
    obtain ⟨v, H', os, bare, un, hok', r, q⟩ := z
    have q : v = .bl true := q
    subst q
    obtain rfl : u = Value.bool true := r
    refine ⟨rfl, OldK.of_keep fun b o e => ?_, os, bare⟩
    cases q : H b with
    | none => exact un.keep b o e q (fun z => nomatch z) (fun z => nomatch z)
    | some u =>
      obtain ⟨rfl, _, rfl⟩ := at_ q
      obtain ⟨e2, _⟩ := hok' b _ (un.frzs b _ _ q)
      rw [ha] at e
      rw [← e]
      exact e2
end
/-- the goal behind the head -/
theorem walk_dl {l : PySem.W.OpenLaw} {n k : Nat} {q : Program} {loose : List Str} {XP : (Str → Option Value) → Heap → Prop} {YP : World → Heap → Prop} {d : DefRec} {x : Str} {m : M Val}
    (hn : l.most = some n) (hn2 : n ≤ sizeLine) (hdf : d.params.defaults = []) (hr : RoomG k callerA)
    (F : ∀ (w : World) (mg : Str → Option Value) (fa : Addr) (h : Heap), YP w h → h.Ns mainGlobals mg → mg d.name = some (.ref fa) →
      ∃ (K : PySem.W.Frag) (fd : FuncData), K.In h ∧ (∀ (s : Shared) (u : Value), BindsTo s fd ⟨[u], []⟩ [(x, u)]) ∧ ∀ base : Heap, K.In base → base.Ns mainGlobals mg → DF l.prog w K mg base k fa fd [x] m)
    (hm : ∀ ns : List Int, ns.length ≤ n → ∃ ρ', m [.scr ns] = .ok (.dat (.bool true)) ρ') : PySem.W.WalkO q loose XP YP l.row.toRowW d [] (fun f vs => PySem.call f vs) := by
  refine Att.attach_call hn hdf fun w s₀ s₁ mg mb fa o pm cd doc a vs ns G Y _ _ _ hmg hobj hints hlen hg => ?_
  obtain ⟨K, fd, KX, hb, hF⟩ := F w mg fa _ Y G.T.g hmg
  exact law_goes KX G.T.g G.T.b G.T.builtins G.T.nolimit hg hobj hints (Nat.le_trans hlen hn2) hr hF hb (hm ns hlen)
end Dl
end

-- text D19
section
set_option Elab.async false
set_option linter.all false
set_option maxRecDepth 100000
set_option maxHeartbeats 1000000
/-! Dl, part 19: what comes out; steps. -/
namespace Dl
open PySem PySem.Spec PyProof.Rows L2

inductive O where
  | v (x : Val)
  | e (x : Exn)
  | n
def out : R Val → O
  | .ok v _ => .v v
  | .ex x _ => .e x
  | .no => .n
/-- what comes out, and what was lent -/
def outR : R Val → O × Option Cel
  | .ok v ρ => (.v v, match gt ρ 0 with | .cel _ c => some c | _ => none)
  | .ex x ρ => (.e x, match gt ρ 0 with | .cel _ c => some c | _ => none)
  | .no => (.n, none)
theorem out_ok {r : R Val} {v : Val} (h : out r = .v v) : ∃ ρ, r = .ok v ρ := by
  cases r with
  | ok a ρ => cases h; exact ⟨ρ, rfl⟩
  | ex _ _ => cases h
  | no => cases h
def callO (vs : List Val) : O → M Val
  | .v (.dat d), ρ => if flat d = true then .ok (.dat d) ρ else (settleAll vs ρ).bnd fun _ ρ => .ok (.dat d) ρ
  | .v (.cel c), ρ => (settleAll vs ρ).bnd fun _ ρ => .ok (.cel c) ρ
  | .v (.bor _), _ => .no
  | .e x, ρ => if flat x.place = true then .ex x ρ else (settleAll vs ρ).bnd fun _ ρ => .ex x ρ
  | .n, _ => .no
theorem callEnd_eq {vs : List Val} {r : R Val} {ρ : En} : callEnd vs r ρ = callO vs (out r) ρ := by
  cases r with
  | ok v _ => cases v <;> rfl
  | ex _ _ => rfl
  | no => rfl
theorem eCall_eq {f : M Val} {dds : List Dat} {ms : List (M Val)} {ρ : En} : eCall f dds ms ρ = (eArgs ms ρ).bnd fun vs ρ =>
    match rdAll ρ vs with
    | some ds => callO vs (out (f ((ds ++ dds).map .dat))) ρ
    | none => .no := by
  unfold eCall
  simp only [callEnd_eq]
  all_goals rfl
def refO (i : Nat) : O × Option Cel → M Val
  | (.v (.bor _), _), _ => .no
  | (.v v, some c'), ρ => (match gt ρ i with
    | .cel b _ => .ok v (pt ρ i (.cel b c'))
    | _ => .no)
  | (.e x, some c'), ρ => (match gt ρ i with
    | .cel b _ => .ex x (pt ρ i (.cel b c'))
    | _ => .no)
  | _, _ => .no
theorem refEnd_eq {i : Nat} {r : R Val} {ρ : En} : refEnd i r ρ = refO i (outR r) ρ := by
  cases r with
  | no => rfl
  | ex x ρ' =>
    show (match gt ρ' 0 with
      | .cel _ c' => (match gt ρ i with
        | .cel b _ => R.ex x (pt ρ i (.cel b c'))
        | _ => .no)
      | _ => .no) = refO i (.e x, match gt ρ' 0 with | .cel _ c => some c | _ => none) ρ
    cases gt ρ' 0 <;> rfl
  | ok v ρ' =>
    cases v with
    | bor _ => show _ = refO i (.v (.bor _), match gt ρ' 0 with | .cel _ c => some c | _ => none) ρ; cases gt ρ' 0 <;> rfl
    | dat d =>
      show (match gt ρ' 0 with
        | .cel _ c' => (match gt ρ i with
          | .cel b _ => R.ok (.dat d) (pt ρ i (.cel b c'))
          | _ => .no)
        | _ => .no) = refO i (.v (.dat d), match gt ρ' 0 with | .cel _ c => some c | _ => none) ρ
      cases gt ρ' 0 <;> rfl
    | cel c0 =>
      show (match gt ρ' 0 with
        | .cel _ c' => (match gt ρ i with
          | .cel b _ => R.ok (.cel c0) (pt ρ i (.cel b c'))
          | _ => .no)
        | _ => .no) = refO i (.v (.cel c0), match gt ρ' 0 with | .cel _ c => some c | _ => none) ρ
      cases gt ρ' 0 <;> rfl
theorem eCallR_eq {f : M Val} {dds : List Dat} {i : Nat} {ms : List (M Val)} {ρ : En} : eCallR f dds i ms ρ =
    match gt ρ i with
    | .cel _ _ => (eArgs ms ρ).bnd fun vs ρ => (settleAll vs ρ).bnd fun ds ρ =>
      (match gt ρ i with
      | .cel b c => refO i (outR (f (.cel true c :: (ds ++ dds).map .dat))) ρ
      | _ => .no)
    | _ => .no := by
  unfold eCallR
  simp only [refEnd_eq]
  all_goals rfl
def scrO : O → M Val
  | .v (.dat d), ρ => .ok (.dat d) ρ
  | .v (.cel c), ρ => .ok (.cel c) ρ
  | _, _ => .no
theorem eCallS_eq {m : M Val} {i : Nat} {ρ : En} : eCallS m i ρ =
    match gt ρ i with
    | .scr ns => scrO (out (m [.scr ns])) ρ
    | _ => .no := by
  have e : ∀ (r : R Val) (ρ : En), scrEnd r ρ = scrO (out r) ρ := fun r ρ => by
    cases r with
    | ok v _ => cases v <;> rfl
    | ex _ _ => rfl
    | no => rfl
  unfold eCallS
  simp only [e]
  all_goals rfl
end Dl
end

-- text D20
section
set_option Elab.async false
set_option linter.all false
set_option maxRecDepth 100000
set_option maxHeartbeats 1000000
/-! Dl, part 20: steps, as equations. -/
namespace Dl
open PySem PySem.Spec PyProof.Rows L2

def varO (i : Nat) : Slot → M Val
  | .dat d, ρ => .ok (.dat d) ρ
  | .cel _ _, ρ => .ok (.bor i) ρ
  | _, _ => .no
def retO : Option Val → M Val
  | some r, ρ => .ok r ρ
  | none, _ => .no
def binO (g : P2) (ρ : En) : Option Dat → Option Dat → R Val
  | some d1, some d2 => retO (g d1 d2) ρ
  | _, _ => .no
def tbO : Val → M Bool
  | .dat (.bool b), ρ => .ok b ρ
  | _, _ => .no
def truO : Option Bool → M Bool
  | some b, ρ => .ok b ρ
  | none, _ => .no
def andO (p2 : M Bool) : Bool → M Bool
  | true, ρ => p2 ρ
  | false, ρ => .ok false ρ
def orO (p2 : M Bool) : Bool → M Bool
  | true, ρ => .ok true ρ
  | false, ρ => p2 ρ
def ifO {α : Type} (m1 m2 : M α) : Bool → M α
  | true, ρ => m1 ρ
  | false, ρ => m2 ρ
def andV (m2 : M Val) (v : Val) : Option Bool → M Val
  | some true, ρ => m2 ρ
  | some false, ρ => .ok v ρ
  | none, _ => .no
def orV (m2 : M Val) (v : Val) : Option Bool → M Val
  | some true, ρ => .ok v ρ
  | some false, ρ => m2 ρ
  | none, _ => .no
def notV : Option Bool → M Val
  | some b, ρ => .ok (.dat (.bool (!b))) ρ
  | none, _ => .no
def setO (i : Nat) : Slot → M Dat
  | .dat d, ρ => .ok d ρ
  | .cel false (.lst ds), ρ => .ok (.list ds) (pt ρ i (.dat (.list ds)))
  | _, _ => .no
def consO : Option Dat → Option (List Dat) → Option (List Dat)
  | some d, some ds => some (d :: ds)
  | _, _ => none
def tupO (ds : List Dat) : M Val := fun ρ => if ds.length ≤ sizeLine then .ok (.dat (.tuple ds)) ρ else .no
def lstO (ds : List Dat) : M Val := fun ρ => if ds.length ≤ sizeLine then .ok (.cel (.lst ds)) ρ else .no
def primO (g : PN) : Option (List Dat) → M Val
  | some ds, ρ => retO (g ds) ρ
  | none, _ => .no
def nxt (m2 : MS) : R Fl → R Fl
  | .ok .nx ρ => m2 ρ
  | r => r
def putO (i : Nat) (v : Val) : Slot → MS
  | .cel true _, _ => .no
  | _, ρ => (match v with
    | .dat d => .ok .nx (pt ρ i (.dat d))
    | .cel c => .ok .nx (pt ρ i (.cel false c))
    | .bor j => (settleS j ρ).bnd fun d ρ => if locked ρ i = true then .no else .ok .nx (pt ρ i (.dat d)))
def storeO (i : Nat) : Slot → Option Cel → MS
  | .cel b _, some c', ρ => .ok .nx (pt ρ i (.cel b c'))
  | _, _, _ => .no
def setsO (g : PW3) (i : Nat) (d : Dat) : Slot → Option Dat → MS
  | .cel b c, some dk, ρ => storeO i (.cel b c) (g c dk d) ρ
  | _, _, _ => .no
def celQ (m : MS) : Slot → MS
  | .cel _ _, ρ => m ρ
  | _, _ => .no
def augO (g : P2) (i : Nat) (d : Dat) : Option Dat → MS
  | some d2, ρ => (match g d d2 with
    | some r => putV i r ρ
    | none => .no)
  | none, _ => .no
def augS (g : P2) (i : Nat) (m : M Val) : Slot → MS
  | .dat d, ρ => (m ρ).bnd fun v ρ => augO g i d (rd ρ v) ρ
  | _, _ => .no
def scrS (m : M Val) : Slot → MS → MS := fun _ k => k
def callQ (vs : List Val) (f : M Val) (dds : List Dat) : Option (List Dat) → M Val
  | some ds, ρ => callO vs (out (f ((ds ++ dds).map .dat))) ρ
  | none, _ => .no
def refQ (i : Nat) (f : M Val) (dds ds : List Dat) : Slot → M Val
  | .cel _ c, ρ => refO i (outR (f (.cel true c :: (ds ++ dds).map .dat))) ρ
  | _, _ => .no
def refK (k : M Val) : Slot → M Val
  | .cel _ _, ρ => k ρ
  | _, _ => .no
def backO (i : Nat) (v : Val) (c' : Cel) : Slot → M Val
  | .cel b _, ρ => .ok v (pt ρ i (.cel b c'))
  | _, _ => .no
def sclO (m : M Val) : Slot → M Val
  | .scr ns, ρ => scrO (out (m [.scr ns])) ρ
  | _, _ => .no
def isiO (T : String) : Option Dat → M Val
  | some d, ρ => retO ((kitB (tyN d) T).map fun b => .dat (.bool b)) ρ
  | none, _ => .no
def cutO (l h : Option Int) : Option Dat → M Val
  | some d, ρ => retO (gCut d l h) ρ
  | none, _ => .no
def partO : Val → M (Option Int)
  | .dat (.int i), ρ => .ok (some i) ρ
  | _, _ => .no
def negO : Val → M Val
  | .dat (.int i), ρ => .ok (.dat (.int (-i))) ρ
  | _, _ => .no
def revO : Option Dat → M Val
  | some (.list ds), ρ => .ok (.cel (.lst ds.reverse)) ρ
  | _, _ => .no
def mutR (i : Nat) (b : Bool) : Option (Cel × Dat) → M Val
  | some (c', d), ρ => .ok (.dat d) (pt ρ i (.cel b c'))
  | none, _ => .no
def mutO (g : PM) (i : Nat) (ds : List Dat) : Slot → M Val
  | .cel b c, ρ => mutR i b (g c ds) ρ
  | _, _ => .no
def mutT (k : M Val) : Bool → M Val
  | true, ρ => k ρ
  | false, _ => .no
def mutQ (T : String) (k : M Val) : Slot → M Val
  | .cel _ c, ρ => mutT k (decide (celT c = T)) ρ
  | _, _ => .no
def methO (ρ : En) (g : Dat → PN) : Option Dat → Option (List Dat) → R Val
  | some d, some ds => retO (g d ds) ρ
  | _, _ => .no
def methT (k : M Val) : Bool → M Val
  | true, ρ => k ρ
  | false, _ => .no
def methQ (T : String) (k : M Val) : Option Dat → M Val
  | some d, ρ => methT k (tyD T d) ρ
  | none, _ => .no
section
variable {α β : Type} {a : Slot} {r ρ : En} {i : Nat} {m m1 m2 m3 mk mv : M Val} {ms : List (M Val)} {p p1 p2 : M Bool} {s s1 s2 : MS} {g g' : P2} {gn : PN} {v : Val} {vs : List Val} {d : Dat} {ds : List Dat}
theorem e_var : eVar i (a :: r) = varO i (gt (a :: r) i) (a :: r) := by unfold eVar varO; cases gt (a :: r) i <;> rfl
theorem binO_eq {o1 o2 : Option Dat} : (match o1, o2 with
    | some d1, some d2 => (match g d1 d2 with
      | some r => R.ok r ρ
      | none => .no)
    | _, _ => .no) = binO g ρ o1 o2 := by
  cases o1 with
  | none => rfl
  | some d1 =>
    cases o2 with
    | none => rfl
    | some d2 =>
      show (match g d1 d2 with
        | some r => R.ok r ρ
        | none => .no) = retO (g d1 d2) ρ
      cases g d1 d2 <;> rfl
theorem e_bin : eBin g m1 m2 (a :: r) = (m1 (a :: r)).bnd fun v1 ρ1 => (stow v1 ρ1).bnd fun v1 ρ1 => (m2 ρ1).bnd fun v2 ρ2 => binO g ρ2 (rd ρ2 v1) (rd ρ2 v2) := by
  unfold eBin two
  congr
  funext v1 ρ1
  congr
  funext v1 ρ1
  congr
  funext v2 ρ2
  exact binO_eq
theorem e_tb : eTB m (a :: r) = (m (a :: r)).bnd tbO := by
  unfold eTB
  congr
  funext v ρ
  cases v with
  | dat d => cases d <;> rfl
  | _ => rfl
theorem e_tru : eTru m (a :: r) = (m (a :: r)).bnd fun v ρ => truO (truV ρ v) ρ := by
  unfold eTru
  congr
  funext v ρ
  cases truV ρ v <;> rfl
theorem ite_b {γ : Type} {b : Bool} {x y : γ} : (if b = true then x else y) = (match b with | true => x | false => y) := by cases b <;> rfl
theorem e_and : andB p1 p2 (a :: r) = (p1 (a :: r)).bnd (andO p2) := by
  unfold andB
  congr
  funext b ρ
  cases b <;> rfl
theorem e_or : orB p1 p2 (a :: r) = (p1 (a :: r)).bnd (orO p2) := by
  unfold orB
  congr
  funext b ρ
  cases b <;> rfl
theorem e_not : notB p (a :: r) = (p (a :: r)).bnd fun b ρ => .ok (!b) ρ := rfl
theorem e_if : eIf p m1 m2 (a :: r) = (p (a :: r)).bnd (ifO m1 m2) := by
  unfold eIf
  congr
  funext b ρ
  cases b <;> rfl
theorem s_if : sIf p s1 s2 (a :: r) = (p (a :: r)).bnd (ifO s1 s2) := by
  unfold sIf
  congr
  funext b ρ
  cases b <;> rfl
theorem e_andV : eAnd m1 m2 (a :: r) = (m1 (a :: r)).bnd fun v ρ => andV m2 v (truV ρ v) ρ := by
  unfold eAnd
  congr
  funext v ρ
  cases h : truV ρ v with
  | none => rfl
  | some b => cases b <;> rfl
theorem e_orV : eOr m1 m2 (a :: r) = (m1 (a :: r)).bnd fun v ρ => orV m2 v (truV ρ v) ρ := by
  unfold eOr
  congr
  funext v ρ
  cases h : truV ρ v with
  | none => rfl
  | some b => cases b <;> rfl
theorem e_notV : eNot m (a :: r) = (m (a :: r)).bnd fun v ρ => notV (truV ρ v) ρ := by
  unfold eNot
  congr
  funext v ρ
  cases truV ρ v <;> rfl
theorem e_args : eArgs (m :: ms) (a :: r) = (m (a :: r)).bnd fun v ρ => (stow v ρ).bnd fun v ρ => (eArgs ms ρ).bnd fun vs ρ => .ok (v :: vs) ρ := rfl
theorem e_set : settle (.bor i) (a :: r) = setO i (gt (a :: r) i) (a :: r) := by
  show settleS i (a :: r) = _
  unfold settleS
  cases gt (a :: r) i with
  | cel b c => cases b <;> cases c <;> rfl
  | _ => rfl
theorem e_setA : settleAll (v :: vs) (a :: r) = (settle v (a :: r)).bnd fun d ρ => (settleAll vs ρ).bnd fun ds ρ => .ok (d :: ds) ρ := rfl
theorem e_rdA : rdAll ρ (v :: vs) = consO (rd ρ v) (rdAll ρ vs) := by
  conv => lhs; unfold rdAll
  cases rd ρ v with
  | none => rfl
  | some d => cases rdAll ρ vs <;> rfl
theorem e_tup : eTup ms (a :: r) = (eArgs ms (a :: r)).bnd fun vs ρ => (settleAll vs ρ).bnd tupO := rfl
theorem e_lst : eLst ms (a :: r) = (eArgs ms (a :: r)).bnd fun vs ρ => (settleAll vs ρ).bnd lstO := rfl
theorem tupO_ok (h : ds.length ≤ sizeLine) : tupO ds ρ = .ok (.dat (.tuple ds)) ρ := if_pos h
theorem lstO_ok (h : ds.length ≤ sizeLine) : lstO ds ρ = .ok (.cel (.lst ds)) ρ := if_pos h
theorem e_prim : ePrim gn ms (a :: r) = (eArgs ms (a :: r)).bnd fun vs ρ => primO gn (rdAll ρ vs) ρ := by
  unfold ePrim
  congr
  funext vs ρ
  cases rdAll ρ vs with
  | none => rfl
  | some ds =>
    show (match gn ds with
      | some r => R.ok r ρ
      | none => .no) = retO (gn ds) ρ
    cases gn ds <;> rfl
theorem s_seq : seqS s1 s2 (a :: r) = nxt s2 (s1 (a :: r)) := by
  unfold seqS nxt
  rfl
theorem s_set : sSet i m (a :: r) = (m (a :: r)).bnd fun v ρ => putV i v ρ := rfl
theorem putV_eq : putV i v (a :: r) = putO i v (gt (a :: r) i) (a :: r) := by
  unfold putV locked putO
  cases gt (a :: r) i with
  | cel b c => cases b <;> rfl
  | _ => rfl
theorem s_put {g3 : PW3} : sPut g3 i mk mv (a :: r) = (mv (a :: r)).bnd fun v ρ => (settle v ρ).bnd fun d ρ => celQ (fun ρ => (mk ρ).bnd fun kv ρ => setsO g3 i d (gt ρ i) (rd ρ kv) ρ) (gt ρ i) ρ := by
  unfold sPut
  congr
  funext v ρ
  congr
  funext d ρ
  cases gt ρ i with
  | cel b c =>
    show ((mk ρ).bnd fun kv ρ => _) = ((mk ρ).bnd fun kv ρ => setsO g3 i d (gt ρ i) (rd ρ kv) ρ)
    congr
    funext kv ρ
    cases rd ρ kv with
    | none => cases gt ρ i <;> rfl
    | some dk =>
      cases h : gt ρ i with
      | cel b c =>
        show (match g3 c dk d with
          | some c' => R.ok Fl.nx (pt ρ i (.cel b c'))
          | none => .no) = storeO i (.cel b c) (g3 c dk d) ρ
        cases g3 c dk d <;> rfl
      | _ => rfl
  | _ => rfl
theorem s_aug : sAug g i m (a :: r) = augS g i m (gt (a :: r) i) (a :: r) := by
  unfold sAug augS
  cases gt (a :: r) i with
  | dat d =>
    show ((m (a :: r)).bnd fun v ρ => _) = ((m (a :: r)).bnd fun v ρ => augO g i d (rd ρ v) ρ)
    congr
    funext v ρ
    cases rd ρ v <;> rfl
  | _ => rfl
theorem e_call {f : M Val} {dds : List Dat} : eCall f dds ms (a :: r) = (eArgs ms (a :: r)).bnd fun vs ρ => callQ vs f dds (rdAll ρ vs) ρ := by
  rw [eCall_eq]
  congr
  funext vs ρ
  cases rdAll ρ vs <;> rfl
theorem e_callR {f : M Val} {dds : List Dat} : eCallR f dds i ms (a :: r) = refK (fun ρ => (eArgs ms ρ).bnd fun vs ρ => (settleAll vs ρ).bnd fun ds ρ => refQ i f dds ds (gt ρ i) ρ) (gt (a :: r) i) (a :: r) := by
  rw [eCallR_eq]
  cases h : gt (a :: r) i with
  | cel b c =>
    show ((eArgs ms (a :: r)).bnd _) = ((eArgs ms (a :: r)).bnd _)
    congr
    funext vs ρ
    congr
    funext ds ρ
    cases gt ρ i <;> rfl
  | _ => rfl
theorem e_callS : eCallS m i (a :: r) = sclO m (gt (a :: r) i) (a :: r) := by
  rw [eCallS_eq]
  cases gt (a :: r) i <;> rfl
theorem refO_d {c' : Cel} : refO i (.v (Val.dat d), some c') ρ = backO i (.dat d) c' (gt ρ i) ρ := by
  show (match gt ρ i with
    | .cel b _ => R.ok (Val.dat d) (pt ρ i (.cel b c'))
    | _ => .no) = _
  cases gt ρ i <;> rfl
theorem refO_c {c c' : Cel} : refO i (.v (Val.cel c), some c') ρ = backO i (.cel c) c' (gt ρ i) ρ := by
  show (match gt ρ i with
    | .cel b _ => R.ok (Val.cel c) (pt ρ i (.cel b c'))
    | _ => .no) = _
  cases gt ρ i <;> rfl
theorem e_isi {T : String} : eIsi T m (a :: r) = (m (a :: r)).bnd fun v ρ => (stow v ρ).bnd fun v ρ => isiO T (rd ρ v) ρ := by
  unfold eIsi
  congr
  funext v ρ
  congr
  funext v ρ
  cases rd ρ v with
  | none => rfl
  | some d =>
    show (match kitB (tyN d) T with
      | some b => R.ok (.dat (.bool b)) ρ
      | none => .no) = retO ((kitB (tyN d) T).map fun b => .dat (.bool b)) ρ
    cases kitB (tyN d) T <;> rfl
theorem e_cut {lo hi : Option (M Val)} : eCut m lo hi (a :: r) = (m (a :: r)).bnd fun v ρ => (stow v ρ).bnd fun v ρ => (ePart lo ρ).bnd fun l ρ => (ePart hi ρ).bnd fun h ρ => cutO l h (rd ρ v) ρ := by
  unfold eCut
  congr
  funext v ρ
  congr
  funext v ρ
  congr
  funext l ρ
  congr
  funext h ρ
  cases rd ρ v with
  | none => rfl
  | some d =>
    show (match gCut d l h with
      | some r => R.ok r ρ
      | none => .no) = retO (gCut d l h) ρ
    cases gCut d l h <;> rfl
theorem e_part : ePart (some m) (a :: r) = (m (a :: r)).bnd partO := by
  show ((m (a :: r)).bnd _) = _
  congr
  funext v ρ
  cases v with
  | dat d => cases d <;> rfl
  | _ => rfl
theorem e_neg : eNeg m (a :: r) = (m (a :: r)).bnd negO := by
  unfold eNeg
  congr
  funext v ρ
  cases v with
  | dat d => cases d <;> rfl
  | _ => rfl
theorem e_rev : eRev m (a :: r) = (m (a :: r)).bnd fun v ρ => revO (rd ρ v) ρ := by
  unfold eRev
  congr
  funext v ρ
  cases rd ρ v with
  | none => rfl
  | some d => cases d <;> rfl
end
end Dl
namespace Dl
open PySem PySem.Spec PyProof.Rows L2
/-! ### statements, comprehensions, loops -/
def expO : MS := fun ρ => .ok .nx ρ
def unpO (b : Tg) (d : Dat) : MS := fun ρ => match b.bind d ρ with
  | some ρ => .ok .nx ρ
  | none => .no
def bindF (b : Tg) (d : Dat) (ρ : En) (body k : MS) : R Fl := match b.bind d ρ with
  | some ρ1 => turnS (body ρ1) k
  | none => .no
section
variable {a : Slot} {r ρ : En} {i j : Nat} {m m1 m2 m3 mk mv : M Val} {ms : List (M Val)} {p p1 p2 : M Bool} {s s1 s2 : MS} {v : Val} {vs : List Val} {d : Dat} {ds : List Dat} {b : Tg} {mi : M (List Dat)}
theorem s_expr : sExpr m (a :: r) = (m (a :: r)).bnd fun _ ρ => .ok .nx ρ := rfl
theorem s_ret : sRet m (a :: r) = (m (a :: r)).bnd fun v ρ => .ok (.rt v) ρ := rfl
theorem s_unp : sUnp b m (a :: r) = (m (a :: r)).bnd fun v ρ => (settle v ρ).bnd (unpO b) := rfl
theorem s_par : sPar2 i j m1 m2 (a :: r) = (eArgs [m1, m2] (a :: r)).bnd fun vs ρ => (settleAll vs ρ).bnd fun ds ρ => par2 i j ds ρ := rfl
theorem s_for : sFor mi b s (a :: r) = (mi (a :: r)).bnd fun ds ρ => forD b s ds ρ := rfl
theorem for_nil : forD b s [] ρ = .ok .nx ρ := rfl
theorem for_cons : forD b s (d :: ds) ρ = bindF b d ρ s (forD b s ds) := rfl
theorem e_mut {T : String} {g : PM} : eMut T g i ms (a :: r) = mutQ T (fun ρ => (eArgs ms ρ).bnd fun vs ρ => (settleAll vs ρ).bnd fun ds ρ => mutO g i ds (gt ρ i) ρ) (gt (a :: r) i) (a :: r) := by
  unfold eMut
  cases h : gt (a :: r) i with
  | cel b c =>
    show (if celT c = T then ((eArgs ms (a :: r)).bnd _) else .no) = mutT _ (decide (celT c = T)) (a :: r)
    by_cases q : celT c = T
    · rw [if_pos q, decide_eq_true q]
      show ((eArgs ms (a :: r)).bnd _) = ((eArgs ms (a :: r)).bnd _)
      congr
      funext vs ρ
      congr
      funext ds ρ
      cases h2 : gt ρ i with
      | cel b2 c2 =>
        show (match g c2 ds with
          | some (c', d) => R.ok (Val.dat d) (pt ρ i (.cel b2 c'))
          | none => .no) = mutR i b2 (g c2 ds) ρ
        cases g c2 ds <;> rfl
      | _ => rfl
    · rw [if_neg q, decide_eq_false q]
      rfl
  | _ => rfl
theorem e_meth {T : String} {g : Dat → PN} : eMeth T g m ms (a :: r) = (m (a :: r)).bnd fun v ρ => (stow v ρ).bnd fun v ρ => methQ T (fun ρ => (eArgs ms ρ).bnd fun vs ρ => methO ρ g (rd ρ v) (rdAll ρ vs)) (rd ρ v) ρ := by
  unfold eMeth
  congr
  funext v ρ
  congr
  funext v ρ
  cases h : rd ρ v with
  | none => rfl
  | some d =>
    show (if tyD T d = true then ((eArgs ms ρ).bnd _) else .no) = methT _ (tyD T d) ρ
    cases q : tyD T d with
    | false => rfl
    | true =>
      rw [if_pos rfl]
      show ((eArgs ms ρ).bnd _) = ((eArgs ms ρ).bnd _)
      congr
      funext vs ρ
      cases rd ρ v with
      | none => rfl
      | some d =>
        cases rdAll ρ vs with
        | none => rfl
        | some ds =>
          show (match g d ds with
            | some r => R.ok r ρ
            | none => .no) = retO (g d ds) ρ
          cases g d ds <;> rfl
end
/-! items by literal places -/
theorem at0 {α : Type} {x0 : α} {r : List α} : atI (x0 :: r) 0 = some x0 := by
  unfold atI ixN; rw [if_pos (by decide), if_pos (by simp)]; rfl
theorem atI_nat {α : Type} {xs : List α} {n : Nat} : atI xs (n : Int) = xs[n]? := by
  unfold atI ixN
  rw [if_pos (by omega)]
  by_cases h : n < xs.length
  · rw [if_pos (by omega)]
    simp
  · rw [if_neg (by omega), List.getElem?_eq_none (by omega)]
    rfl
theorem at1 {α : Type} {x0 x1 : α} {r : List α} : atI (x0 :: x1 :: r) 1 = some x1 := atI_nat (n := 1)
theorem at2 {α : Type} {x0 x1 x2 : α} {r : List α} : atI (x0 :: x1 :: x2 :: r) 2 = some x2 := atI_nat (n := 2)
theorem at3 {α : Type} {x0 x1 x2 x3 : α} {r : List α} : atI (x0 :: x1 :: x2 :: x3 :: r) 3 = some x3 := atI_nat (n := 3)
theorem at4 {α : Type} {x0 x1 x2 x3 x4 : α} {r : List α} : atI (x0 :: x1 :: x2 :: x3 :: x4 :: r) 4 = some x4 := atI_nat (n := 4)
theorem at5 {α : Type} {x0 x1 x2 x3 x4 x5 : α} {r : List α} : atI (x0 :: x1 :: x2 :: x3 :: x4 :: x5 :: r) 5 = some x5 := atI_nat (n := 5)
theorem at6 {α : Type} {x0 x1 x2 x3 x4 x5 x6 : α} {r : List α} : atI (x0 :: x1 :: x2 :: x3 :: x4 :: x5 :: x6 :: r) 6 = some x6 := atI_nat (n := 6)
theorem at7 {α : Type} {x0 x1 x2 x3 x4 x5 x6 x7 : α} {r : List α} : atI (x0 :: x1 :: x2 :: x3 :: x4 :: x5 :: x6 :: x7 :: r) 7 = some x7 := atI_nat (n := 7)
theorem ix0 {n : Nat} (h : 0 < n) : ixN n 0 = some 0 := by unfold ixN; rw [if_pos (by decide), if_pos (by omega)]; rfl
theorem ixK {n k : Nat} (h : k < n) : ixN n (k : Int) = some k := by unfold ixN; rw [if_pos (by omega), if_pos (by omega)]; rfl
theorem eq_int {x y : Int} : gEq (.int x) (.int y) = some (.dat (.bool (decide (x = y)))) := by
  show some (Val.dat (.bool (PyData.eqv (.int x) (.int y)))) = _
  simp only [PyData.eqv]
  congr
theorem eq_str {x y : Str} : gEq (.str x) (.str y) = some (.dat (.bool (x == y))) := by
  show some (Val.dat (.bool (PyData.eqv (.str x) (.str y)))) = _
  simp only [PyData.eqv]
theorem ne_int {x y : Int} : gNe (.int x) (.int y) = some (.dat (.bool (!decide (x = y)))) := by
  show some (Val.dat (.bool (!PyData.eqv (.int x) (.int y)))) = _
  simp only [PyData.eqv]
  congr
theorem ne_str {x y : Str} : gNe (.str x) (.str y) = some (.dat (.bool (!(x == y)))) := by
  show some (Val.dat (.bool (!PyData.eqv (.str x) (.str y)))) = _
  simp only [PyData.eqv]
theorem mod_int {x y : Int} (h : 0 < y) : gMod (.int x) (.int y) = some (.dat (.int (x % y))) := if_pos h
theorem div_int {x y : Int} (h : 0 < y) (h2 : y.natAbs.log2 < 9000) : gDiv (.int x) (.int y) = some (.dat (.int (x / y))) := if_pos ⟨h, h2⟩
theorem mul_int {x y : Int} (h : mulOk x y = true) : gMul (.int x) (.int y) = some (.dat (.int (x * y))) := if_pos h
end Dl
namespace Dl
open PySem PySem.Spec PyProof.Rows L2
section
variable {α β : Type} {x : α} {f : α → En → R β} {ex : Exn} {a : Slot} {r ρ : En} {i j : Nat} {m m1 m2 : M Val} {p2 : M Bool} {s2 k : MS} {α1 : Type} {k1 k2 : M α1} {kv : M Val} {g : P2} {gn : PN} {gm : PM} {g3 : PW3} {gd : Dat → PN} {v : Val} {vs : List Val} {d d1 d2 dk : Dat} {ds dds : List Dat} {b : Bool} {c c' : Cel} {T : String} {n : Int} {ns : List Int} {fm : M Val} {bt : Tg} {o : Option Cel}
theorem x1 : R.bnd (.ok x ρ) f = f x ρ := rfl
theorem x2 : R.bnd (.ex ex ρ : R α) f = .ex ex ρ := rfl
theorem x3 : R.bnd (.no : R α) f = .no := rfl
theorem x4 : gt (a :: r) 0 = a := rfl
theorem x5 : gt (a :: r) (i + 1) = gt r i := rfl
theorem x6 {z : Slot} : pt (a :: r) 0 z = z :: r := rfl
theorem x7 {z : Slot} : pt (a :: r) (i + 1) z = a :: pt r i z := rfl
theorem x8 : varO i (.dat d) ρ = .ok (.dat d) ρ := rfl
theorem x9 : varO i (.cel b c) ρ = .ok (.bor i) ρ := rfl
theorem x10 : eC d ρ = .ok (.dat d) ρ := rfl
theorem x11 : stow (.dat d) ρ = .ok (.dat d) ρ := rfl
theorem x12 : stow (.cel (.lst ds)) ρ = .ok (.dat (.list ds)) ρ := rfl
theorem x13 : stow (.bor i) ρ = .ok (.bor i) ρ := rfl
theorem x14 : rd ρ (.dat d) = some d := rfl
theorem x15 : rd ρ (.cel (.lst ds)) = some (.list ds) := rfl
theorem x16 : rd (a :: r) (.bor i) = rdS (gt (a :: r) i) := rfl
theorem x17 : rdS (.dat d) = some d := rfl
theorem x18 : rdS (.cel b (.lst ds)) = some (.list ds) := rfl
theorem x19 : binO g ρ (some d1) (some d2) = retO (g d1 d2) ρ := rfl
theorem x20 : retO (some v) ρ = .ok v ρ := rfl
theorem x21 : tbO (.dat (.bool b)) ρ = .ok b ρ := rfl
theorem x22 : truO (some b) ρ = .ok b ρ := rfl
theorem x23 : truV ρ (.dat d) = tru d := rfl
theorem x24 : truV (a :: r) (.bor i) = truS (gt (a :: r) i) := rfl
theorem x25 : truV ρ (.cel (.lst ds)) = some (!ds.isEmpty) := rfl
theorem x26 : truS (.dat d) = tru d := rfl
theorem x27 : truS (.cel b (.lst ds)) = some (!ds.isEmpty) := by cases b <;> rfl
theorem x28 : tru .none = some false := rfl
theorem x29 : tru (.bool b) = some b := rfl
theorem x30 : tru (.int n) = some (n != 0) := rfl
theorem x31 : tru (.list ds) = some (!ds.isEmpty) := rfl
theorem x32 : tru (.tuple ds) = some (!ds.isEmpty) := rfl
theorem x33 : andO p2 true ρ = p2 ρ := rfl
theorem x34 : andO p2 false ρ = .ok false ρ := rfl
theorem x35 : orO p2 true ρ = .ok true ρ := rfl
theorem x36 : orO p2 false ρ = p2 ρ := rfl
theorem x37 : ifO k1 k2 true ρ = k1 ρ := rfl
theorem x38 : ifO k1 k2 false ρ = k2 ρ := rfl
theorem x39 : andV m2 v (some true) ρ = m2 ρ := rfl
theorem x40 : andV m2 v (some false) ρ = .ok v ρ := rfl
theorem x41 : orV m2 v (some true) ρ = .ok v ρ := rfl
theorem x42 : orV m2 v (some false) ρ = m2 ρ := rfl
theorem x43 : notV (some b) ρ = .ok (.dat (.bool (!b))) ρ := rfl
theorem x44 : eArgs [] ρ = .ok [] ρ := rfl
theorem x45 : settle (.dat d) ρ = .ok d ρ := rfl
theorem x46 : settle (.cel (.lst ds)) ρ = .ok (.list ds) ρ := rfl
theorem x47 : setO i (.dat d) ρ = .ok d ρ := rfl
theorem x48 : setO i (.cel false (.lst ds)) ρ = .ok (.list ds) (pt ρ i (.dat (.list ds))) := rfl
theorem x49 : settleAll [] ρ = .ok [] ρ := rfl
theorem x50 : rdAll ρ [] = some [] := rfl
theorem x51 : consO (some d) (some ds) = some (d :: ds) := rfl
theorem x52 : primO gn (some ds) ρ = retO (gn ds) ρ := rfl
theorem x53 : nxt s2 (.ok .nx ρ) = s2 ρ := rfl
theorem x54 : nxt s2 (.ok (.rt v) ρ) = .ok (.rt v) ρ := rfl
theorem x55 : nxt s2 (.ok .bk ρ) = .ok .bk ρ := rfl
theorem x56 : nxt s2 (.ok .ct ρ) = .ok .ct ρ := rfl
theorem x57 : nxt s2 (.ex ex ρ) = .ex ex ρ := rfl
def putW (i : Nat) : Val → MS
  | .dat d, ρ => .ok .nx (pt ρ i (.dat d))
  | .cel c, ρ => .ok .nx (pt ρ i (.cel false c))
  | .bor j, ρ => (settleS j ρ).bnd fun d ρ => if locked ρ i = true then .no else .ok .nx (pt ρ i (.dat d))
theorem x58 : putO i v .un ρ = putW i v ρ := by cases v <;> rfl
theorem x59 : putO i v (.dat d) ρ = putW i v ρ := by cases v <;> rfl
theorem x60 : putO i v (.cel false c) ρ = putW i v ρ := by cases v <;> rfl
theorem x61 : putW i (.dat d) ρ = .ok .nx (pt ρ i (.dat d)) := rfl
theorem x62 : putW i (.cel c) ρ = .ok .nx (pt ρ i (.cel false c)) := rfl
theorem x63 : celQ k (.cel b c) ρ = k ρ := rfl
theorem x64 : setsO g3 i d (.cel b c) (some dk) ρ = storeO i (.cel b c) (g3 c dk d) ρ := rfl
theorem x65 : storeO i (.cel b c) (some c') ρ = .ok .nx (pt ρ i (.cel b c')) := rfl
theorem x66 : augS g i m (.dat d) ρ = (m ρ).bnd fun v ρ => augO g i d (rd ρ v) ρ := rfl
def augR (i : Nat) : Option Val → MS
  | some r, ρ => putV i r ρ
  | none, _ => .no
theorem x67 : augO g i d (some d2) ρ = augR i (g d d2) ρ := by
  show (match g d d2 with
    | some r => putV i r ρ
    | none => .no) = _
  cases g d d2 <;> rfl
theorem x68 : augR i (some v) ρ = putV i v ρ := rfl
theorem x69 : callQ vs fm dds (some ds) ρ = callO vs (out (fm ((ds ++ dds).map .dat))) ρ := rfl
theorem x70 (h : flat d = true) : callO vs (.v (.dat d)) ρ = .ok (.dat d) ρ := if_pos h
theorem x71 (h : flat d = false) : callO vs (.v (.dat d)) ρ = (settleAll vs ρ).bnd fun _ ρ => .ok (.dat d) ρ := if_neg (by rw [h]; decide)
theorem x72 : callO vs (.v (.cel c)) ρ = (settleAll vs ρ).bnd fun _ ρ => .ok (.cel c) ρ := rfl
theorem x73 : refK m (.cel b c) ρ = m ρ := rfl
theorem x74 : refQ i fm dds ds (.cel b c) ρ = refO i (outR (fm (.cel true c :: (ds ++ dds).map .dat))) ρ := rfl
theorem x75 : backO i v c' (.cel b c) ρ = .ok v (pt ρ i (.cel b c')) := rfl
theorem x76 : sclO m (.scr ns) ρ = scrO (out (m [.scr ns])) ρ := rfl
theorem x77 : scrO (.v (.dat d)) ρ = .ok (.dat d) ρ := rfl
theorem x78 : scrO (.v (.cel c)) ρ = .ok (.cel c) ρ := rfl
theorem x79 : isiO T (some d) ρ = retO ((kitB (tyN d) T).map fun b => .dat (.bool b)) ρ := rfl
theorem x80 : ePart none ρ = .ok none ρ := rfl
theorem x81 : partO (.dat (.int n)) ρ = .ok (some n) ρ := rfl
theorem x82 {l h : Option Int} : cutO l h (some d) ρ = retO (gCut d l h) ρ := rfl
theorem x83 : negO (.dat (.int n)) ρ = .ok (.dat (.int (-n))) ρ := rfl
theorem x84 : revO (some (.list ds)) ρ = .ok (.cel (.lst ds.reverse)) ρ := rfl
theorem x85 : mutQ T kv (.cel b (.lst ds)) ρ = mutT kv (decide ("list" = T)) ρ := rfl
theorem x86 : mutT kv true ρ = kv ρ := rfl
theorem x87 : mutO gm i ds (.cel b c) ρ = mutR i b (gm c ds) ρ := rfl
theorem x88 : mutR i b (some (c', d)) ρ = .ok (.dat d) (pt ρ i (.cel b c')) := rfl
theorem x89 : methQ T kv (some d) ρ = methT kv (tyD T d) ρ := rfl
theorem x90 : methT kv true ρ = kv ρ := rfl
theorem x91 : methO ρ gd (some d) (some ds) = retO (gd d ds) ρ := rfl
theorem x92 : sNil ρ = .ok .nx ρ := rfl
theorem x93 : endF (.ok .nx ρ) = .ok (.dat .none) ρ := rfl
theorem x94 : endF (.ok (.rt (.dat d)) ρ) = .ok (.dat d) ρ := rfl
theorem x95 : endF (.ok (.rt (.cel c)) ρ) = .ok (.cel c) ρ := rfl
def borF (i : Nat) : Slot → M Val
  | .cel false c, ρ => .ok (.cel c) (pt ρ i .un)
  | .dat d, ρ => .ok (.dat d) ρ
  | _, _ => .no
theorem x96 : endF (.ok (.rt (.bor i)) ρ) = borF i (gt ρ i) ρ := by
  show (match gt ρ i with
    | .cel false c => R.ok (Val.cel c) (pt ρ i .un)
    | .dat d => .ok (.dat d) ρ
    | _ => .no) = _
  cases gt ρ i with
  | cel b c => cases b <;> rfl
  | _ => rfl
theorem x97 : borF i (.cel false c) ρ = .ok (.cel c) (pt ρ i .un) := rfl
theorem x98 : borF i (.dat d) ρ = .ok (.dat d) ρ := rfl
theorem x99 : endF (.ex ex ρ) = .ex ex ρ := rfl
theorem x100 : out (.ok v ρ) = .v v := rfl
theorem x101 : out (.ex ex ρ) = .e ex := rfl
def celO : Slot → Option Cel
  | .cel _ c => some c
  | _ => none
theorem x102 : outR (.ok v ρ) = (.v v, celO (gt ρ 0)) := by
  show (O.v v, match gt ρ 0 with | .cel _ c => some c | _ => none) = _
  cases gt ρ 0 <;> rfl
theorem x103 : celO (.cel b c) = some c := rfl
theorem x104 : sRetN ρ = .ok (.rt (.dat .none)) ρ := rfl
theorem x105 : locked (.dat d :: r) 0 = false := rfl
def parO (i j : Nat) (d1 d2 : Dat) : Bool → MS
  | false, ρ => .ok .nx (pt (pt ρ i (.dat d1)) j (.dat d2))
  | true, _ => .no
def lkS : Slot → Bool
  | .cel true _ => true
  | _ => false
theorem lk_eq : locked ρ i = lkS (gt ρ i) := by
  unfold locked lkS
  cases gt ρ i with
  | cel b c => cases b <;> rfl
  | _ => rfl
theorem x106 : lkS (.dat d) = false := rfl
theorem x107 : lkS .un = false := rfl
theorem x108 : lkS (.cel false c) = false := rfl
theorem x109 : par2 i j [d1, d2] ρ = parO i j d1 d2 (lkS (gt ρ i) || lkS (gt (pt ρ i (.dat d1)) j)) ρ := by
  show (if locked ρ i = true then R.no else if locked (pt ρ i (.dat d1)) j = true then .no else .ok Fl.nx (pt (pt ρ i (.dat d1)) j (.dat d2))) = _
  rw [lk_eq, lk_eq]
  cases lkS (gt ρ i) <;> cases lkS (gt (pt ρ i (.dat d1)) j) <;> rfl
theorem x110 : parO i j d1 d2 false ρ = .ok .nx (pt (pt ρ i (.dat d1)) j (.dat d2)) := rfl
theorem x111 : flat (.int n) = true := rfl
theorem x112 : flat (.bool b) = true := rfl
theorem x113 {z : Str} : flat (.str z) = true := rfl
theorem x114 : flat .none = true := rfl
theorem x115 : flat (.list ds) = false := rfl
theorem x116 : flat (.tuple ds) = false := rfl
theorem y1 {ds : List Dat} {n : Int} : gIx (.list ds) (.int n) = (atI ds n).map .dat := rfl
theorem y2 {ds : List Dat} {n : Int} : gIx (.tuple ds) (.int n) = (atI ds n).map .dat := rfl
theorem y3 {x y : Int} : gAdd (.int x) (.int y) = some (.dat (.int (x + y))) := rfl
theorem y4 {x y : Int} : Dl.gSub (.int x) (.int y) = some (.dat (.int (x - y))) := rfl
theorem y5 {x y : Int} : gLt (.int x) (.int y) = some (.dat (.bool (decide (x < y)))) := rfl
theorem y6 {x y : Int} : gLe (.int x) (.int y) = some (.dat (.bool (decide (x ≤ y)))) := rfl
theorem y7 {x y : Int} : gGt (.int x) (.int y) = some (.dat (.bool (decide (x > y)))) := rfl
theorem y8 {x y : Int} : gGe (.int x) (.int y) = some (.dat (.bool (decide (x ≥ y)))) := rfl
theorem y9 {x : Int} : gInt [.int x] = some (.dat (.int x)) := rfl
theorem y10 {b : Bool} : gInt [.bool b] = some (.dat (.int (if b then 1 else 0))) := rfl
theorem y11 {x : Int} : gAbs [.int x] = some (.dat (.int (if x < 0 then -x else x))) := rfl
theorem y12 {ds : List Dat} : gLen [.list ds] = some (.dat (.int ds.length)) := rfl
theorem y13 {ds : List Dat} : gLen [.tuple ds] = some (.dat (.int ds.length)) := rfl
theorem y14 {x : Str} (h : x.length ≤ sizeLine) : gLen [.str x] = some (.dat (.int x.length)) := if_pos h
def setN (xs : List Dat) (d : Dat) : Option Nat → Option Cel
  | some j => some (.lst (xs.set j d))
  | none => none
theorem y15 {xs : List Dat} {k : Int} {d : Dat} : gSetL (.lst xs) (.int k) d = setN xs d (ixN xs.length k) := by
  show (match ixN xs.length k with
    | some j => some (Cel.lst (xs.set j d))
    | none => none) = _
  cases ixN xs.length k <;> rfl
theorem y16 {xs : List Dat} {j : Nat} {d : Dat} : setN xs d (some j) = some (.lst (xs.set j d)) := rfl
theorem y17 {x : Str} {y : Str} (h : x.length + y.length ≤ sizeLine) : gAdd (.str x) (.str y) = some (.dat (.str (x ++ y))) := if_pos h
theorem y18 {xs ys : List Dat} (h : xs.length + ys.length ≤ sizeLine) : gAdd (.list xs) (.list ys) = some (.cel (.lst (xs ++ ys))) := if_pos h
theorem y19 {xs : List Dat} {d : Dat} (h : xs.length < sizeLine) : gAppend (.lst xs) [d] = some (.lst (xs ++ [d]), .none) := if_pos h
theorem y20 {xs ds : List Dat} (h : xs.length + ds.length ≤ sizeLine) : gExtend (.lst xs) [.list ds] = some (.lst (xs ++ ds), .none) := if_pos h
theorem y21 {d : Dat} (h : reprOk d = true) : gRepr [d] = some (.dat (.str d.shown)) := if_pos h
theorem y22 {ns : List Int} {r : En} : iScr 0 (.scr ns :: r) = .ok (ns.map .int) (.scr ns :: r) := rfl
theorem y23 {ns : List Int} {r : En} : eLsc 0 (.scr ns :: r) = .ok (.cel (.lst (ns.map .int))) (.scr ns :: r) := rfl
end
end Dl
namespace Dl
theorem z0 {n : Nat} : L2.ixN (n + 1) 0 = some 0 := ix0 (Nat.succ_pos n)
theorem z1 {n : Nat} : L2.ixN (n + 1 + 1) 1 = some 1 := ixK (k := 1) (by omega)
theorem z2 {n : Nat} : L2.ixN (n + 1 + 1 + 1) 2 = some 2 := ixK (k := 2) (by omega)
theorem z3 {n : Nat} : L2.ixN (n + 1 + 1 + 1 + 1) 3 = some 3 := ixK (k := 3) (by omega)
theorem z4 {n : Nat} : L2.ixN (n + 1 + 1 + 1 + 1 + 1) 4 = some 4 := ixK (k := 4) (by omega)

/-! ### the deck -/
open PySem
def deckC (a b c e : Int) (ns : List Int) : Cel := .lst [.int a, .int b, .int c, .list (ns.map .int), .int e]
/-- what the draws keep: t draws at most so far -/
structure Deck (t : Nat) (D : Cel) : Prop where
  ex : ∃ a b c e ns, D = deckC a b c e ns ∧ 0 ≤ b ∧ 0 ≤ c ∧ c < 2147483647 ∧ 0 ≤ e ∧ e ≤ t
/-- a draw: f draws below its bound -/
def Draws (f : M Val) : Prop := ∀ (t : Nat) (D : Cel) (n : Int), Deck t D → t < 2 ^ 60 → 0 < n → n < 2 ^ 60 → ∃ (v : Int) (D' : Cel), outR (f [.cel true D, .dat (.int n)]) = (.v (.dat (.int v)), some D') ∧ 0 ≤ v ∧ v < n ∧ Deck (t + 1) D'
theorem log_lt {i : Int} {k : Nat} (h : i.natAbs < 2 ^ k) (h2 : k < 9000) : i.natAbs.log2 < 9000 := by
  by_cases h0 : i.natAbs = 0
  · rw [h0]; decide
  · have := (Nat.log2_lt h0).mpr h
    omega
theorem mulOk_of {i j : Int} {k l : Nat} (h : i.natAbs < 2 ^ k) (h2 : j.natAbs < 2 ^ l) (h3 : k + l < 1000000) : mulOk i j = true := by
  unfold mulOk
  have a : i.natAbs.log2 ≤ k := by
    by_cases h0 : i.natAbs = 0
    · rw [h0]; exact Nat.zero_le _
    · exact Nat.le_of_lt ((Nat.log2_lt h0).mpr h)
  have b : j.natAbs.log2 ≤ l := by
    by_cases h0 : j.natAbs = 0
    · rw [h0]; exact Nat.zero_le _
    · exact Nat.le_of_lt ((Nat.log2_lt h0).mpr h2)
  exact decide_eq_true (by omega)
end Dl
namespace Dl
open PySem
theorem mul_small {x y : Int} (hx : x.natAbs < 2 ^ 70) (hy : y.natAbs < 2 ^ 70) : gMul (.int x) (.int y) = some (.dat (.int (x * y))) := mul_int (mulOk_of hx hy (by decide))
theorem mod_small {x n : Int} (h0 : 0 < n) (h1 : n < 2 ^ 60) : (x % n).natAbs < 2 ^ 70 := by
  have a := Int.emod_nonneg x (show n ≠ 0 by omega)
  have b := Int.emod_lt_of_pos x h0
  omega
end Dl
end

-- text D21
section
set_option Elab.async false
set_option linter.all false
set_option maxRecDepth 100000
set_option maxHeartbeats 1000000
/-! Dl, part 21: loops and comprehensions, plainly. -/
namespace Dl
open PySem
section
variable {a : Slot} {r ρ ρ1 : En} {b : Tg} {body s : MS} {d y : Dat} {ds acc : List Dat} {mi : M (List Dat)} {tt : M Bool} {me : M Val} {vs : List Nat} {o : Option Dat} {i : Nat} {v : Val}
theorem w1 {k : MS} : turnS (.ok .nx ρ) k = k ρ := rfl
theorem w2 {k : MS} : turnS (.ok .ct ρ) k = k ρ := rfl
theorem w3 {k : MS} : turnS (.ok .bk ρ) k = .ok .nx ρ := rfl
theorem w4 {k : MS} : turnS (.ok (.rt v) ρ) k = .ok (.rt v) ρ := rfl
theorem for_ind (P : Nat → En → Prop) (step : ∀ i d ρ, ds[i]? = some d → P i ρ → ∃ ρ1 ρ2, b.bind d ρ = some ρ1 ∧ (body ρ1 = .ok .nx ρ2 ∨ body ρ1 = .ok .ct ρ2) ∧ P (i + 1) ρ2) (h : P 0 ρ) : ∃ ρ', forD b body ds ρ = .ok .nx ρ' ∧ P ds.length ρ' := by
  have key : ∀ (es : List Dat) (k : Nat) (ρ : En), (∀ i d ρ, es[i]? = some d → P (k + i) ρ → ∃ ρ1 ρ2, b.bind d ρ = some ρ1 ∧ (body ρ1 = .ok .nx ρ2 ∨ body ρ1 = .ok .ct ρ2) ∧ P (k + i + 1) ρ2) → P k ρ → ∃ ρ', forD b body es ρ = .ok .nx ρ' ∧ P (k + es.length) ρ' := by
    intro es
    induction es with
    | nil => exact fun k ρ _ p => ⟨ρ, rfl, p⟩
    | cons e es ih =>
      intro k ρ st p
      obtain ⟨ρ1, ρ2, e1, e2, p2⟩ := st 0 e ρ (by simp) p
      obtain ⟨ρ', e3, p3⟩ := ih (k + 1) ρ2 (fun i d ρ hd hp => by
        have := st (i + 1) d ρ (by simpa using hd) (by have : k + (i + 1) = k + 1 + i := by omega
                                                       rw [this]; exact hp)
        have e : k + (i + 1) + 1 = k + 1 + i + 1 := by omega
        rw [← e]; exact this) p2
      refine ⟨ρ', ?_, by have : k + (e :: es).length = k + 1 + es.length := by simp; omega
                         rw [this]; exact p3⟩
      unfold forD
      rw [e1]
      show turnS (body ρ1) (forD b body es) = _
      rcases e2 with e2 | e2 <;> rw [e2] <;> exact e3
  have := key ds 0 ρ (fun i d ρ hd hp => by simpa using step i d ρ hd (by simpa using hp)) h
  simpa using this

/-! comprehensions, step by step -/
def lcW (vs : List Nat) (o : Option Dat) : Bool → M (Option Dat)
  | true, ρ => .ok o (wipeD vs ρ)
  | false, _ => .no
def lcE (vs : List Nat) : R Dat → R (Option Dat)
  | .ok y ρ => lcW vs (some y) (ownOk vs ρ) ρ
  | _ => .no
def lcC (vs : List Nat) : R Val → R (Option Dat)
  | .ok v ρ => lcE vs (settle v ρ)
  | _ => .no
def lcB (me : M Val) (vs : List Nat) : R Bool → R (Option Dat)
  | .ok true ρ => lcC vs (me ρ)
  | .ok false ρ => lcW vs none (ownOk vs ρ) ρ
  | _ => .no
def lcA (tt : M Bool) (me : M Val) (vs : List Nat) : Option En → R (Option Dat)
  | some ρ => lcB me vs (tt ρ)
  | none => .no
theorem lcW_eq : (if ownOk vs ρ = true then R.ok o (wipeD vs ρ) else .no) = lcW vs o (ownOk vs ρ) ρ := by
  cases ownOk vs ρ <;> rfl
theorem w5 : lcT b tt me vs d ρ = lcA tt me vs (b.bind d ρ) := by
  unfold lcT
  cases b.bind d ρ with
  | none => rfl
  | some ρ1 =>
    show _ = lcB me vs (tt ρ1)
    cases h : tt ρ1 with
    | no => simp only [h]; rfl
    | ex _ _ => simp only [h]; rfl
    | ok k ρ2 =>
      simp only [h]
      cases k with
      | false => exact lcW_eq
      | true =>
        show _ = lcC vs (me ρ2)
        cases h2 : me ρ2 with
        | no => simp only [h2]; rfl
        | ex _ _ => simp only [h2]; rfl
        | ok v ρ3 =>
          simp only [h2]
          show _ = lcE vs (settle v ρ3)
          cases h3 : settle v ρ3 with
          | no => simp only [h3]; rfl
          | ex _ _ => simp only [h3]; rfl
          | ok y ρ4 => simp only [h3]; exact lcW_eq
theorem w6 : lcA tt me vs (some ρ) = lcB me vs (tt ρ) := rfl
theorem w7 : lcB me vs (.ok true ρ) = lcC vs (me ρ) := rfl
theorem w8 : lcB me vs (.ok false ρ) = lcW vs none (ownOk vs ρ) ρ := rfl
theorem w9 : lcC vs (.ok v ρ) = lcE vs (settle v ρ) := rfl
theorem w10 : lcE vs (.ok y ρ) = lcW vs (some y) (ownOk vs ρ) ρ := rfl
theorem w11 : lcW vs o true ρ = .ok o (wipeD vs ρ) := rfl
theorem w12 : ownOk [] ρ = true := rfl
theorem w13 {v : Nat} : ownOk (v :: vs) ρ = (still (gt ρ v) && ownOk vs ρ) := rfl
theorem w14 : still (.dat d) = true := rfl
theorem w15 : still .un = true := rfl
theorem w16 {ns : List Int} : still (.scr ns) = true := rfl
theorem w17 : wipeD [] ρ = ρ := rfl
theorem w18 {v : Nat} : wipeD (v :: vs) ρ = pt (wipeD vs ρ) v .un := rfl
theorem w19 {ρ0 : En} : backD ρ0 [] ρ = ρ := rfl
theorem w20 {ρ0 : En} {v : Nat} : backD ρ0 (v :: vs) ρ = pt (backD ρ0 vs ρ) v (gt ρ0 v) := rfl
theorem w21 : tYesB ρ = .ok true ρ := rfl
def bndN (i : Nat) (d : Dat) (ρ : En) : Bool → Option En
  | false => some (pt ρ i (.dat d))
  | true => none
theorem w22 : Tg.bind (.nm i) d ρ = bndN i d ρ (lkS (gt ρ i)) := by
  unfold Tg.bind
  rw [lk_eq]
  cases lkS (gt ρ i) <;> rfl
theorem w23 : bndN i d ρ false = some (pt ρ i (.dat d)) := rfl
def bndK (ts : List Tg) (ds : List Dat) : Option En → Option En
  | some ρ => Tg.bindAll ts ds ρ
  | none => none
theorem w24 {ts : List Tg} : Tg.bind (.tp ts) (.tuple ds) ρ = Tg.bindAll ts ds ρ := by
  conv => lhs; unfold Tg.bind
theorem w25 : Tg.bindAll [] [] ρ = some ρ := by unfold Tg.bindAll; rfl
theorem w26 {t : Tg} {ts : List Tg} : Tg.bindAll (t :: ts) (d :: ds) ρ = bndK ts ds (Tg.bind t d ρ) := by
  conv => lhs; unfold Tg.bindAll
  cases Tg.bind t d ρ <;> rfl
theorem w27 {ts : List Tg} : bndK ts ds (some ρ) = Tg.bindAll ts ds ρ := rfl
def lcS (b : Tg) (tt : M Bool) (me : M Val) (vs : List Nat) (ds : List Dat) : Bool → M Val
  | true, ρ1 => (lcD (lcT b tt me vs) [] ds (wipeD vs ρ1)).bnd fun acc ρ2 => .ok (.cel (.lst acc)) (backD ρ1 vs ρ2)
  | false, _ => .no
theorem w28 : eLc mi b tt me vs (a :: r) = (mi (a :: r)).bnd fun ds ρ => lcS b tt me vs ds (ownOk vs ρ) ρ := by
  unfold eLc
  congr
  funext ds ρ
  cases ownOk vs ρ <;> rfl
theorem w29 : lcS b tt me vs ds true ρ = (lcD (lcT b tt me vs) [] ds (wipeD vs ρ)).bnd fun acc ρ2 => .ok (.cel (.lst acc)) (backD ρ vs ρ2) := rfl
/-- nothing changes but the list -/
theorem lc_pure {f : Dat → M (Option Dat)} {g : Dat → Option Dat} : ∀ {ds acc : List Dat}, (∀ d ∈ ds, f d ρ = .ok (g d) ρ) → acc.length + ds.length ≤ sizeLine → lcD f acc ds ρ = .ok (acc ++ ds.filterMap g) ρ
  | [], acc, _, _ => by
    show R.ok acc ρ = _
    simp
  | d :: ds, acc, h, hl => by
    unfold lcD
    rw [h d List.mem_cons_self]
    rw [List.length_cons] at hl
    cases hg : g d with
    | none =>
      show lcD f acc ds ρ = _
      rw [lc_pure (fun x hx => h x (List.mem_cons_of_mem _ hx)) (by omega)]
      simp [hg]
    | some y =>
      show (if acc.length < sizeLine then lcD f (acc ++ [y]) ds ρ else .no) = _
      rw [if_pos (by omega), lc_pure (fun x hx => h x (List.mem_cons_of_mem _ hx)) (by simp; omega)]
      simp [hg]
theorem lc_ind {f : Dat → M (Option Dat)} (P : Nat → List Dat → En → Prop) (step : ∀ i d acc ρ, ds[i]? = some d → P i acc ρ → ∃ o ρ2, f d ρ = .ok o ρ2 ∧ acc.length < sizeLine ∧ P (i + 1) (acc ++ o.toList) ρ2) (h : P 0 [] ρ) : ∃ acc ρ', lcD f [] ds ρ = .ok acc ρ' ∧ P ds.length acc ρ' := by
  have key : ∀ (es : List Dat) (k : Nat) (acc : List Dat) (ρ : En), (∀ i d acc ρ, es[i]? = some d → P (k + i) acc ρ → ∃ o ρ2, f d ρ = .ok o ρ2 ∧ acc.length < sizeLine ∧ P (k + i + 1) (acc ++ o.toList) ρ2) → P k acc ρ → ∃ acc' ρ', lcD f acc es ρ = .ok acc' ρ' ∧ P (k + es.length) acc' ρ' := by
    intro es
    induction es with
    | nil => exact fun k acc ρ _ p => ⟨acc, ρ, rfl, p⟩
    | cons e es ih =>
      intro k acc ρ st p
      obtain ⟨o, ρ2, e1, e2, p2⟩ := st 0 e acc ρ (by simp) p
      obtain ⟨acc', ρ', e3, p3⟩ := ih (k + 1) (acc ++ o.toList) ρ2 (fun i d acc ρ hd hp => by
        have := st (i + 1) d acc ρ (by simpa using hd) (by have : k + (i + 1) = k + 1 + i := by omega
                                                           rw [this]; exact hp)
        have e : k + (i + 1) + 1 = k + 1 + i + 1 := by omega
        rw [← e]; exact this) p2
      refine ⟨acc', ρ', ?_, by have : k + (e :: es).length = k + 1 + es.length := by simp; omega
                               rw [this]; exact p3⟩
      unfold lcD
      rw [e1]
      cases o with
      | none =>
        show lcD f acc es ρ2 = _
        simpa using e3
      | some y =>
        show (if acc.length < sizeLine then lcD f (acc ++ [y]) es ρ2 else .no) = _
        rw [if_pos e2]
        simpa using e3
  have := key ds 0 [] ρ (fun i d acc ρ hd hp => by simpa using step i d acc ρ hd (by simpa using hp)) h
  simpa using this
/-! iterables -/
def itO : Option (List Dat) → M (List Dat)
  | some ds, ρ => .ok ds ρ
  | none, _ => .no
theorem w30 {m : M Val} : iVal m (a :: r) = (m (a :: r)).bnd fun v ρ => (settle v ρ).bnd fun d ρ => itO (itD d) ρ := by
  unfold iVal
  congr
  funext v ρ
  congr
  funext d ρ
  cases itD d <;> rfl
theorem w31 : itO (some ds) ρ = .ok ds ρ := rfl
theorem w32 : itD (.list ds) = some ds := rfl
theorem w33 : itD (.tuple ds) = some ds := rfl
theorem w34 {x : Str} : itD (.str x) = some (chD x) := rfl
def rgO (g : List Dat → Option (List Dat)) : Option (List Dat) → M (List Dat)
  | some ds, ρ => itO (g ds) ρ
  | none, _ => .no
theorem w35 {ms : List (M Val)} : iRg ms (a :: r) = (eArgs ms (a :: r)).bnd fun vs ρ => rgO gRg (rdAll ρ vs) ρ := by
  unfold iRg
  congr
  funext vs ρ
  cases rdAll ρ vs with
  | none => rfl
  | some ds =>
    show (match gRg ds with
      | some r => R.ok r ρ
      | none => .no) = itO (gRg ds) ρ
    cases gRg ds <;> rfl
theorem w36 {g : List Dat → Option (List Dat)} : rgO g (some ds) ρ = itO (g ds) ρ := rfl
theorem w37 {g : List Dat → Option (List Dat)} {ms : List (M Val)} : iPrim g ms (a :: r) = (eArgs ms (a :: r)).bnd fun vs ρ => (settleAll vs ρ).bnd fun ds ρ => itO (g ds) ρ := by
  unfold iPrim
  congr
  funext vs ρ
  congr
  funext ds ρ
  cases g ds <;> rfl
theorem rg1 {j : Int} (h : sml j = true) : gRg [.int j] = some (rgD 0 j.toNat) := if_pos h
theorem w38 {b : Tg} {d : Dat} {k : MS} : bindF b d ρ body k = (match b.bind d ρ with | some ρ1 => turnS (body ρ1) k | none => .no) := rfl
def bindG (body k : MS) : Option En → R Fl
  | some ρ1 => turnS (body ρ1) k
  | none => .no
theorem w39 {k : MS} : bindF b d ρ body k = bindG body k (b.bind d ρ) := by unfold bindF bindG; cases b.bind d ρ <;> rfl
theorem w40 {k : MS} : bindG body k (some ρ) = turnS (body ρ) k := rfl
end
end Dl
namespace Dl
open PySem
theorem le16 {n : Nat} (h : n ≤ 1000) : n ≤ sizeLine := by rw [sizeLine_eq]; omega
theorem lit0 {ρ : En} : lstO [] ρ = .ok (.cel (.lst [])) ρ := lstO_ok (le16 (by simp))
theorem tit0 {ρ : En} : tupO [] ρ = .ok (.dat (.tuple [])) ρ := tupO_ok (le16 (by simp))
theorem lit1 {a0 : Dat} {ρ : En} : lstO [a0] ρ = .ok (.cel (.lst [a0])) ρ := lstO_ok (le16 (by simp))
theorem tit1 {a0 : Dat} {ρ : En} : tupO [a0] ρ = .ok (.dat (.tuple [a0])) ρ := tupO_ok (le16 (by simp))
theorem lit2 {a0 a1 : Dat} {ρ : En} : lstO [a0, a1] ρ = .ok (.cel (.lst [a0, a1])) ρ := lstO_ok (le16 (by simp))
theorem tit2 {a0 a1 : Dat} {ρ : En} : tupO [a0, a1] ρ = .ok (.dat (.tuple [a0, a1])) ρ := tupO_ok (le16 (by simp))
theorem lit3 {a0 a1 a2 : Dat} {ρ : En} : lstO [a0, a1, a2] ρ = .ok (.cel (.lst [a0, a1, a2])) ρ := lstO_ok (le16 (by simp))
theorem tit3 {a0 a1 a2 : Dat} {ρ : En} : tupO [a0, a1, a2] ρ = .ok (.dat (.tuple [a0, a1, a2])) ρ := tupO_ok (le16 (by simp))
theorem lit4 {a0 a1 a2 a3 : Dat} {ρ : En} : lstO [a0, a1, a2, a3] ρ = .ok (.cel (.lst [a0, a1, a2, a3])) ρ := lstO_ok (le16 (by simp))
theorem tit4 {a0 a1 a2 a3 : Dat} {ρ : En} : tupO [a0, a1, a2, a3] ρ = .ok (.dat (.tuple [a0, a1, a2, a3])) ρ := tupO_ok (le16 (by simp))
theorem lit5 {a0 a1 a2 a3 a4 : Dat} {ρ : En} : lstO [a0, a1, a2, a3, a4] ρ = .ok (.cel (.lst [a0, a1, a2, a3, a4])) ρ := lstO_ok (le16 (by simp))
theorem tit5 {a0 a1 a2 a3 a4 : Dat} {ρ : En} : tupO [a0, a1, a2, a3, a4] ρ = .ok (.dat (.tuple [a0, a1, a2, a3, a4])) ρ := tupO_ok (le16 (by simp))
theorem lit6 {a0 a1 a2 a3 a4 a5 : Dat} {ρ : En} : lstO [a0, a1, a2, a3, a4, a5] ρ = .ok (.cel (.lst [a0, a1, a2, a3, a4, a5])) ρ := lstO_ok (le16 (by simp))
theorem tit6 {a0 a1 a2 a3 a4 a5 : Dat} {ρ : En} : tupO [a0, a1, a2, a3, a4, a5] ρ = .ok (.dat (.tuple [a0, a1, a2, a3, a4, a5])) ρ := tupO_ok (le16 (by simp))
theorem lit7 {a0 a1 a2 a3 a4 a5 a6 : Dat} {ρ : En} : lstO [a0, a1, a2, a3, a4, a5, a6] ρ = .ok (.cel (.lst [a0, a1, a2, a3, a4, a5, a6])) ρ := lstO_ok (le16 (by simp))
theorem tit7 {a0 a1 a2 a3 a4 a5 a6 : Dat} {ρ : En} : tupO [a0, a1, a2, a3, a4, a5, a6] ρ = .ok (.dat (.tuple [a0, a1, a2, a3, a4, a5, a6])) ρ := tupO_ok (le16 (by simp))
theorem lit8 {a0 a1 a2 a3 a4 a5 a6 a7 : Dat} {ρ : En} : lstO [a0, a1, a2, a3, a4, a5, a6, a7] ρ = .ok (.cel (.lst [a0, a1, a2, a3, a4, a5, a6, a7])) ρ := lstO_ok (le16 (by simp))
theorem tit8 {a0 a1 a2 a3 a4 a5 a6 a7 : Dat} {ρ : En} : tupO [a0, a1, a2, a3, a4, a5, a6, a7] ρ = .ok (.dat (.tuple [a0, a1, a2, a3, a4, a5, a6, a7])) ρ := tupO_ok (le16 (by simp))
theorem lit9 {a0 a1 a2 a3 a4 a5 a6 a7 a8 : Dat} {ρ : En} : lstO [a0, a1, a2, a3, a4, a5, a6, a7, a8] ρ = .ok (.cel (.lst [a0, a1, a2, a3, a4, a5, a6, a7, a8])) ρ := lstO_ok (le16 (by simp))
theorem tit9 {a0 a1 a2 a3 a4 a5 a6 a7 a8 : Dat} {ρ : En} : tupO [a0, a1, a2, a3, a4, a5, a6, a7, a8] ρ = .ok (.dat (.tuple [a0, a1, a2, a3, a4, a5, a6, a7, a8])) ρ := tupO_ok (le16 (by simp))
theorem lit10 {a0 a1 a2 a3 a4 a5 a6 a7 a8 a9 : Dat} {ρ : En} : lstO [a0, a1, a2, a3, a4, a5, a6, a7, a8, a9] ρ = .ok (.cel (.lst [a0, a1, a2, a3, a4, a5, a6, a7, a8, a9])) ρ := lstO_ok (le16 (by simp))
theorem tit10 {a0 a1 a2 a3 a4 a5 a6 a7 a8 a9 : Dat} {ρ : En} : tupO [a0, a1, a2, a3, a4, a5, a6, a7, a8, a9] ρ = .ok (.dat (.tuple [a0, a1, a2, a3, a4, a5, a6, a7, a8, a9])) ρ := tupO_ok (le16 (by simp))
theorem lit11 {a0 a1 a2 a3 a4 a5 a6 a7 a8 a9 a10 : Dat} {ρ : En} : lstO [a0, a1, a2, a3, a4, a5, a6, a7, a8, a9, a10] ρ = .ok (.cel (.lst [a0, a1, a2, a3, a4, a5, a6, a7, a8, a9, a10])) ρ := lstO_ok (le16 (by simp))
theorem tit11 {a0 a1 a2 a3 a4 a5 a6 a7 a8 a9 a10 : Dat} {ρ : En} : tupO [a0, a1, a2, a3, a4, a5, a6, a7, a8, a9, a10] ρ = .ok (.dat (.tuple [a0, a1, a2, a3, a4, a5, a6, a7, a8, a9, a10])) ρ := tupO_ok (le16 (by simp))
theorem lit12 {a0 a1 a2 a3 a4 a5 a6 a7 a8 a9 a10 a11 : Dat} {ρ : En} : lstO [a0, a1, a2, a3, a4, a5, a6, a7, a8, a9, a10, a11] ρ = .ok (.cel (.lst [a0, a1, a2, a3, a4, a5, a6, a7, a8, a9, a10, a11])) ρ := lstO_ok (le16 (by simp))
theorem tit12 {a0 a1 a2 a3 a4 a5 a6 a7 a8 a9 a10 a11 : Dat} {ρ : En} : tupO [a0, a1, a2, a3, a4, a5, a6, a7, a8, a9, a10, a11] ρ = .ok (.dat (.tuple [a0, a1, a2, a3, a4, a5, a6, a7, a8, a9, a10, a11])) ρ := tupO_ok (le16 (by simp))
theorem lit13 {a0 a1 a2 a3 a4 a5 a6 a7 a8 a9 a10 a11 a12 : Dat} {ρ : En} : lstO [a0, a1, a2, a3, a4, a5, a6, a7, a8, a9, a10, a11, a12] ρ = .ok (.cel (.lst [a0, a1, a2, a3, a4, a5, a6, a7, a8, a9, a10, a11, a12])) ρ := lstO_ok (le16 (by simp))
theorem tit13 {a0 a1 a2 a3 a4 a5 a6 a7 a8 a9 a10 a11 a12 : Dat} {ρ : En} : tupO [a0, a1, a2, a3, a4, a5, a6, a7, a8, a9, a10, a11, a12] ρ = .ok (.dat (.tuple [a0, a1, a2, a3, a4, a5, a6, a7, a8, a9, a10, a11, a12])) ρ := tupO_ok (le16 (by simp))
theorem lit14 {a0 a1 a2 a3 a4 a5 a6 a7 a8 a9 a10 a11 a12 a13 : Dat} {ρ : En} : lstO [a0, a1, a2, a3, a4, a5, a6, a7, a8, a9, a10, a11, a12, a13] ρ = .ok (.cel (.lst [a0, a1, a2, a3, a4, a5, a6, a7, a8, a9, a10, a11, a12, a13])) ρ := lstO_ok (le16 (by simp))
theorem tit14 {a0 a1 a2 a3 a4 a5 a6 a7 a8 a9 a10 a11 a12 a13 : Dat} {ρ : En} : tupO [a0, a1, a2, a3, a4, a5, a6, a7, a8, a9, a10, a11, a12, a13] ρ = .ok (.dat (.tuple [a0, a1, a2, a3, a4, a5, a6, a7, a8, a9, a10, a11, a12, a13])) ρ := tupO_ok (le16 (by simp))
theorem lit15 {a0 a1 a2 a3 a4 a5 a6 a7 a8 a9 a10 a11 a12 a13 a14 : Dat} {ρ : En} : lstO [a0, a1, a2, a3, a4, a5, a6, a7, a8, a9, a10, a11, a12, a13, a14] ρ = .ok (.cel (.lst [a0, a1, a2, a3, a4, a5, a6, a7, a8, a9, a10, a11, a12, a13, a14])) ρ := lstO_ok (le16 (by simp))
theorem tit15 {a0 a1 a2 a3 a4 a5 a6 a7 a8 a9 a10 a11 a12 a13 a14 : Dat} {ρ : En} : tupO [a0, a1, a2, a3, a4, a5, a6, a7, a8, a9, a10, a11, a12, a13, a14] ρ = .ok (.dat (.tuple [a0, a1, a2, a3, a4, a5, a6, a7, a8, a9, a10, a11, a12, a13, a14])) ρ := tupO_ok (le16 (by simp))
theorem lit16 {a0 a1 a2 a3 a4 a5 a6 a7 a8 a9 a10 a11 a12 a13 a14 a15 : Dat} {ρ : En} : lstO [a0, a1, a2, a3, a4, a5, a6, a7, a8, a9, a10, a11, a12, a13, a14, a15] ρ = .ok (.cel (.lst [a0, a1, a2, a3, a4, a5, a6, a7, a8, a9, a10, a11, a12, a13, a14, a15])) ρ := lstO_ok (le16 (by simp))
theorem tit16 {a0 a1 a2 a3 a4 a5 a6 a7 a8 a9 a10 a11 a12 a13 a14 a15 : Dat} {ρ : En} : tupO [a0, a1, a2, a3, a4, a5, a6, a7, a8, a9, a10, a11, a12, a13, a14, a15] ρ = .ok (.dat (.tuple [a0, a1, a2, a3, a4, a5, a6, a7, a8, a9, a10, a11, a12, a13, a14, a15])) ρ := tupO_ok (le16 (by simp))
theorem lit17 {a0 a1 a2 a3 a4 a5 a6 a7 a8 a9 a10 a11 a12 a13 a14 a15 a16 : Dat} {ρ : En} : lstO [a0, a1, a2, a3, a4, a5, a6, a7, a8, a9, a10, a11, a12, a13, a14, a15, a16] ρ = .ok (.cel (.lst [a0, a1, a2, a3, a4, a5, a6, a7, a8, a9, a10, a11, a12, a13, a14, a15, a16])) ρ := lstO_ok (le16 (by simp))
theorem tit17 {a0 a1 a2 a3 a4 a5 a6 a7 a8 a9 a10 a11 a12 a13 a14 a15 a16 : Dat} {ρ : En} : tupO [a0, a1, a2, a3, a4, a5, a6, a7, a8, a9, a10, a11, a12, a13, a14, a15, a16] ρ = .ok (.dat (.tuple [a0, a1, a2, a3, a4, a5, a6, a7, a8, a9, a10, a11, a12, a13, a14, a15, a16])) ρ := tupO_ok (le16 (by simp))
theorem lit18 {a0 a1 a2 a3 a4 a5 a6 a7 a8 a9 a10 a11 a12 a13 a14 a15 a16 a17 : Dat} {ρ : En} : lstO [a0, a1, a2, a3, a4, a5, a6, a7, a8, a9, a10, a11, a12, a13, a14, a15, a16, a17] ρ = .ok (.cel (.lst [a0, a1, a2, a3, a4, a5, a6, a7, a8, a9, a10, a11, a12, a13, a14, a15, a16, a17])) ρ := lstO_ok (le16 (by simp))
theorem tit18 {a0 a1 a2 a3 a4 a5 a6 a7 a8 a9 a10 a11 a12 a13 a14 a15 a16 a17 : Dat} {ρ : En} : tupO [a0, a1, a2, a3, a4, a5, a6, a7, a8, a9, a10, a11, a12, a13, a14, a15, a16, a17] ρ = .ok (.dat (.tuple [a0, a1, a2, a3, a4, a5, a6, a7, a8, a9, a10, a11, a12, a13, a14, a15, a16, a17])) ρ := tupO_ok (le16 (by simp))
theorem lit19 {a0 a1 a2 a3 a4 a5 a6 a7 a8 a9 a10 a11 a12 a13 a14 a15 a16 a17 a18 : Dat} {ρ : En} : lstO [a0, a1, a2, a3, a4, a5, a6, a7, a8, a9, a10, a11, a12, a13, a14, a15, a16, a17, a18] ρ = .ok (.cel (.lst [a0, a1, a2, a3, a4, a5, a6, a7, a8, a9, a10, a11, a12, a13, a14, a15, a16, a17, a18])) ρ := lstO_ok (le16 (by simp))
theorem tit19 {a0 a1 a2 a3 a4 a5 a6 a7 a8 a9 a10 a11 a12 a13 a14 a15 a16 a17 a18 : Dat} {ρ : En} : tupO [a0, a1, a2, a3, a4, a5, a6, a7, a8, a9, a10, a11, a12, a13, a14, a15, a16, a17, a18] ρ = .ok (.dat (.tuple [a0, a1, a2, a3, a4, a5, a6, a7, a8, a9, a10, a11, a12, a13, a14, a15, a16, a17, a18])) ρ := tupO_ok (le16 (by simp))
theorem lit20 {a0 a1 a2 a3 a4 a5 a6 a7 a8 a9 a10 a11 a12 a13 a14 a15 a16 a17 a18 a19 : Dat} {ρ : En} : lstO [a0, a1, a2, a3, a4, a5, a6, a7, a8, a9, a10, a11, a12, a13, a14, a15, a16, a17, a18, a19] ρ = .ok (.cel (.lst [a0, a1, a2, a3, a4, a5, a6, a7, a8, a9, a10, a11, a12, a13, a14, a15, a16, a17, a18, a19])) ρ := lstO_ok (le16 (by simp))
theorem tit20 {a0 a1 a2 a3 a4 a5 a6 a7 a8 a9 a10 a11 a12 a13 a14 a15 a16 a17 a18 a19 : Dat} {ρ : En} : tupO [a0, a1, a2, a3, a4, a5, a6, a7, a8, a9, a10, a11, a12, a13, a14, a15, a16, a17, a18, a19] ρ = .ok (.dat (.tuple [a0, a1, a2, a3, a4, a5, a6, a7, a8, a9, a10, a11, a12, a13, a14, a15, a16, a17, a18, a19])) ρ := tupO_ok (le16 (by simp))
theorem putO_lk {i : Nat} {v : Val} {s : Slot} {ρ : En} (h : lkS s = false) : putO i v s ρ = putW i v ρ := by
  cases s with
  | un => exact x58
  | dat d => exact x59
  | scr ns => cases v <;> rfl
  | cel b c =>
    cases b with
    | true => cases h
    | false => exact x60
theorem atI_some {α : Type} {xs : List α} {v : Int} (h0 : 0 ≤ v) (h1 : v < (xs.length : Int)) : ∃ d, L2.atI xs v = some d ∧ d ∈ xs := by
  obtain ⟨k, rfl⟩ := Int.eq_ofNat_of_zero_le h0
  have hk : k < xs.length := by omega
  exact ⟨xs[k], by rw [atI_nat, List.getElem?_eq_getElem hk], List.getElem_mem hk⟩
theorem bndN_lk {i : Nat} {d : Dat} {ρ : En} (h : lkS (gt ρ i) = false) : Tg.bind (.nm i) d ρ = some (pt ρ i (.dat d)) := by rw [w22, h]; rfl
end Dl
namespace Dl
open PySem
section
variable {vs : List Val} {ρ : En}
theorem v1 {n : Int} : callO vs (.v (.dat (.int n))) ρ = .ok (.dat (.int n)) ρ := x70 rfl
theorem v2 {n : Bool} : callO vs (.v (.dat (.bool n))) ρ = .ok (.dat (.bool n)) ρ := x70 rfl
theorem v3 {n : Str} : callO vs (.v (.dat (.str n))) ρ = .ok (.dat (.str n)) ρ := x70 rfl
theorem v4 : callO vs (.v (.dat .none)) ρ = .ok (.dat .none) ρ := x70 rfl
theorem v5 {ds : List Dat} : callO vs (.v (.dat (.list ds))) ρ = (settleAll vs ρ).bnd fun _ ρ => .ok (.dat (.list ds)) ρ := x71 rfl
theorem v6 {ds : List Dat} : callO vs (.v (.dat (.tuple ds))) ρ = (settleAll vs ρ).bnd fun _ ρ => .ok (.dat (.tuple ds)) ρ := x71 rfl
end
end Dl
namespace Dl
open PySem
theorem t_int_none {ρ : En} : isiO "int" (some .none) ρ = .ok (.dat (.bool false)) ρ := by kernel_rfl
theorem t_int_bool {b : Bool} {ρ : En} : isiO "int" (some (.bool b)) ρ = .ok (.dat (.bool true)) ρ := by kernel_rfl
theorem t_int_int {n : Int} {ρ : En} : isiO "int" (some (.int n)) ρ = .ok (.dat (.bool true)) ρ := by kernel_rfl
theorem t_int_str {z : Str} {ρ : En} : isiO "int" (some (.str z)) ρ = .ok (.dat (.bool false)) ρ := by kernel_rfl
theorem t_int_list {ds : List Dat} {ρ : En} : isiO "int" (some (.list ds)) ρ = .ok (.dat (.bool false)) ρ := by kernel_rfl
theorem t_int_tuple {ds : List Dat} {ρ : En} : isiO "int" (some (.tuple ds)) ρ = .ok (.dat (.bool false)) ρ := by kernel_rfl
theorem t_str_none {ρ : En} : isiO "str" (some .none) ρ = .ok (.dat (.bool false)) ρ := by kernel_rfl
theorem t_str_bool {b : Bool} {ρ : En} : isiO "str" (some (.bool b)) ρ = .ok (.dat (.bool false)) ρ := by kernel_rfl
theorem t_str_int {n : Int} {ρ : En} : isiO "str" (some (.int n)) ρ = .ok (.dat (.bool false)) ρ := by kernel_rfl
theorem t_str_str {z : Str} {ρ : En} : isiO "str" (some (.str z)) ρ = .ok (.dat (.bool true)) ρ := by kernel_rfl
theorem t_str_list {ds : List Dat} {ρ : En} : isiO "str" (some (.list ds)) ρ = .ok (.dat (.bool false)) ρ := by kernel_rfl
theorem t_str_tuple {ds : List Dat} {ρ : En} : isiO "str" (some (.tuple ds)) ρ = .ok (.dat (.bool false)) ρ := by kernel_rfl
theorem t_bool_none {ρ : En} : isiO "bool" (some .none) ρ = .ok (.dat (.bool false)) ρ := by kernel_rfl
theorem t_bool_bool {b : Bool} {ρ : En} : isiO "bool" (some (.bool b)) ρ = .ok (.dat (.bool true)) ρ := by kernel_rfl
theorem t_bool_int {n : Int} {ρ : En} : isiO "bool" (some (.int n)) ρ = .ok (.dat (.bool false)) ρ := by kernel_rfl
theorem t_bool_str {z : Str} {ρ : En} : isiO "bool" (some (.str z)) ρ = .ok (.dat (.bool false)) ρ := by kernel_rfl
theorem t_bool_list {ds : List Dat} {ρ : En} : isiO "bool" (some (.list ds)) ρ = .ok (.dat (.bool false)) ρ := by kernel_rfl
theorem t_bool_tuple {ds : List Dat} {ρ : En} : isiO "bool" (some (.tuple ds)) ρ = .ok (.dat (.bool false)) ρ := by kernel_rfl
theorem t_list_none {ρ : En} : isiO "list" (some .none) ρ = .ok (.dat (.bool false)) ρ := by kernel_rfl
theorem t_list_bool {b : Bool} {ρ : En} : isiO "list" (some (.bool b)) ρ = .ok (.dat (.bool false)) ρ := by kernel_rfl
theorem t_list_int {n : Int} {ρ : En} : isiO "list" (some (.int n)) ρ = .ok (.dat (.bool false)) ρ := by kernel_rfl
theorem t_list_str {z : Str} {ρ : En} : isiO "list" (some (.str z)) ρ = .ok (.dat (.bool false)) ρ := by kernel_rfl
theorem t_list_list {ds : List Dat} {ρ : En} : isiO "list" (some (.list ds)) ρ = .ok (.dat (.bool true)) ρ := by kernel_rfl
theorem t_list_tuple {ds : List Dat} {ρ : En} : isiO "list" (some (.tuple ds)) ρ = .ok (.dat (.bool false)) ρ := by kernel_rfl
theorem t_tuple_none {ρ : En} : isiO "tuple" (some .none) ρ = .ok (.dat (.bool false)) ρ := by kernel_rfl
theorem t_tuple_bool {b : Bool} {ρ : En} : isiO "tuple" (some (.bool b)) ρ = .ok (.dat (.bool false)) ρ := by kernel_rfl
theorem t_tuple_int {n : Int} {ρ : En} : isiO "tuple" (some (.int n)) ρ = .ok (.dat (.bool false)) ρ := by kernel_rfl
theorem t_tuple_str {z : Str} {ρ : En} : isiO "tuple" (some (.str z)) ρ = .ok (.dat (.bool false)) ρ := by kernel_rfl
theorem t_tuple_list {ds : List Dat} {ρ : En} : isiO "tuple" (some (.list ds)) ρ = .ok (.dat (.bool false)) ρ := by kernel_rfl
theorem t_tuple_tuple {ds : List Dat} {ρ : En} : isiO "tuple" (some (.tuple ds)) ρ = .ok (.dat (.bool true)) ρ := by kernel_rfl

def chB : Option Val → Option Bool
  | some (.dat (.bool k)) => some k
  | _ => none
def chO (g' : P2) (m3 : M Val) (v2 : Val) : Option Bool → M Val
  | some true, ρ => (m3 ρ).bnd fun v3 ρ => binO g' ρ (rd ρ v2) (rd ρ v3)
  | some false, ρ => .ok (.dat (.bool false)) ρ
  | none, _ => .no
def chD2 (g : P2) : Option Dat → Option Dat → Option Val
  | some a, some b => g a b
  | _, _ => none
theorem ch1 {g g' : P2} {m1 m2 m3 : M Val} {a : Slot} {r : En} : eChain g g' m1 m2 m3 (a :: r) = (m1 (a :: r)).bnd fun v1 ρ1 => (stow v1 ρ1).bnd fun v1 ρ1 => (m2 ρ1).bnd fun v2 ρ2 => (stow v2 ρ2).bnd fun v2 ρ => chO g' m3 v2 (chB (chD2 g (rd ρ v1) (rd ρ v2))) ρ := by
  unfold eChain two
  congr
  funext v1 ρ1
  congr
  funext v1 ρ1
  congr
  funext v2 ρ2
  show ((stow v2 ρ2).bnd _) = ((stow v2 ρ2).bnd _)
  congr
  funext v2 ρ
  cases rd ρ v1 with
  | none => rfl
  | some d1 =>
    cases h2 : rd ρ v2 with
    | none => rfl
    | some d2 =>
      show (match g d1 d2 with
        | some (.dat (.bool k)) => if k = true then (m3 ρ).bnd fun v3 ρ =>
            (match rd ρ v2, rd ρ v3 with
            | some d2, some d3 => (match g' d2 d3 with
              | some r => R.ok r ρ
              | none => .no)
            | _, _ => .no) else .ok (Val.dat (.bool false)) ρ
        | _ => .no) = chO g' m3 v2 (chB (g d1 d2)) ρ
      cases g d1 d2 with
      | none => rfl
      | some w =>
        cases w with
        | dat dd =>
          cases dd with
          | bool k =>
            cases k with
            | false => rfl
            | true =>
              show ((m3 ρ).bnd _) = ((m3 ρ).bnd _)
              congr
              funext v3 ρ
              exact binO_eq
          | _ => rfl
        | _ => rfl
theorem ch2 {g : P2} {a b : Dat} : chD2 g (some a) (some b) = g a b := rfl
theorem ch3 {k : Bool} : chB (some (.dat (.bool k))) = some k := rfl
theorem ch4 {g' : P2} {m3 : M Val} {v2 : Val} {ρ : En} : chO g' m3 v2 (some true) ρ = (m3 ρ).bnd fun v3 ρ => binO g' ρ (rd ρ v2) (rd ρ v3) := rfl
theorem ch5 {g' : P2} {m3 : M Val} {v2 : Val} {ρ : En} : chO g' m3 v2 (some false) ρ = .ok (.dat (.bool false)) ρ := rfl
end Dl
namespace Dl
open PySem
/-! ### texts of single signs -/
def sg (c : Nat) : Str := ⟨#[c]⟩
theorem ixs {z : Str} {i : Int} (h : z.length ≤ 1000) : gIx (.str z) (.int i) = (L2.atI z.cps.toList i).map fun c => .dat (.str (sg c)) := if_pos (le16 h)
theorem strsOf_sg : ∀ cs : List Nat, strsOf (cs.map fun c => PyData.str (sg c)) = some (cs.map sg)
  | [] => rfl
  | c :: cs => by
    show (strsOf (cs.map fun c => PyData.str (sg c))).map (sg c :: ·) = _
    rw [strsOf_sg cs]
    rfl
theorem joinL_sg : ∀ cs : List Nat, TL.joinL [] ((cs.map sg).map TL.tl) = cs
  | [] => rfl
  | [c] => rfl
  | c :: e :: r => by
    show [c] ++ ([] ++ TL.joinL [] (((e :: r).map sg).map TL.tl)) = _
    rw [joinL_sg (e :: r)]
    rfl
theorem join_sg (cs : List Nat) : Txt.join ("" : Str) (cs.map sg) = ⟨cs.toArray⟩ := by
  rw [TL.join_eq]
  have e := TL.tl_join ("" : Str) (cs.map sg)
  rw [show TL.tl ("" : Str) = [] from rfl, joinL_sg] at e
  have e2 : (Str.join ("" : Str) (cs.map sg)).cps.toList = cs := e
  rw [← TL.mk_tl (Str.join ("" : Str) (cs.map sg))]
  show (⟨(Str.join ("" : Str) (cs.map sg)).cps.toList.toArray⟩ : Str) = _
  rw [e2]
theorem joinOk_sg {cs : List Nat} (h : cs.length ≤ 1000) : joinOk ("" : Str) (cs.map sg) = true := by
  have : ((cs.map sg).map (·.length)).sum ≤ cs.length := by
    clear h
    induction cs with
    | nil => simp
    | cons c cs ih =>
      simp only [List.map_cons, List.sum_cons, List.length_cons]
      have : (sg c).length = 1 := rfl
      omega
  unfold joinOk
  have e : (cs.map sg).length * ("" : Str).length = 0 := Nat.mul_zero _
  rw [e]
  exact decide_eq_true (by omega)
theorem gJoin_sg {cs : List Nat} (h : cs.length ≤ 1000) : gJoin (.str ("" : Str)) [.list (cs.map fun c => PyData.str (sg c))] = some (.dat (.str ⟨cs.toArray⟩)) := by
  unfold gJoin
  simp only [strsOf_sg, joinOk_sg h, if_true, join_sg]
theorem Deck.mono {t u : Nat} {D : Cel} (h : Deck t D) (hu : t ≤ u) : Deck u D := by
  obtain ⟨a, b, c, e, ns, h1, h2, h3, h4, h5, h6⟩ := h.ex
  exact ⟨⟨a, b, c, e, ns, h1, h2, h3, h4, h5, by omega⟩⟩
theorem rgD_at {lo : Int} {n i : Nat} {d : Dat} (h : (rgD lo n)[i]? = some d) : i < n ∧ d = .int (lo + (i : Nat)) := by
  unfold rgD at h
  rw [List.getElem?_map] at h
  by_cases c : i < n
  · rw [List.getElem?_range c] at h
    cases h
    exact ⟨c, rfl⟩
  · rw [List.getElem?_eq_none (by simpa using c)] at h
    cases h
theorem rgD_len {lo : Int} {n : Nat} : (rgD lo n).length = n := by unfold rgD; simp
end Dl
namespace Dl
open PySem
theorem u1 {x : Str} : tyD "str" (.str x) = true := rfl
theorem u2 {ds : List Dat} : tyD "list" (.list ds) = true := rfl
end Dl
namespace Dl
open PySem
theorem in_str {x L : Str} : gIn (.str x) (.str L) = some (.dat (.bool (inStr x L))) := rfl
theorem blsOf_map {α : Type} {f : α → Bool} : ∀ cs : List α, blsOf (cs.map fun c => PyData.bool (f c)) = some (cs.map f)
  | [] => rfl
  | c :: cs => by
    show (blsOf (cs.map fun c => PyData.bool (f c))).map (f c :: ·) = _
    rw [blsOf_map cs]
    rfl
theorem gAll_map {α : Type} {f : α → Bool} {cs : List α} : gAll [.list (cs.map fun c => PyData.bool (f c))] = some (.dat (.bool (cs.all f))) := by
  show (blsOf (cs.map fun c => PyData.bool (f c))).map (fun bs => Val.dat (.bool (bs.all id))) = _
  rw [blsOf_map]
  simp [List.all_map]
theorem gAny_map {α : Type} {f : α → Bool} {cs : List α} : gAny [.list (cs.map fun c => PyData.bool (f c))] = some (.dat (.bool (cs.any f))) := by
  show (blsOf (cs.map fun c => PyData.bool (f c))).map (fun bs => Val.dat (.bool (bs.any id))) = _
  rw [blsOf_map]
  simp [List.any_map]
/-- over the signs of a text, nothing else changes -/
theorem lc_chars {f : Dat → M (Option Dat)} {g : Nat → Dat} {x : Str} {ρ : En} (h : ∀ c, f (.str (sg c)) ρ = .ok (some (g c)) ρ) (hl : x.length ≤ 1000) : lcD f [] (chD x) ρ = .ok (x.cps.toList.map g) ρ := by
  have e : chD x = x.cps.toList.map fun c => PyData.str (sg c) := rfl
  rw [e]
  have hz : x.cps.toList.length ≤ 1000 := by simpa [Str.length] using hl
  generalize x.cps.toList = cs at hz ⊢
  have key : ∀ (cs : List Nat) (acc : List Dat), acc.length + cs.length ≤ sizeLine → lcD f acc (cs.map fun c => PyData.str (sg c)) ρ = .ok (acc ++ cs.map g) ρ := by
    intro cs
    induction cs with
    | nil =>
      intro acc _
      show R.ok acc ρ = _
      simp
    | cons c cs ih =>
      intro acc hl
      rw [List.length_cons] at hl
      show lcD f acc (PyData.str (sg c) :: cs.map fun c => PyData.str (sg c)) ρ = _
      unfold lcD
      rw [h c]
      show (if acc.length < sizeLine then lcD f (acc ++ [g c]) (cs.map fun c => PyData.str (sg c)) ρ else .no) = _
      rw [if_pos (by omega), ih _ (by simp; omega)]
      simp
  have := key cs [] (by simpa using le16 hz)
  simpa using this
theorem or_f {b : Bool} : (b || false) = b := by cases b <;> rfl
end Dl
namespace Dl
open PySem
theorem t_int_dict {k : List (Dat × Dat)} {ρ : En} : isiO "int" (some (.dict k)) ρ = .ok (.dat (.bool false)) ρ := by kernel_rfl
theorem t_str_dict {k : List (Dat × Dat)} {ρ : En} : isiO "str" (some (.dict k)) ρ = .ok (.dat (.bool false)) ρ := by kernel_rfl
theorem t_bool_dict {k : List (Dat × Dat)} {ρ : En} : isiO "bool" (some (.dict k)) ρ = .ok (.dat (.bool false)) ρ := by kernel_rfl
theorem t_list_dict {k : List (Dat × Dat)} {ρ : En} : isiO "list" (some (.dict k)) ρ = .ok (.dat (.bool false)) ρ := by kernel_rfl
theorem t_tuple_dict {k : List (Dat × Dat)} {ρ : En} : isiO "tuple" (some (.dict k)) ρ = .ok (.dat (.bool false)) ρ := by kernel_rfl
/-! loops with a number of turns -/
def whF (n : Nat) (p : M Bool) (body : MS) : MS := fun ρ => match whN p body n ρ with
  | some r => r
  | none => .no
/-- m' tells no more than m -/
def LeS (m' m : MS) : Prop := ∀ ρ, m' ρ = .no ∨ m' ρ = m ρ
theorem LeS.rfl {m : MS} : LeS m m := fun _ => .inr (Eq.refl _)
theorem LeS.wh {n : Nat} {p : M Bool} {body : MS} : LeS (whF n p body) (sWhile p body) := fun ρ => by
  unfold whF
  cases h : whN p body n ρ with
  | none => exact .inl (Eq.refl _)
  | some r => exact .inr (sWhile_eq h).symm
theorem LeS.seq {a a' b b' : MS} (h1 : LeS a' a) (h2 : LeS b' b) : LeS (seqS a' b') (seqS a b) := fun ρ => by
  unfold seqS
  rcases h1 ρ with e | e
  · rw [e]; exact .inl (Eq.refl _)
  · rw [e]
    cases a ρ with
    | no => exact .inl (Eq.refl _)
    | ex _ _ => exact .inr (Eq.refl _)
    | ok f ρ1 =>
      cases f with
      | nx => exact h2 ρ1
      | _ => exact .inr (Eq.refl _)
theorem LeS.run {n : Nat} {b b' : MS} (h : LeS b' b) {args : En} {o : O} (e : out (runF n b' args) = o) (ho : o ≠ .n) : out (runF n b args) = o := by
  unfold runF at e ⊢
  rcases h (args ++ List.replicate n .un) with q | q
  · rw [q] at e
    exact absurd e.symm ho
  · rw [← q]; exact e
end Dl
namespace Dl
open PySem
/-- small enough to be shown -/
def niceB (d : Dat) : Bool := (d.leavesShort 13 && decide (d.weight ≤ 1048576)) && (d.showable && decide (d.depth ≤ 100))
theorem reprOk_of {d : Dat} (h : niceB d = true) : reprOk d = true := by
  unfold niceB at h
  rw [Bool.and_eq_true, Bool.and_eq_true, Bool.and_eq_true, decide_eq_true_eq, decide_eq_true_eq] at h
  obtain ⟨⟨h1, h2⟩, h3, h4⟩ := h
  have := PyData.shown_fits (B := 13) (by decide) (by decide) h1 (by simpa using h2)
  unfold reprOk
  rw [h3, decide_eq_true this, decide_eq_true h4]
  rfl
def eqStr : O → Dat → Bool
  | .v (.dat (.str a)), .str b => decide (a = b)
  | _, _ => false
theorem eqStr_ok {o : O} {d : Dat} (h : eqStr o d = true) : ∃ a, d = .str a ∧ o = .v (.dat (.str a)) := by
  unfold eqStr at h
  split at h
  · rename_i a b
    have e : a = b := of_decide_eq_true h
    exact ⟨b, rfl, by rw [e]⟩
  · cases h
end Dl
namespace Dl
open PySem
theorem mulS {x : Str} {n : Int} (hx : x.length ≤ 1000) (h0 : 0 ≤ n) (h1 : n ≤ 1000) : gMul (.str x) (.int n) = some (.dat (.str (repS x n))) := by
  refine if_pos ⟨by omega, by omega, ?_⟩
  have : x.length * n.toNat ≤ 1000 * 1000 := Nat.mul_le_mul hx (by omega)
  rw [sizeLine_eq]
  omega
theorem cutS_gen {z : Str} {lo hi : Option Int} (h : z.length ≤ 1000) : gCut (.str z) lo hi = some (.dat (.str (L2.cutS z lo hi))) := if_pos (le16 h)
theorem cut_last {w c : Str} (hc : c.length = 1) : L2.cutS (w ++ c) none (some (w.length : Int)) = w := by
  refine TL.ext_tl ?_
  unfold L2.cutS
  show List.take _ (List.drop _ (TL.tl (w ++ c))) = _
  rw [HT.sIx_none, HT.sIx_nat, TL.tl_append]
  have e : (w ++ c).length = w.length + 1 := by
    show (w.cps ++ c.cps).size = _
    rw [Array.size_append]
    have : c.cps.size = 1 := hc
    rw [this]; rfl
  rw [e, Nat.min_eq_left (by omega)]
  simp [TL.tl, Str.length]
end Dl
namespace Dl
open PySem
theorem ln1 : (((0 + 1 : Nat)) : Int) = 1 := rfl
theorem ln2 : (((0 + 1 + 1 : Nat)) : Int) = 2 := rfl
theorem ln3 : (((0 + 1 + 1 + 1 : Nat)) : Int) = 3 := rfl
theorem ln4 : (((0 + 1 + 1 + 1 + 1 : Nat)) : Int) = 4 := rfl
theorem ln5 : (((0 + 1 + 1 + 1 + 1 + 1 : Nat)) : Int) = 5 := rfl
theorem ln6 : (((0 + 1 + 1 + 1 + 1 + 1 + 1 : Nat)) : Int) = 6 := rfl
theorem ln7 : (((0 + 1 + 1 + 1 + 1 + 1 + 1 + 1 : Nat)) : Int) = 7 := rfl
theorem ln8 : (((0 + 1 + 1 + 1 + 1 + 1 + 1 + 1 + 1 : Nat)) : Int) = 8 := rfl
theorem ln9 : (((0 + 1 + 1 + 1 + 1 + 1 + 1 + 1 + 1 + 1 : Nat)) : Int) = 9 := rfl
theorem ln10 : (((0 + 1 + 1 + 1 + 1 + 1 + 1 + 1 + 1 + 1 + 1 : Nat)) : Int) = 10 := rfl
theorem ln11 : (((0 + 1 + 1 + 1 + 1 + 1 + 1 + 1 + 1 + 1 + 1 + 1 : Nat)) : Int) = 11 := rfl
theorem ln12 : (((0 + 1 + 1 + 1 + 1 + 1 + 1 + 1 + 1 + 1 + 1 + 1 + 1 : Nat)) : Int) = 12 := rfl
theorem ln13 : (((0 + 1 + 1 + 1 + 1 + 1 + 1 + 1 + 1 + 1 + 1 + 1 + 1 + 1 : Nat)) : Int) = 13 := rfl
theorem ln14 : (((0 + 1 + 1 + 1 + 1 + 1 + 1 + 1 + 1 + 1 + 1 + 1 + 1 + 1 + 1 : Nat)) : Int) = 14 := rfl
theorem ln15 : (((0 + 1 + 1 + 1 + 1 + 1 + 1 + 1 + 1 + 1 + 1 + 1 + 1 + 1 + 1 + 1 : Nat)) : Int) = 15 := rfl
theorem ln16 : (((0 + 1 + 1 + 1 + 1 + 1 + 1 + 1 + 1 + 1 + 1 + 1 + 1 + 1 + 1 + 1 + 1 : Nat)) : Int) = 16 := rfl
theorem ln17 : (((0 + 1 + 1 + 1 + 1 + 1 + 1 + 1 + 1 + 1 + 1 + 1 + 1 + 1 + 1 + 1 + 1 + 1 : Nat)) : Int) = 17 := rfl
theorem ln18 : (((0 + 1 + 1 + 1 + 1 + 1 + 1 + 1 + 1 + 1 + 1 + 1 + 1 + 1 + 1 + 1 + 1 + 1 + 1 : Nat)) : Int) = 18 := rfl
theorem ln19 : (((0 + 1 + 1 + 1 + 1 + 1 + 1 + 1 + 1 + 1 + 1 + 1 + 1 + 1 + 1 + 1 + 1 + 1 + 1 + 1 : Nat)) : Int) = 19 := rfl
theorem ln20 : (((0 + 1 + 1 + 1 + 1 + 1 + 1 + 1 + 1 + 1 + 1 + 1 + 1 + 1 + 1 + 1 + 1 + 1 + 1 + 1 + 1 : Nat)) : Int) = 20 := rfl
theorem leaves_str {x : Str} : (PyData.str x).leavesShort 13 = x.cps.toList.all fun c => decide (c < 16 ^ 8) := by simp only [PyData.leavesShort]
theorem nice2 {x y : Str} (hx : ∀ c ∈ x.cps.toList, c < 16 ^ 8) (hy : ∀ c ∈ y.cps.toList, c < 16 ^ 8) (lx : x.length ≤ 1000) (ly : y.length ≤ 1000) : niceB (.list [.str x, .str y]) = true := by
  unfold niceB
  have e1 : (PyData.list [.str x, .str y]).leavesShort 13 = true := by
    simp only [PyData.leavesShort, PyData.leavesShortAll, Bool.and_true, Bool.and_eq_true, List.all_eq_true, decide_eq_true_eq]
    exact ⟨hx, hy⟩
  have e2 : (PyData.list [.str x, .str y]).weight ≤ 1048576 := by
    simp only [PyData.weight, PyData.weightAll]
    have a : x.cps.size ≤ 1000 := lx
    have b : y.cps.size ≤ 1000 := ly
    omega
  have e3 : (PyData.list [.str x, .str y]).showable = true := by simp only [PyData.showable, PyData.showableAll, Bool.and_self]
  have e4 : (PyData.list [.str x, .str y]).depth ≤ 100 := by simp [PyData.depth, PyData.depthAll]
  rw [e1, e3, decide_eq_true e2, decide_eq_true e4]
  rfl
end Dl
end

-- text G01
section
set_option Elab.async false
set_option linter.all false
set_option maxRecDepth 100000
set_option maxHeartbeats 4000000
/-! law_k01_letters_and_words: what its functions mean, and that they do. Printed by gen.py. -/
namespace K01
open PySem PySem.Spec PyProof.Rows L2 Dl
def top (i : Nat) : Stmt := PySem.Challenge.pw_wordsaid_k01_letters_and_words.main.body.getD i (.Pass ⟨0, 0, 0, 0⟩)
def dd_is_integer : He.DefD := ⟨("is_integer", none), "is_integer", "is_integer", defArgs (top 4), defBody (top 4), defScope (top 4), [], []⟩
def dd_is_count : He.DefD := ⟨("is_count", none), "is_count", "is_count", defArgs (top 5), defBody (top 5), defScope (top 5), [.int 0, .non], []⟩
def dd_is_letters : He.DefD := ⟨("is_letters", none), "is_letters", "is_letters", defArgs (top 6), defBody (top 6), defScope (top 6), [], []⟩
def dd_is_word : He.DefD := ⟨("is_word", none), "is_word", "is_word", defArgs (top 7), defBody (top 7), defScope (top 7), [], []⟩
def dd_words_of : He.DefD := ⟨("words_of", none), "words_of", "words_of", defArgs (top 8), defBody (top 8), defScope (top 8), [], []⟩
def dd_words_to : He.DefD := ⟨("words_to", none), "words_to", "words_to", defArgs (top 9), defBody (top 9), defScope (top 9), [], []⟩
def dd_word_after : He.DefD := ⟨("word_after", none), "word_after", "word_after", defArgs (top 10), defBody (top 10), defScope (top 10), [], []⟩
def dd__law_deck : He.DefD := ⟨("_law_deck", none), "_law_deck", "_law_deck", defArgs (top 12), defBody (top 12), defScope (top 12), [], []⟩
def dd__law_draw : He.DefD := ⟨("_law_draw", none), "_law_draw", "_law_draw", defArgs (top 13), defBody (top 13), defScope (top 13), [], []⟩
def dd__law_is : He.DefD := ⟨("_law_is", none), "_law_is", "_law_is", defArgs (top 14), defBody (top 14), defScope (top 14), [], []⟩
def dd__law_letters : He.DefD := ⟨("_law_letters", none), "_law_letters", "_law_letters", defArgs (top 15), defBody (top 15), defScope (top 15), [], []⟩
def dd__law_word : He.DefD := ⟨("_law_word", none), "_law_word", "_law_word", defArgs (top 16), defBody (top 16), defScope (top 16), [], []⟩
def dd__law_words : He.DefD := ⟨("_law_words", none), "_law_words", "_law_words", defArgs (top 17), defBody (top 17), defScope (top 17), [], []⟩
def dd_law : He.DefD := ⟨("law", none), "law", "law", defArgs (top 18), defBody (top 18), defScope (top 18), [], []⟩
def fn : List He.DefD := [dd_is_integer, dd_is_count, dd_is_letters, dd_is_word, dd_words_of, dd_words_to, dd_word_after, dd__law_deck, dd__law_draw, dd__law_is, dd__law_letters, dd__law_word, dd__law_words, dd_law]
def fa : List He.Fa := [.glo "is_integer", .glo "is_count", .glo "is_letters", .glo "is_word", .glo "words_of", .glo "words_to", .glo "word_after", .glo "_law_deck", .glo "_law_draw", .glo "_law_is", .glo "_law_letters", .glo "_law_word", .glo "_law_words", .glo "law", .free "abs", .free "all", .free "bool", .free "int", .free "isinstance", .free "len", .free "list", .free "range", .free "repr", .free "str", .free "zip", .int "LETTERS_MOST" 3, .str "SMALL" "abcdefghijklmnopqrstuvwxyz", .int "WORD_MOST" 60]
/-- what the head tells -/
structure Hd (K : PySem.W.Frag) (mg : Str → Option Value) : Prop where
  c : He.SaysD fa fn K
  g_is_integer : mg "is_integer" = some (.ref (He.fAd K ("is_integer", none)))
  g_is_count : mg "is_count" = some (.ref (He.fAd K ("is_count", none)))
  g_is_letters : mg "is_letters" = some (.ref (He.fAd K ("is_letters", none)))
  g_is_word : mg "is_word" = some (.ref (He.fAd K ("is_word", none)))
  g_words_of : mg "words_of" = some (.ref (He.fAd K ("words_of", none)))
  g_words_to : mg "words_to" = some (.ref (He.fAd K ("words_to", none)))
  g_word_after : mg "word_after" = some (.ref (He.fAd K ("word_after", none)))
  g__law_deck : mg "_law_deck" = some (.ref (He.fAd K ("_law_deck", none)))
  g__law_draw : mg "_law_draw" = some (.ref (He.fAd K ("_law_draw", none)))
  g__law_is : mg "_law_is" = some (.ref (He.fAd K ("_law_is", none)))
  g__law_letters : mg "_law_letters" = some (.ref (He.fAd K ("_law_letters", none)))
  g__law_word : mg "_law_word" = some (.ref (He.fAd K ("_law_word", none)))
  g__law_words : mg "_law_words" = some (.ref (He.fAd K ("_law_words", none)))
  g_law : mg "law" = some (.ref (He.fAd K ("law", none)))
  f_abs : mg "abs" = none
  f_all : mg "all" = none
  f_bool : mg "bool" = none
  f_int : mg "int" = none
  f_isinstance : mg "isinstance" = none
  f_len : mg "len" = none
  f_list : mg "list" = none
  f_range : mg "range" = none
  f_repr : mg "repr" = none
  f_str : mg "str" = none
  f_zip : mg "zip" = none
  c_LETTERS_MOST : ∃ t, mg "LETTERS_MOST" = some (.int (3) t)
  c_SMALL : ∃ t, mg "SMALL" = some (.str "abcdefghijklmnopqrstuvwxyz" t)
  c_WORD_MOST : ∃ t, mg "WORD_MOST" = some (.int (60) t)
theorem hd_of {K : PySem.W.Frag} {h : Heap} {mg : Str → Option Value} (X : K.In h) (G : h.Ns mainGlobals mg) (c : He.SaysD fa fn K) : Hd K mg :=
  ⟨c, He.glo_ok X G (c.fact 0 (f := .glo "is_integer") rfl), He.glo_ok X G (c.fact 1 (f := .glo "is_count") rfl), He.glo_ok X G (c.fact 2 (f := .glo "is_letters") rfl), He.glo_ok X G (c.fact 3 (f := .glo "is_word") rfl), He.glo_ok X G (c.fact 4 (f := .glo "words_of") rfl), He.glo_ok X G (c.fact 5 (f := .glo "words_to") rfl), He.glo_ok X G (c.fact 6 (f := .glo "word_after") rfl), He.glo_ok X G (c.fact 7 (f := .glo "_law_deck") rfl), He.glo_ok X G (c.fact 8 (f := .glo "_law_draw") rfl), He.glo_ok X G (c.fact 9 (f := .glo "_law_is") rfl), He.glo_ok X G (c.fact 10 (f := .glo "_law_letters") rfl), He.glo_ok X G (c.fact 11 (f := .glo "_law_word") rfl), He.glo_ok X G (c.fact 12 (f := .glo "_law_words") rfl), He.glo_ok X G (c.fact 13 (f := .glo "law") rfl), He.free_ok X G (c.fact 14 (f := .free "abs") rfl), He.free_ok X G (c.fact 15 (f := .free "all") rfl), He.free_ok X G (c.fact 16 (f := .free "bool") rfl), He.free_ok X G (c.fact 17 (f := .free "int") rfl), He.free_ok X G (c.fact 18 (f := .free "isinstance") rfl), He.free_ok X G (c.fact 19 (f := .free "len") rfl), He.free_ok X G (c.fact 20 (f := .free "list") rfl), He.free_ok X G (c.fact 21 (f := .free "range") rfl), He.free_ok X G (c.fact 22 (f := .free "repr") rfl), He.free_ok X G (c.fact 23 (f := .free "str") rfl), He.free_ok X G (c.fact 24 (f := .free "zip") rfl), He.int_ok X G (c.fact 25 (f := .int "LETTERS_MOST" 3) rfl), He.str_ok X G (c.fact 26 (f := .str "SMALL" "abcdefghijklmnopqrstuvwxyz") rfl), He.int_ok X G (c.fact 27 (f := .int "WORD_MOST" 60) rfl)⟩
def c_LETTERS_MOST : M Val := eC (.int (3))
theorem gc_LETTERS_MOST {X : Cx} {W : WX} {pos : Pos} (T : Hd X.K X.mg) (hg : Gl X "LETTERS_MOST") : ED X W (.Name "LETTERS_MOST" pos) c_LETTERS_MOST := by
  obtain ⟨t, e⟩ := T.c_LETTERS_MOST
  exact ed_glob (v := .int (3)) hg e ⟨t, rfl⟩ fun _ => rp_int
def c_SMALL : M Val := eC (.str "abcdefghijklmnopqrstuvwxyz")
theorem gc_SMALL {X : Cx} {W : WX} {pos : Pos} (T : Hd X.K X.mg) (hg : Gl X "SMALL") : ED X W (.Name "SMALL" pos) c_SMALL := by
  obtain ⟨t, e⟩ := T.c_SMALL
  exact ed_glob (v := .str "abcdefghijklmnopqrstuvwxyz") hg e ⟨t, rfl⟩ fun _ => rp_str
def c_WORD_MOST : M Val := eC (.int (60))
theorem gc_WORD_MOST {X : Cx} {W : WX} {pos : Pos} (T : Hd X.K X.mg) (hg : Gl X "WORD_MOST") : ED X W (.Name "WORD_MOST" pos) c_WORD_MOST := by
  obtain ⟨t, e⟩ := T.c_WORD_MOST
  exact ed_glob (v := .int (60)) hg e ⟨t, rfl⟩ fun _ => rp_int
/-- a def that does what is told -/
structure Fd (P : Program) (w : World) (K : PySem.W.Frag) (mg : Str → Option Value) (base : Heap) (k : Nat) (x : Str) (ps : List Str) (m : M Val) (f : Addr) (fd : FuncData) : Prop where
  df : DF P w K mg base k f fd ps m
  at_ : mg x = some (.ref f)
  kp : PySem.W.keepIn K (.ref f) = true
section
variable {P : Program} {w : World} {K : PySem.W.Frag} {mg : Str → Option Value}
/-! is_integer -/
noncomputable def b_is_integer : MS :=
    (sRet (eAnd (eIsi "int" (eVar 0)) (eNot (eIsi "bool" (eVar 0)))))
noncomputable def m_is_integer : M Val := runF 0 b_is_integer
theorem sc_is_integer : FnScope ["value"] ["value"] (defScope (top 4)) := ⟨rfl, rfl, rfl, by decide +kernel, rfl, by decide +kernel, by decide +kernel⟩
theorem ok_is_integer (T : Hd K mg) : ∃ f fd, (∀ base : Heap, Fd P w K mg base 1 "is_integer" ["value"] m_is_integer f fd) ∧ Binds K fd ["value"] [] := by
  obtain ⟨fd, F⟩ := T.c.def_ 0 (d := dd_is_integer) rfl
  have nd : (["value"] : List Str).Nodup := sc_is_integer.nd
  refine ⟨_, fd, fun base => ⟨DF.of F sc_is_integer fun cd A outer st H E hr tk po => ?_, T.g_is_integer, F.kp⟩, ?_⟩
  · have hu := hr.u64
    have hu65 := hr.u65
    exact (ssd_one (sd_ret (ed_and (ed_isi rfl T.f_isinstance (ed_var 0) rfl T.f_int (by decide +kernel)) (ed_one (ed_not (ed_isi rfl T.f_isinstance (ed_var 0) rfl T.f_bool (by decide +kernel)))))))
  · exact FunD.bindsN F fun _ _ _ _ _ _ us hl => match us, hl with | [_], _ => rfl
/-! is_letters -/
noncomputable def b_is_letters : MS :=
    (seqS (sIf (orB (notB (eTru (eIsi "str" (eVar 0)))) (notB (eTB (eChain gLe gLe (eC (.int 1)) (ePrim gLen [(eVar 0)]) c_LETTERS_MOST)))) (sRet (eC (.bool false))) sNil)
    (sRet (eAnd (ePrim gAll [(eLc (iVal (eVar 0)) (.nm 1) tYesB (eBin gIn (eVar 1) c_SMALL) [1])]) (ePrim gAll [(eLc (iPrim gZip [(eVar 0), (eCut (eVar 0) (some (eC (.int 1))) none)]) (.tp [(.nm 2), (.nm 3)]) tYesB (eBin gLt (eVar 2) (eVar 3)) [2, 3])]))))
noncomputable def m_is_letters : M Val := runF 3 b_is_letters
theorem sc_is_letters : FnScope ["value", "sign", "one", "two"] ["value"] (defScope (top 6)) := ⟨rfl, rfl, rfl, by decide +kernel, rfl, by decide +kernel, by decide +kernel⟩
theorem ok_is_letters (T : Hd K mg) : ∃ f fd, (∀ base : Heap, Fd P w K mg base 1 "is_letters" ["value"] m_is_letters f fd) ∧ Binds K fd ["value"] [] := by
  obtain ⟨fd, F⟩ := T.c.def_ 2 (d := dd_is_letters) rfl
  have nd : (["value", "sign", "one", "two"] : List Str).Nodup := sc_is_letters.nd
  refine ⟨_, fd, fun base => ⟨DF.of F sc_is_letters fun cd A outer st H E hr tk po => ?_, T.g_is_letters, F.kp⟩, ?_⟩
  · have hu := hr.u64
    have hu65 := hr.u65
    exact (ssd_cons (sd_if (td_w (wd_or (td_not (td_val (ed_isi rfl T.f_isinstance (ed_var 0) rfl T.f_str (by decide +kernel)))) (wd_or1 (td_not (td_chain op_gLe op_gLe ed_int (ed_callB cd_len rfl T.f_len (by decide +kernel) (ad_cons (ed_var 0) ad_nil)) (gc_LETTERS_MOST T rfl)))))) (ssd_one (sd_ret ed_bl)) ssd_nil)
    (ssd_one (sd_ret (ed_and (ed_callB (cd_all rfl) rfl T.f_all (by decide +kernel) (ad_cons (ed_lc rfl nd (own := [("sign", 1)]) (id_val (ed_var 0)) (blkOk_by (by kernel_rfl)) (fun _ _ _ _ _ => (gd_name 1 nd)) (fun _ _ _ _ _ => td_ifs0) (fun _ _ _ _ _ => (ed_cmp (op_gIn hu65) (ed_var 1) (gc_SMALL T rfl) (by with_unfolding_all rfl)))) ad_nil)) (ed_one (ed_callB (cd_all rfl) rfl T.f_all (by decide +kernel) (ad_cons (ed_lc rfl nd (own := [("one", 2), ("two", 3)]) (id_zip rfl T.f_zip (ad_cons (ed_var 0) (ad_cons (ed_cut (ed_var 0) (od_some ed_int) od_none) ad_nil))) (blkOk_by (by kernel_rfl)) (fun _ _ _ _ _ => (gd_tup rfl (gsd_cons (gd_name 2 nd) (gsd_cons (gd_name 3 nd) gsd_nil)))) (fun _ _ _ _ _ => td_ifs0) (fun _ _ _ _ _ => (ed_cmp op_gLt (ed_var 2) (ed_var 3) (nomark _)))) ad_nil)))))))
  · exact FunD.bindsN F fun _ _ _ _ _ _ us hl => match us, hl with | [_], _ => rfl
/-! is_word -/
noncomputable def b_is_word : MS :=
    (sRet (eAnd (eIsi "str" (eVar 1)) (eAnd (eBin gLe (ePrim gLen [(eVar 1)]) c_WORD_MOST) (ePrim gAll [(eLc (iVal (eVar 1)) (.nm 2) tYesB (eBin gIn (eVar 2) (eVar 0)) [2])]))))
noncomputable def m_is_word : M Val := runF 1 b_is_word
theorem sc_is_word : FnScope ["letters", "value", "sign"] ["letters", "value"] (defScope (top 7)) := ⟨rfl, rfl, rfl, by decide +kernel, rfl, by decide +kernel, by decide +kernel⟩
theorem ok_is_word (T : Hd K mg) : ∃ f fd, (∀ base : Heap, Fd P w K mg base 1 "is_word" ["letters", "value"] m_is_word f fd) ∧ Binds K fd ["letters", "value"] [] := by
  obtain ⟨fd, F⟩ := T.c.def_ 3 (d := dd_is_word) rfl
  have nd : (["letters", "value", "sign"] : List Str).Nodup := sc_is_word.nd
  refine ⟨_, fd, fun base => ⟨DF.of F sc_is_word fun cd A outer st H E hr tk po => ?_, T.g_is_word, F.kp⟩, ?_⟩
  · have hu := hr.u64
    have hu65 := hr.u65
    exact (ssd_one (sd_ret (ed_and (ed_isi rfl T.f_isinstance (ed_var 1) rfl T.f_str (by decide +kernel)) (ed_and (ed_cmp op_gLe (ed_callB cd_len rfl T.f_len (by decide +kernel) (ad_cons (ed_var 1) ad_nil)) (gc_WORD_MOST T rfl) (nomark _)) (ed_one (ed_callB (cd_all rfl) rfl T.f_all (by decide +kernel) (ad_cons (ed_lc rfl nd (own := [("sign", 2)]) (id_val (ed_var 1)) (blkOk_by (by kernel_rfl)) (fun _ _ _ _ _ => (gd_name 2 nd)) (fun _ _ _ _ _ => td_ifs0) (fun _ _ _ _ _ => (ed_cmp (op_gIn hu65) (ed_var 2) (ed_var 0) (by with_unfolding_all rfl)))) ad_nil)))))))
  · exact FunD.bindsN F fun _ _ _ _ _ _ us hl => match us, hl with | [_, _], _ => rfl
/-! words_of -/
noncomputable def b_words_of : MS :=
    (seqS (sSet 2 (eLst [(eC (.str ""))]))
    (seqS (sFor (iRg [(eVar 1)]) (.nm 3) (sSet 2 (eLc2 (iVal (eVar 2)) (.nm 4) tYesB (iVal (eVar 0)) (.nm 5) tYesB (eBin gAdd (eVar 4) (eVar 5)) [4, 5] [5])))
    (sRet (eVar 2))))
noncomputable def m_words_of : M Val := runF 4 b_words_of
theorem sc_words_of : FnScope ["letters", "length", "made", "_", "w", "sign"] ["letters", "length"] (defScope (top 8)) := ⟨rfl, rfl, rfl, by decide +kernel, rfl, by decide +kernel, by decide +kernel⟩
theorem ok_words_of (T : Hd K mg) : ∃ f fd, (∀ base : Heap, Fd P w K mg base 1 "words_of" ["letters", "length"] m_words_of f fd) ∧ Binds K fd ["letters", "length"] [] := by
  obtain ⟨fd, F⟩ := T.c.def_ 4 (d := dd_words_of) rfl
  have nd : (["letters", "length", "made", "_", "w", "sign"] : List Str).Nodup := sc_words_of.nd
  refine ⟨_, fd, fun base => ⟨DF.of F sc_words_of fun cd A outer st H E hr tk po => ?_, T.g_words_of, F.kp⟩, ?_⟩
  · have hu := hr.u64
    have hu65 := hr.u65
    exact (ssd_cons (sd_set 2 nd (ed_lst (ad_cons ed_str ad_nil)))
    (ssd_cons (sd_for po rfl (id_rg1 rfl T.f_range (ad_cons (ed_var 1) ad_nil)) (gd_name 3 nd) (ssd_one (sd_setLc2 rfl nd rfl rfl (sw_true rfl rfl rfl rfl) (own := [("w", 4), ("sign", 5)]) (vs1 := [5]) (id_val (ed_var 2)) (blkOk_by (by kernel_rfl)) (fun _ _ _ _ _ => (gd_name 4 nd)) (fun _ _ _ _ _ => td_ifs0) (fun _ _ _ _ _ => (id_val (ed_var 0))) (fun _ _ _ _ _ => (gd_name 5 nd)) (fun _ _ _ _ _ => td_ifs0) (fun _ _ _ _ _ => (ed_bin op_gAdd (ed_var 4) (ed_var 5))))))
    (ssd_one (sd_ret (ed_var 2)))))
  · exact FunD.bindsN F fun _ _ _ _ _ _ us hl => match us, hl with | [_, _], _ => rfl
/-! word_after -/
noncomputable def b_word_after : MS :=
    (seqS (sSet 2 (eBin gSub (ePrim gLen [(eVar 1)]) (eC (.int 1))))
    (seqS (sWhile (andB (eTB (eBin gGe (eVar 2) (eC (.int 0)))) (eTB (eBin gEq (eBin gIx (eVar 1) (eVar 2)) (eBin gIx (eVar 0) (eNeg (eC (.int 1))))))) (sAug gISub 2 (eC (.int 1))))
    (seqS (sIf (eTB (eBin gLt (eVar 2) (eC (.int 0)))) (sRet (eBin gMul (eBin gIx (eVar 0) (eC (.int 0))) (eBin gAdd (ePrim gLen [(eVar 1)]) (eC (.int 1))))) sNil)
    (seqS (sSet 3 (eBin gIx (eVar 0) (eBin gAdd (eMeth "str" gSIndex (eVar 0) [(eBin gIx (eVar 1) (eVar 2))]) (eC (.int 1)))))
    (sRet (eBin gAdd (eBin gAdd (eCut (eVar 1) none (some (eVar 2))) (eVar 3)) (eBin gMul (eBin gIx (eVar 0) (eC (.int 0))) (eBin gSub (eBin gSub (ePrim gLen [(eVar 1)]) (eC (.int 1))) (eVar 2)))))))))
noncomputable def m_word_after : M Val := runF 2 b_word_after
theorem sc_word_after : FnScope ["letters", "w", "spot", "turned"] ["letters", "w"] (defScope (top 10)) := ⟨rfl, rfl, rfl, by decide +kernel, rfl, by decide +kernel, by decide +kernel⟩
theorem ok_word_after (T : Hd K mg) : ∃ f fd, (∀ base : Heap, Fd P w K mg base 1 "word_after" ["letters", "w"] m_word_after f fd) ∧ Binds K fd ["letters", "w"] [] := by
  obtain ⟨fd, F⟩ := T.c.def_ 6 (d := dd_word_after) rfl
  have nd : (["letters", "w", "spot", "turned"] : List Str).Nodup := sc_word_after.nd
  refine ⟨_, fd, fun base => ⟨DF.of F sc_word_after fun cd A outer st H E hr tk po => ?_, T.g_word_after, F.kp⟩, ?_⟩
  · have hu := hr.u64
    have hu65 := hr.u65
    exact (ssd_cons (sd_set 2 nd (ed_bin op_gSub (ed_callB cd_len rfl T.f_len (by decide +kernel) (ad_cons (ed_var 1) ad_nil)) ed_int))
    (ssd_cons (sd_while po (td_w (wd_and (td_cmp op_gGe (ed_var 2) ed_int (nomark _)) (wd_and1 (td_cmp (op_gEq hu) (ed_ix (ed_var 1) (ed_var 2)) (ed_ix (ed_var 0) (ed_neg ed_int)) (nomark _))))) (ssd_one (sd_aug 2 nd iop_gSub ed_int)))
    (ssd_cons (sd_if (td_cmp op_gLt (ed_var 2) ed_int (nomark _)) (ssd_one (sd_ret (ed_bin op_gMul (ed_ix (ed_var 0) ed_int) (ed_bin op_gAdd (ed_callB cd_len rfl T.f_len (by decide +kernel) (ad_cons (ed_var 1) ad_nil)) ed_int)))) ssd_nil)
    (ssd_cons (sd_set 3 nd (ed_ix (ed_var 0) (ed_bin op_gAdd (ed_meth PySem.F.plainAttrs_str PySem.F.slot_str_index PySem.F.type_str_index mt_gSIndex (ed_var 0) (ad_cons (ed_ix (ed_var 1) (ed_var 2)) ad_nil)) ed_int)))
    (ssd_one (sd_ret (ed_bin op_gAdd (ed_bin op_gAdd (ed_cut (ed_var 1) od_none (od_some (ed_var 2))) (ed_var 3)) (ed_bin op_gMul (ed_ix (ed_var 0) ed_int) (ed_bin op_gSub (ed_bin op_gSub (ed_callB cd_len rfl T.f_len (by decide +kernel) (ad_cons (ed_var 1) ad_nil)) ed_int) (ed_var 2))))))))))
  · exact FunD.bindsN F fun _ _ _ _ _ _ us hl => match us, hl with | [_, _], _ => rfl
/-! _law_deck -/
noncomputable def b__law_deck : MS :=
    (seqS (sSet 1 (eC (.int 7)))
    (seqS (sFor (iScr 0) (.nm 2) (sSet 1 (eBin gMod (ePrim gInt [(eBin gAdd (eBin gMul (eVar 1) (eC (.int 48271))) (eVar 2))]) (eC (.int 2147483647)))))
    (sRet (eLst [(eC (.int 0)), (eC (.int 0)), (eVar 1), (eLsc 0), (eC (.int 0))]))))
noncomputable def m__law_deck : M Val := runF 2 b__law_deck
theorem sc__law_deck : FnScope ["script", "seed", "cell"] ["script"] (defScope (top 12)) := ⟨rfl, rfl, rfl, by decide +kernel, rfl, by decide +kernel, by decide +kernel⟩
theorem ok__law_deck (T : Hd K mg) : ∃ f fd, (∀ base : Heap, Fd P w K mg base 1 "_law_deck" ["script"] m__law_deck f fd) ∧ Binds K fd ["script"] [] := by
  obtain ⟨fd, F⟩ := T.c.def_ 7 (d := dd__law_deck) rfl
  have nd : (["script", "seed", "cell"] : List Str).Nodup := sc__law_deck.nd
  refine ⟨_, fd, fun base => ⟨DF.of F sc__law_deck fun cd A outer st H E hr tk po => ?_, T.g__law_deck, F.kp⟩, ?_⟩
  · have hu := hr.u64
    have hu65 := hr.u65
    exact (ssd_cons (sd_set 1 nd ed_int)
    (ssd_cons (sd_for po rfl (id_scr 0) (gd_name 2 nd) (ssd_one (sd_set 1 nd (ed_bin op_gMod (ed_callT cd_int rfl T.f_int (by decide +kernel) (ad_cons (ed_bin op_gAdd (ed_bin op_gMul (ed_var 1) ed_int) (ed_var 2)) ad_nil)) ed_int))))
    (ssd_one (sd_ret (ed_lst (ad_cons ed_int (ad_cons ed_int (ad_cons (ed_var 1) (ad_cons (ed_lsc 0 rfl T.f_list (by decide +kernel)) (ad_cons ed_int ad_nil))))))))))
  · exact FunD.bindsN F fun _ _ _ _ _ _ us hl => match us, hl with | [_], _ => rfl
/-! _law_draw -/
noncomputable def b__law_draw : MS :=
    (seqS (sIf (andB (eTB (eBin gEq (eBin gIx (eVar 0) (eC (.int 0))) (eC (.int 0)))) (eTB (eBin gLt (eBin gIx (eVar 0) (eC (.int 1))) (ePrim gLen [(eBin gIx (eVar 0) (eC (.int 3)))])))) (seqS (sPut gSetL 0 (eC (.int 0)) (ePrim gAbs [(eBin gIx (eBin gIx (eVar 0) (eC (.int 3))) (eBin gIx (eVar 0) (eC (.int 1))))]))
    (sPut gSetL 0 (eC (.int 1)) (eBin gAdd (eBin gIx (eVar 0) (eC (.int 1))) (eC (.int 1))))) (sIf (eTB (eBin gEq (eBin gIx (eVar 0) (eC (.int 0))) (eC (.int 0)))) (seqS (sPut gSetL 0 (eC (.int 4)) (eBin gAdd (eBin gIx (eVar 0) (eC (.int 4))) (eC (.int 1))))
    (seqS (sSet 2 (eBin gMod (ePrim gInt [(eBin gAdd (eBin gAdd (eBin gMul (eBin gIx (eVar 0) (eC (.int 2))) (eC (.int 48271))) (eBin gMul (eBin gIx (eVar 0) (eC (.int 4))) (eC (.int 69621)))) (eC (.int 12345)))]) (eC (.int 2147483647))))
    (seqS (sSet 2 (eBin gMod (ePrim gInt [(eBin gAdd (eBin gAdd (eBin gMul (eVar 2) (eVar 2)) (eBin gMul (eC (.int 16807)) (eBin gIx (eVar 0) (eC (.int 4))))) (eC (.int 7)))]) (eC (.int 998244353))))
    (seqS (sSet 2 (eBin gMod (ePrim gInt [(eBin gAdd (eBin gAdd (eBin gMul (eVar 2) (eVar 2)) (eBin gMul (eC (.int 48271)) (eBin gIx (eVar 0) (eC (.int 4))))) (eBin gIx (eVar 0) (eC (.int 2))))]) (eC (.int 2147483629))))
    (sPut gSetL 0 (eC (.int 0)) (eBin gDiv (eVar 2) (eC (.int 13)))))))) sNil))
    (seqS (sSet 3 (eBin gMod (ePrim gInt [(eBin gIx (eVar 0) (eC (.int 0)))]) (eVar 1)))
    (seqS (sPut gSetL 0 (eC (.int 0)) (eBin gDiv (eBin gIx (eVar 0) (eC (.int 0))) (eVar 1)))
    (sRet (eVar 3)))))
noncomputable def m__law_draw : M Val := runF 2 b__law_draw
theorem sc__law_draw : FnScope ["deck", "bound", "number", "value"] ["deck", "bound"] (defScope (top 13)) := ⟨rfl, rfl, rfl, by decide +kernel, rfl, by decide +kernel, by decide +kernel⟩
theorem ok__law_draw (T : Hd K mg) : ∃ f fd, (∀ base : Heap, Fd P w K mg base 1 "_law_draw" ["deck", "bound"] m__law_draw f fd) ∧ Binds K fd ["deck", "bound"] [] := by
  obtain ⟨fd, F⟩ := T.c.def_ 8 (d := dd__law_draw) rfl
  have nd : (["deck", "bound", "number", "value"] : List Str).Nodup := sc__law_draw.nd
  refine ⟨_, fd, fun base => ⟨DF.of F sc__law_draw fun cd A outer st H E hr tk po => ?_, T.g__law_draw, F.kp⟩, ?_⟩
  · have hu := hr.u64
    have hu65 := hr.u65
    exact (ssd_cons (sd_if (td_w (wd_and (td_cmp (op_gEq hu) (ed_ix (ed_var 0) ed_int) ed_int (nomark _)) (wd_and1 (td_cmp op_gLt (ed_ix (ed_var 0) ed_int) (ed_callB cd_len rfl T.f_len (by decide +kernel) (ad_cons (ed_ix (ed_var 0) ed_int) ad_nil)) (nomark _))))) (ssd_cons (sd_put 0 set_gSetL (ed_callB cd_abs rfl T.f_abs (by decide +kernel) (ad_cons (ed_ix (ed_ix (ed_var 0) ed_int) (ed_ix (ed_var 0) ed_int)) ad_nil)) ed_int)
    (ssd_one (sd_put 0 set_gSetL (ed_bin op_gAdd (ed_ix (ed_var 0) ed_int) ed_int) ed_int))) (ssd_one (sd_if (td_cmp (op_gEq hu) (ed_ix (ed_var 0) ed_int) ed_int (nomark _)) (ssd_cons (sd_put 0 set_gSetL (ed_bin op_gAdd (ed_ix (ed_var 0) ed_int) ed_int) ed_int)
    (ssd_cons (sd_set 2 nd (ed_bin op_gMod (ed_callT cd_int rfl T.f_int (by decide +kernel) (ad_cons (ed_bin op_gAdd (ed_bin op_gAdd (ed_bin op_gMul (ed_ix (ed_var 0) ed_int) ed_int) (ed_bin op_gMul (ed_ix (ed_var 0) ed_int) ed_int)) ed_int) ad_nil)) ed_int))
    (ssd_cons (sd_set 2 nd (ed_bin op_gMod (ed_callT cd_int rfl T.f_int (by decide +kernel) (ad_cons (ed_bin op_gAdd (ed_bin op_gAdd (ed_bin op_gMul (ed_var 2) (ed_var 2)) (ed_bin op_gMul ed_int (ed_ix (ed_var 0) ed_int))) ed_int) ad_nil)) ed_int))
    (ssd_cons (sd_set 2 nd (ed_bin op_gMod (ed_callT cd_int rfl T.f_int (by decide +kernel) (ad_cons (ed_bin op_gAdd (ed_bin op_gAdd (ed_bin op_gMul (ed_var 2) (ed_var 2)) (ed_bin op_gMul ed_int (ed_ix (ed_var 0) ed_int))) (ed_ix (ed_var 0) ed_int)) ad_nil)) ed_int))
    (ssd_one (sd_put 0 set_gSetL (ed_bin op_gDiv (ed_var 2) ed_int) ed_int)))))) ssd_nil)))
    (ssd_cons (sd_set 3 nd (ed_bin op_gMod (ed_callT cd_int rfl T.f_int (by decide +kernel) (ad_cons (ed_ix (ed_var 0) ed_int) ad_nil)) (ed_var 1)))
    (ssd_cons (sd_put 0 set_gSetL (ed_bin op_gDiv (ed_ix (ed_var 0) ed_int) (ed_var 1)) ed_int)
    (ssd_one (sd_ret (ed_var 3))))))
  · exact FunD.bindsN F fun _ _ _ _ _ _ us hl => match us, hl with | [_, _], _ => rfl
/-! _law_is -/
noncomputable def b__law_is : MS :=
    (sRet (eBin gEq (ePrim gRepr [(eVar 0)]) (ePrim gRepr [(eVar 1)])))
noncomputable def m__law_is : M Val := runF 0 b__law_is
theorem sc__law_is : FnScope ["value", "due"] ["value", "due"] (defScope (top 14)) := ⟨rfl, rfl, rfl, by decide +kernel, rfl, by decide +kernel, by decide +kernel⟩
theorem ok__law_is (T : Hd K mg) : ∃ f fd, (∀ base : Heap, Fd P w K mg base 1 "_law_is" ["value", "due"] m__law_is f fd) ∧ Binds K fd ["value", "due"] [] := by
  obtain ⟨fd, F⟩ := T.c.def_ 9 (d := dd__law_is) rfl
  have nd : (["value", "due"] : List Str).Nodup := sc__law_is.nd
  refine ⟨_, fd, fun base => ⟨DF.of F sc__law_is fun cd A outer st H E hr tk po => ?_, T.g__law_is, F.kp⟩, ?_⟩
  · have hu := hr.u64
    have hu65 := hr.u65
    exact (ssd_one (sd_ret (ed_cmp (op_gEq hu) (ed_callB (cd_repr hr) rfl T.f_repr (by decide +kernel) (ad_cons (ed_var 0) ad_nil)) (ed_callB (cd_repr hr) rfl T.f_repr (by decide +kernel) (ad_cons (ed_var 1) ad_nil)) (nomark _))))
  · exact FunD.bindsN F fun _ _ _ _ _ _ us hl => match us, hl with | [_, _], _ => rfl
/-! _law_words -/
noncomputable def b__law_words : MS :=
    (seqS (sPar2 2 3 (eLst [(eC (.str ""))]) (eLst [(eC (.str ""))]))
    (seqS (sFor (iRg [(eVar 1)]) (.nm 4) (seqS (sSet 5 (eLst []))
    (seqS (sFor (iVal (eVar 3)) (.nm 6) (sSet 5 (eBin gAdd (eVar 5) (eLc (iVal (eVar 0)) (.nm 7) tYesB (eBin gAdd (eVar 6) (eVar 7)) [7]))))
    (sPar2 2 3 (eBin gAdd (eVar 2) (eVar 5)) (eVar 5)))))
    (sRet (eVar 2))))
noncomputable def m__law_words : M Val := runF 6 b__law_words
theorem sc__law_words : FnScope ["letters", "length", "made", "last", "turn", "longer", "w", "c"] ["letters", "length"] (defScope (top 17)) := ⟨rfl, rfl, rfl, by decide +kernel, rfl, by decide +kernel, by decide +kernel⟩
theorem ok__law_words (T : Hd K mg) : ∃ f fd, (∀ base : Heap, Fd P w K mg base 1 "_law_words" ["letters", "length"] m__law_words f fd) ∧ Binds K fd ["letters", "length"] [] := by
  obtain ⟨fd, F⟩ := T.c.def_ 12 (d := dd__law_words) rfl
  have nd : (["letters", "length", "made", "last", "turn", "longer", "w", "c"] : List Str).Nodup := sc__law_words.nd
  refine ⟨_, fd, fun base => ⟨DF.of F sc__law_words fun cd A outer st H E hr tk po => ?_, T.g__law_words, F.kp⟩, ?_⟩
  · have hu := hr.u64
    have hu65 := hr.u65
    exact (ssd_cons (sd_par rfl nd (ad_cons (ed_lst (ad_cons ed_str ad_nil)) (ad_cons (ed_lst (ad_cons ed_str ad_nil)) ad_nil)))
    (ssd_cons (sd_for po rfl (id_rg1 rfl T.f_range (ad_cons (ed_var 1) ad_nil)) (gd_name 4 nd) (ssd_cons (sd_set 5 nd (ed_lst ad_nil))
    (ssd_cons (sd_for po rfl (id_val (ed_var 3)) (gd_name 6 nd) (ssd_one (sd_set 5 nd (ed_bin op_gAdd (ed_var 5) (ed_lc rfl nd (own := [("c", 7)]) (id_val (ed_var 0)) (blkOk_by (by kernel_rfl)) (fun _ _ _ _ _ => (gd_name 7 nd)) (fun _ _ _ _ _ => td_ifs0) (fun _ _ _ _ _ => (ed_bin op_gAdd (ed_var 6) (ed_var 7))))))))
    (ssd_one (sd_par rfl nd (ad_cons (ed_bin op_gAdd (ed_var 2) (ed_var 5)) (ad_cons (ed_var 5) ad_nil)))))))
    (ssd_one (sd_ret (ed_var 2)))))
  · exact FunD.bindsN F fun _ _ _ _ _ _ us hl => match us, hl with | [_, _], _ => rfl
/-! is_count -/
noncomputable def b_is_count : MS :=
    (seqS (sIf (orB (notB (eTru (eCall m_is_integer [] [(eVar 0)]))) (eTB (eBin gLt (eVar 0) (eVar 1)))) (sRet (eC (.bool false))) sNil)
    (sRet (eOr (eBin gIs (eVar 2) (eC .none)) (eBin gLe (eVar 0) (eVar 2)))))
noncomputable def m_is_count : M Val := runF 0 b_is_count
theorem sc_is_count : FnScope ["value", "least", "most"] ["value", "least", "most"] (defScope (top 5)) := ⟨rfl, rfl, rfl, by decide +kernel, rfl, by decide +kernel, by decide +kernel⟩
def is_count_d1 : List Dat := [.int 0, .none]
theorem is_count_r1 (F : Hp) : RpA K F is_count_d1 [V.int 0, V.non] := (.cons rp_int (.cons rp_none .nil))
def is_count_d2 : List Dat := [.none]
theorem is_count_r2 (F : Hp) : RpA K F is_count_d2 [V.non] := (.cons rp_none .nil)
theorem ok_is_count (T : Hd K mg) : ∃ f fd, (∀ base : Heap, Fd P w K mg base 2 "is_count" ["value", "least", "most"] m_is_count f fd) ∧ (∃ ds, Vals [V.int 0, V.non] ds ∧ Binds K fd ["value", "least", "most"] ds) ∧ (∃ ds, Vals [V.non] ds ∧ Binds K fd ["value", "least", "most"] ds) ∧ (∃ ds, Vals [] ds ∧ Binds K fd ["value", "least", "most"] ds) := by
  obtain ⟨fd, F⟩ := T.c.def_ 1 (d := dd_is_count) rfl
  obtain ⟨a_is_integer, e_is_integer, D_is_integer, b_is_integer_1⟩ := ok_is_integer (P := P) (w := w) T
  have nd : (["value", "least", "most"] : List Str).Nodup := sc_is_count.nd
  refine ⟨_, fd, fun base => ⟨DF.of F sc_is_count fun cd A outer st H E hr tk po => ?_, T.g_is_count, F.kp⟩, ?_, ?_, ?_⟩
  · have hu := hr.u64
    have hu65 := hr.u65
    have d_is_integer := D_is_integer base
    exact (ssd_cons (sd_if (td_w (wd_or (td_not (td_val (ed_call d_is_integer.df (hr.mono (by decide)) tk rfl d_is_integer.at_ d_is_integer.kp b_is_integer_1 .nil (fun _ => .nil) rfl (ad_cons (ed_var 0) ad_nil)))) (wd_or1 (td_cmp op_gLt (ed_var 0) (ed_var 1) (nomark _))))) (ssd_one (sd_ret ed_bl)) ssd_nil)
    (ssd_one (sd_ret (ed_or (ed_cmp op_gIs (ed_var 2) ed_none (nomark _)) (ed_one (ed_cmp op_gLe (ed_var 0) (ed_var 2) (nomark _)))))))
  · exact FunD.binds1 F 1 0 (List.cons_ne_nil _ _) rfl fun T kV doc pm an cdv ct us its hl hi => ⟨_, rfl, by match us, its, hl, hi with | [_], [_, _], _, _ => rfl⟩
  · exact FunD.binds1 F 2 1 (List.cons_ne_nil _ _) rfl fun T kV doc pm an cdv ct us its hl hi => ⟨_, rfl, by match us, its, hl, hi with | [_, _], [_, _], _, _ => rfl⟩
  · exact FunD.binds1 F 3 2 (List.cons_ne_nil _ _) rfl fun T kV doc pm an cdv ct us its hl hi => ⟨_, rfl, by match us, its, hl, hi with | [_, _, _], [_, _], _, _ => rfl⟩
/-! words_to -/
noncomputable def b_words_to : MS :=
    (seqS (sSet 2 (eLst []))
    (seqS (sFor (iRg [(eBin gAdd (eVar 1) (eC (.int 1)))]) (.nm 3) (sExpr (eMut "list" gExtend 2 [(eCall m_words_of [] [(eVar 0), (eVar 3)])])))
    (sRet (eVar 2))))
noncomputable def m_words_to : M Val := runF 2 b_words_to
theorem sc_words_to : FnScope ["letters", "length", "made", "size"] ["letters", "length"] (defScope (top 9)) := ⟨rfl, rfl, rfl, by decide +kernel, rfl, by decide +kernel, by decide +kernel⟩
theorem ok_words_to (T : Hd K mg) : ∃ f fd, (∀ base : Heap, Fd P w K mg base 2 "words_to" ["letters", "length"] m_words_to f fd) ∧ Binds K fd ["letters", "length"] [] := by
  obtain ⟨fd, F⟩ := T.c.def_ 5 (d := dd_words_to) rfl
  obtain ⟨a_words_of, e_words_of, D_words_of, b_words_of_2⟩ := ok_words_of (P := P) (w := w) T
  have nd : (["letters", "length", "made", "size"] : List Str).Nodup := sc_words_to.nd
  refine ⟨_, fd, fun base => ⟨DF.of F sc_words_to fun cd A outer st H E hr tk po => ?_, T.g_words_to, F.kp⟩, ?_⟩
  · have hu := hr.u64
    have hu65 := hr.u65
    have d_words_of := D_words_of base
    exact (ssd_cons (sd_set 2 nd (ed_lst ad_nil))
    (ssd_cons (sd_for po rfl (id_rg1 rfl T.f_range (ad_cons (ed_bin op_gAdd (ed_var 1) ed_int) ad_nil)) (gd_name 3 nd) (ssd_one (sd_expr (ed_mut 2 PySem.F.plainAttrs_list PySem.F.slot_list_extend PySem.F.type_list_extend mu_extend (ad_cons (ed_call d_words_of.df (hr.mono (by decide)) tk rfl d_words_of.at_ d_words_of.kp b_words_of_2 .nil (fun _ => .nil) rfl (ad_cons (ed_var 0) (ad_cons (ed_var 3) ad_nil))) ad_nil)))))
    (ssd_one (sd_ret (ed_var 2)))))
  · exact FunD.bindsN F fun _ _ _ _ _ _ us hl => match us, hl with | [_, _], _ => rfl
/-! _law_letters -/
noncomputable def b__law_letters : MS :=
    (sRet (eBin gIx (eLst [(eC (.str "ab")), (eC (.str "ab")), (eC (.str "a")), (eC (.str "abc")), (eC (.str "ac")), (eC (.str "xz")), (eC (.str "ab"))]) (eCallR m__law_draw [] 0 [(eC (.int 7))])))
noncomputable def m__law_letters : M Val := runF 0 b__law_letters
theorem sc__law_letters : FnScope ["deck"] ["deck"] (defScope (top 15)) := ⟨rfl, rfl, rfl, by decide +kernel, rfl, by decide +kernel, by decide +kernel⟩
theorem ok__law_letters (T : Hd K mg) : ∃ f fd, (∀ base : Heap, Fd P w K mg base 2 "_law_letters" ["deck"] m__law_letters f fd) ∧ Binds K fd ["deck"] [] := by
  obtain ⟨fd, F⟩ := T.c.def_ 10 (d := dd__law_letters) rfl
  obtain ⟨a__law_draw, e__law_draw, D__law_draw, b__law_draw_2⟩ := ok__law_draw (P := P) (w := w) T
  have nd : (["deck"] : List Str).Nodup := sc__law_letters.nd
  refine ⟨_, fd, fun base => ⟨DF.of F sc__law_letters fun cd A outer st H E hr tk po => ?_, T.g__law_letters, F.kp⟩, ?_⟩
  · have hu := hr.u64
    have hu65 := hr.u65
    have d__law_draw := D__law_draw base
    exact (ssd_one (sd_ret (ed_ix (ed_lst (ad_cons ed_str (ad_cons ed_str (ad_cons ed_str (ad_cons ed_str (ad_cons ed_str (ad_cons ed_str (ad_cons ed_str ad_nil)))))))) (ed_callR 0 d__law_draw.df (hr.mono (by decide)) tk rfl d__law_draw.at_ d__law_draw.kp b__law_draw_2 .nil (fun _ => .nil) rfl (ad_cons ed_int ad_nil)))))
  · exact FunD.bindsN F fun _ _ _ _ _ _ us hl => match us, hl with | [_], _ => rfl
/-! _law_word -/
noncomputable def b__law_word : MS :=
    (sRet (eMeth "str" gJoin (eC (.str "")) [(eLc (iRg [(eCallR m__law_draw [] 0 [(eBin gAdd (eVar 2) (eC (.int 1)))])]) (.nm 3) tYesB (eBin gIx (eVar 1) (eCallR m__law_draw [] 0 [(ePrim gLen [(eVar 1)])])) [3])]))
noncomputable def m__law_word : M Val := runF 1 b__law_word
theorem sc__law_word : FnScope ["deck", "letters", "most", "k"] ["deck", "letters", "most"] (defScope (top 16)) := ⟨rfl, rfl, rfl, by decide +kernel, rfl, by decide +kernel, by decide +kernel⟩
theorem ok__law_word (T : Hd K mg) : ∃ f fd, (∀ base : Heap, Fd P w K mg base 2 "_law_word" ["deck", "letters", "most"] m__law_word f fd) ∧ Binds K fd ["deck", "letters", "most"] [] := by
  obtain ⟨fd, F⟩ := T.c.def_ 11 (d := dd__law_word) rfl
  obtain ⟨a__law_draw, e__law_draw, D__law_draw, b__law_draw_2⟩ := ok__law_draw (P := P) (w := w) T
  have nd : (["deck", "letters", "most", "k"] : List Str).Nodup := sc__law_word.nd
  refine ⟨_, fd, fun base => ⟨DF.of F sc__law_word fun cd A outer st H E hr tk po => ?_, T.g__law_word, F.kp⟩, ?_⟩
  · have hu := hr.u64
    have hu65 := hr.u65
    have d__law_draw := D__law_draw base
    exact (ssd_one (sd_ret (ed_meth PySem.F.plainAttrs_str PySem.F.slot_str_join PySem.F.type_str_join mt_gJoin ed_str (ad_cons (ed_lc rfl nd (own := [("k", 3)]) (id_rg1 rfl T.f_range (ad_cons (ed_callR 0 d__law_draw.df (hr.mono (by decide)) tk rfl d__law_draw.at_ d__law_draw.kp b__law_draw_2 .nil (fun _ => .nil) rfl (ad_cons (ed_bin op_gAdd (ed_var 2) ed_int) ad_nil)) ad_nil)) (blkOk_by (by kernel_rfl)) (fun _ _ _ _ _ => (gd_name 3 nd)) (fun _ _ _ _ _ => td_ifs0) (fun _ _ _ _ _ => (ed_ix (ed_var 1) (ed_callR 0 d__law_draw.df (hr.mono (by decide)) takes0 rfl d__law_draw.at_ d__law_draw.kp b__law_draw_2 .nil (fun _ => .nil) rfl (ad_cons (ed_callB cd_len rfl T.f_len (by decide +kernel) (ad_cons (ed_var 1) ad_nil)) ad_nil))))) ad_nil))))
  · exact FunD.bindsN F fun _ _ _ _ _ _ us hl => match us, hl with | [_, _, _], _ => rfl
/-! law -/
noncomputable def b_law_20 : MS := (sRet (eCall m__law_is [] [(eLst [(eCall m_word_after [] [(eVar 2), (eVar 17)]), (eCall m_word_after [] [(eVar 2), (eBin gAdd (eVar 10) (eBin gIx (eVar 2) (eC (.int 0))))])]), (eLst [(eBin gMul (eBin gIx (eVar 2) (eC (.int 0))) (eBin gAdd (ePrim gLen [(eVar 17)]) (eC (.int 1)))), (eVar 18)])]))
noncomputable def b_law_19 : MS := seqS (sSet 18 (eBin gAdd (eVar 10) (eBin gIx (eLst [(eBin gMul (eBin gIx (eVar 2) (eC (.int 0))) (eC (.int 2))), (eCut (eVar 2) (some (eC (.int 1))) (some (eC (.int 2))))]) (ePrim gInt [(eBin gGt (ePrim gLen [(eVar 2)]) (eC (.int 1)))])))) b_law_20
noncomputable def b_law_18 : MS := seqS (sSet 17 (eBin gMul (eBin gIx (eVar 2) (eNeg (eC (.int 1)))) (eCallR m__law_draw [] 1 [(eC (.int 20))]))) b_law_19
noncomputable def b_law_17 : MS := seqS (sIf (eTB (eBin gNe (eCall m_word_after [] [(eVar 2), (eBin gIx (eVar 14) (eVar 15))]) (eBin gIx (eVar 16) (eBin gAdd (eVar 15) (eC (.int 1)))))) (sRet (eC (.bool false))) sNil) b_law_18
noncomputable def b_law_16 : MS := seqS (sSet 16 (eCall m__law_words [] [(eVar 2), (eBin gAdd (eVar 13) (eC (.int 1)))])) b_law_17
noncomputable def b_law_15 : MS := seqS (sSet 15 (eCallR m__law_draw [] 1 [(ePrim gLen [(eVar 14)])])) b_law_16
noncomputable def b_law_14 : MS := seqS (sIf (notB (eTru (eCall m__law_is [] [(eCall m_words_to [] [(eVar 2), (eVar 13)]), (eVar 14)]))) (sRet (eC (.bool false))) sNil) b_law_15
noncomputable def b_law_13 : MS := seqS (sSet 14 (eCall m__law_words [] [(eVar 2), (eVar 13)])) b_law_14
noncomputable def b_law_12 : MS := seqS (sSet 13 (eCallR m__law_draw [] 1 [(eVar 7)])) b_law_13
noncomputable def b_law_11 : MS := seqS (sSet 7 (eBin gIx (eLst [(eC (.int 8)), (eC (.int 8)), (eC (.int 6)), (eC (.int 5))]) (ePrim gLen [(eVar 2)]))) b_law_12
noncomputable def b_law_10 : MS := seqS (sIf (notB (eTru (eCall m__law_is [] [(eCall m_is_word [] [(eVar 2), (eVar 4)]), (eVar 12)]))) (sRet (eC (.bool false))) sNil) b_law_11
noncomputable def b_law_9 : MS := seqS (sSet 12 (eAnd (eIsi "str" (eVar 4)) (eAnd (eBin gLt (ePrim gLen [(eVar 4)]) (eC (.int 61))) (ePrim gAll [(eLc (iVal (eVar 4)) (.nm 19) tYesB (eBin gIn (eVar 19) (eVar 2)) [19])])))) b_law_10
noncomputable def b_law_8 : MS := seqS (sSet 4 (eBin gIx (eVar 11) (eCallR m__law_draw [] 1 [(eC (.int 7))]))) b_law_9
noncomputable def b_law_7 : MS := seqS (sSet 11 (eLst [(eVar 10), (eBin gAdd (eVar 10) (eC (.str "b"))), (eBin gAdd (eVar 10) (eC (.str "1"))), (eC .none), (eLst [(eVar 10)]), (eBin gMul (eBin gIx (eVar 2) (eC (.int 0))) (eBin gAdd (eC (.int 58)) (eCallR m__law_draw [] 1 [(eC (.int 5))]))), (eC (.str ""))])) b_law_8
noncomputable def b_law_6 : MS := seqS (sSet 10 (eCallR m__law_word [] 1 [(eVar 2), (eC (.int 12))])) b_law_7
noncomputable def b_law_5 : MS := seqS (sIf (notB (eTru (eCall m__law_is [] [(eCall m_is_letters [] [(eVar 4)]), (eBin gIn (eVar 4) (eLst [(eC (.str "ab")), (eC (.str "a")), (eC (.str "xyz")), (eC (.str "az"))]))]))) (sRet (eC (.bool false))) sNil) b_law_6
noncomputable def b_law_4 : MS := seqS (sSet 4 (eBin gIx (eVar 9) (eCallR m__law_draw [] 1 [(ePrim gLen [(eVar 9)])]))) b_law_5
noncomputable def b_law_3 : MS := seqS (sSet 9 (eLst [(eC (.str "ab")), (eC (.str "ba")), (eC (.str "aa")), (eC (.str "")), (eC (.str "abcd")), (eC (.str "a")), (eC (.str "xyz")), (eC (.str "Ab")), (eC (.str "a1")), (eC .none), (eLst [(eC (.str "a"))]), (eC (.int 3)), (eC (.str "az")), (eC (.str "abb")), (eC (.bool true))])) b_law_4
noncomputable def b_law_2 : MS := seqS (sFor (iRg [(eC (.int 4))]) (.nm 3) (seqS (sSet 4 (eBin gIx (eLst [(eC .none), (eC (.bool true)), (eC (.str "3")), (eTup [(eC (.int 3))]), (eLst [(eC (.int 5))]), (eBin gSub (eCallR m__law_draw [] 1 [(eC (.int 80))]) (eC (.int 10))), (eC (.int 0)), (eBin gPow (eC (.int 10)) (eC (.int 20)))]) (eCallR m__law_draw [] 1 [(eC (.int 8))])))
    (seqS (sSet 5 (eAnd (eIsi "int" (eVar 4)) (eNot (eIsi "bool" (eVar 4)))))
    (seqS (sPar2 6 7 (eBin gSub (eCallR m__law_draw [] 1 [(eC (.int 12))]) (eC (.int 6))) (eCallR m__law_draw [] 1 [(eC (.int 70))]))
    (seqS (sSet 8 (eLst [(eCall m_is_count is_count_d1 [(eVar 4)]), (eCall m_is_count is_count_d2 [(eVar 4), (eVar 6)]), (eCall m_is_count [] [(eVar 4), (eVar 6), (eVar 7)])]))
    (sIf (notB (eTru (eCall m__law_is [] [(eVar 8), (eLst [(eAnd (eVar 5) (eBin gGe (eVar 4) (eC (.int 0)))), (eAnd (eVar 5) (eBin gGe (eVar 4) (eVar 6))), (eAnd (eVar 5) (eChain gLe gLe (eVar 6) (eVar 4) (eVar 7)))])]))) (sRet (eC (.bool false))) sNil)))))) b_law_3
noncomputable def b_law_1 : MS := seqS (sSet 2 (eCallR m__law_letters [] 1 [])) b_law_2
noncomputable def b_law : MS := seqS (sSet 1 (eCallS m__law_deck 0)) b_law_1
noncomputable def m_law : M Val := runF 19 b_law
theorem sc_law : FnScope ["script", "deck", "letters", "turn", "item", "whole", "least", "most", "told", "rows", "word", "items", "good", "length", "every", "at", "longer", "end", "due", "c"] ["script"] (defScope (top 18)) := ⟨rfl, rfl, rfl, by decide +kernel, rfl, by decide +kernel, by decide +kernel⟩
theorem ok_law (T : Hd K mg) : ∃ f fd, (∀ base : Heap, Fd P w K mg base 3 "law" ["script"] m_law f fd) ∧ (∀ (s : Shared) (u : Value), BindsTo s fd ⟨[u], []⟩ [("script", u)]) := by
  obtain ⟨fd, F⟩ := T.c.def_ 13 (d := dd_law) rfl
  obtain ⟨a_is_count, e_is_count, D_is_count, ⟨w_is_count_1, v_is_count_1, b_is_count_1⟩, ⟨w_is_count_2, v_is_count_2, b_is_count_2⟩, ⟨w_is_count_3, v_is_count_3, b_is_count_3⟩⟩ := ok_is_count (P := P) (w := w) T
  obtain ⟨a_is_letters, e_is_letters, D_is_letters, b_is_letters_1⟩ := ok_is_letters (P := P) (w := w) T
  obtain ⟨a_is_word, e_is_word, D_is_word, b_is_word_2⟩ := ok_is_word (P := P) (w := w) T
  obtain ⟨a_words_to, e_words_to, D_words_to, b_words_to_2⟩ := ok_words_to (P := P) (w := w) T
  obtain ⟨a_word_after, e_word_after, D_word_after, b_word_after_2⟩ := ok_word_after (P := P) (w := w) T
  obtain ⟨a__law_deck, e__law_deck, D__law_deck, b__law_deck_1⟩ := ok__law_deck (P := P) (w := w) T
  obtain ⟨a__law_draw, e__law_draw, D__law_draw, b__law_draw_2⟩ := ok__law_draw (P := P) (w := w) T
  obtain ⟨a__law_is, e__law_is, D__law_is, b__law_is_2⟩ := ok__law_is (P := P) (w := w) T
  obtain ⟨a__law_letters, e__law_letters, D__law_letters, b__law_letters_1⟩ := ok__law_letters (P := P) (w := w) T
  obtain ⟨a__law_word, e__law_word, D__law_word, b__law_word_3⟩ := ok__law_word (P := P) (w := w) T
  obtain ⟨a__law_words, e__law_words, D__law_words, b__law_words_2⟩ := ok__law_words (P := P) (w := w) T
  have nd : (["script", "deck", "letters", "turn", "item", "whole", "least", "most", "told", "rows", "word", "items", "good", "length", "every", "at", "longer", "end", "due", "c"] : List Str).Nodup := sc_law.nd
  refine ⟨_, fd, fun base => ⟨DF.of F sc_law fun cd A outer st H E hr tk po => ?_, T.g_law, F.kp⟩, ?_⟩
  · have hu := hr.u64
    have hu65 := hr.u65
    have d_is_count := D_is_count base
    have d_is_letters := D_is_letters base
    have d_is_word := D_is_word base
    have d_words_to := D_words_to base
    have d_word_after := D_word_after base
    have d__law_deck := D__law_deck base
    have d__law_draw := D__law_draw base
    have d__law_is := D__law_is base
    have d__law_letters := D__law_letters base
    have d__law_word := D__law_word base
    have d__law_words := D__law_words base
    exact (ssd_cons (sd_set 1 nd (ed_callS 0 d__law_deck.df (hr.mono (by decide)) tk rfl d__law_deck.at_ d__law_deck.kp b__law_deck_1 rfl))
    (ssd_cons (sd_set 2 nd (ed_callR 1 d__law_letters.df (hr.mono (by decide)) tk rfl d__law_letters.at_ d__law_letters.kp b__law_letters_1 .nil (fun _ => .nil) rfl ad_nil))
    (ssd_cons (sd_for po rfl (id_rg1 rfl T.f_range (ad_cons ed_int ad_nil)) (gd_name 3 nd) (ssd_cons (sd_set 4 nd (ed_ix (ed_lst (ad_cons ed_none (ad_cons ed_bl (ad_cons ed_str (ad_cons (ed_tup (ad_cons ed_int ad_nil)) (ad_cons (ed_lst (ad_cons ed_int ad_nil)) (ad_cons (ed_bin op_gSub (ed_callR 1 d__law_draw.df (hr.mono (by decide)) tk rfl d__law_draw.at_ d__law_draw.kp b__law_draw_2 .nil (fun _ => .nil) rfl (ad_cons ed_int ad_nil)) ed_int) (ad_cons ed_int (ad_cons (ed_bin op_gPow ed_int ed_int) ad_nil))))))))) (ed_callR 1 d__law_draw.df (hr.mono (by decide)) tk rfl d__law_draw.at_ d__law_draw.kp b__law_draw_2 .nil (fun _ => .nil) rfl (ad_cons ed_int ad_nil))))
    (ssd_cons (sd_set 5 nd (ed_and (ed_isi rfl T.f_isinstance (ed_var 4) rfl T.f_int (by decide +kernel)) (ed_one (ed_not (ed_isi rfl T.f_isinstance (ed_var 4) rfl T.f_bool (by decide +kernel))))))
    (ssd_cons (sd_par rfl nd (ad_cons (ed_bin op_gSub (ed_callR 1 d__law_draw.df (hr.mono (by decide)) tk rfl d__law_draw.at_ d__law_draw.kp b__law_draw_2 .nil (fun _ => .nil) rfl (ad_cons ed_int ad_nil)) ed_int) (ad_cons (ed_callR 1 d__law_draw.df (hr.mono (by decide)) tk rfl d__law_draw.at_ d__law_draw.kp b__law_draw_2 .nil (fun _ => .nil) rfl (ad_cons ed_int ad_nil)) ad_nil)))
    (ssd_cons (sd_set 8 nd (ed_lst (ad_cons (ed_call d_is_count.df (hr.mono (by decide)) tk rfl d_is_count.at_ d_is_count.kp b_is_count_1 v_is_count_1 is_count_r1 rfl (ad_cons (ed_var 4) ad_nil)) (ad_cons (ed_call d_is_count.df (hr.mono (by decide)) tk rfl d_is_count.at_ d_is_count.kp b_is_count_2 v_is_count_2 is_count_r2 rfl (ad_cons (ed_var 4) (ad_cons (ed_var 6) ad_nil))) (ad_cons (ed_call d_is_count.df (hr.mono (by decide)) tk rfl d_is_count.at_ d_is_count.kp b_is_count_3 v_is_count_3 (fun _ => .nil) rfl (ad_cons (ed_var 4) (ad_cons (ed_var 6) (ad_cons (ed_var 7) ad_nil)))) ad_nil)))))
    (ssd_one (sd_if (td_not (td_val (ed_call d__law_is.df (hr.mono (by decide)) tk rfl d__law_is.at_ d__law_is.kp b__law_is_2 .nil (fun _ => .nil) rfl (ad_cons (ed_var 8) (ad_cons (ed_lst (ad_cons (ed_and (ed_var 5) (ed_one (ed_cmp op_gGe (ed_var 4) ed_int (nomark _)))) (ad_cons (ed_and (ed_var 5) (ed_one (ed_cmp op_gGe (ed_var 4) (ed_var 6) (nomark _)))) (ad_cons (ed_and (ed_var 5) (ed_one (ed_chain op_gLe op_gLe (ed_var 6) (ed_var 4) (ed_var 7)))) ad_nil)))) ad_nil))))) (ssd_one (sd_ret ed_bl)) ssd_nil)))))))
    (ssd_cons (sd_set 9 nd (ed_lst (ad_cons ed_str (ad_cons ed_str (ad_cons ed_str (ad_cons ed_str (ad_cons ed_str (ad_cons ed_str (ad_cons ed_str (ad_cons ed_str (ad_cons ed_str (ad_cons ed_none (ad_cons (ed_lst (ad_cons ed_str ad_nil)) (ad_cons ed_int (ad_cons ed_str (ad_cons ed_str (ad_cons ed_bl ad_nil)))))))))))))))))
    (ssd_cons (sd_set 4 nd (ed_ix (ed_var 9) (ed_callR 1 d__law_draw.df (hr.mono (by decide)) tk rfl d__law_draw.at_ d__law_draw.kp b__law_draw_2 .nil (fun _ => .nil) rfl (ad_cons (ed_callB cd_len rfl T.f_len (by decide +kernel) (ad_cons (ed_var 9) ad_nil)) ad_nil))))
    (ssd_cons (sd_if (td_not (td_val (ed_call d__law_is.df (hr.mono (by decide)) tk rfl d__law_is.at_ d__law_is.kp b__law_is_2 .nil (fun _ => .nil) rfl (ad_cons (ed_call d_is_letters.df (hr.mono (by decide)) tk rfl d_is_letters.at_ d_is_letters.kp b_is_letters_1 .nil (fun _ => .nil) rfl (ad_cons (ed_var 4) ad_nil)) (ad_cons (ed_cmp (op_gIn hu65) (ed_var 4) (ed_lst (ad_cons ed_str (ad_cons ed_str (ad_cons ed_str (ad_cons ed_str ad_nil))))) (by with_unfolding_all rfl)) ad_nil))))) (ssd_one (sd_ret ed_bl)) ssd_nil)
    (ssd_cons (sd_set 10 nd (ed_callR 1 d__law_word.df (hr.mono (by decide)) tk rfl d__law_word.at_ d__law_word.kp b__law_word_3 .nil (fun _ => .nil) rfl (ad_cons (ed_var 2) (ad_cons ed_int ad_nil))))
    (ssd_cons (sd_set 11 nd (ed_lst (ad_cons (ed_var 10) (ad_cons (ed_bin op_gAdd (ed_var 10) ed_str) (ad_cons (ed_bin op_gAdd (ed_var 10) ed_str) (ad_cons ed_none (ad_cons (ed_lst (ad_cons (ed_var 10) ad_nil)) (ad_cons (ed_bin op_gMul (ed_ix (ed_var 2) ed_int) (ed_bin op_gAdd ed_int (ed_callR 1 d__law_draw.df (hr.mono (by decide)) tk rfl d__law_draw.at_ d__law_draw.kp b__law_draw_2 .nil (fun _ => .nil) rfl (ad_cons ed_int ad_nil)))) (ad_cons ed_str ad_nil)))))))))
    (ssd_cons (sd_set 4 nd (ed_ix (ed_var 11) (ed_callR 1 d__law_draw.df (hr.mono (by decide)) tk rfl d__law_draw.at_ d__law_draw.kp b__law_draw_2 .nil (fun _ => .nil) rfl (ad_cons ed_int ad_nil))))
    (ssd_cons (sd_set 12 nd (ed_and (ed_isi rfl T.f_isinstance (ed_var 4) rfl T.f_str (by decide +kernel)) (ed_and (ed_cmp op_gLt (ed_callB cd_len rfl T.f_len (by decide +kernel) (ad_cons (ed_var 4) ad_nil)) ed_int (nomark _)) (ed_one (ed_callB (cd_all rfl) rfl T.f_all (by decide +kernel) (ad_cons (ed_lc rfl nd (own := [("c", 19)]) (id_val (ed_var 4)) (blkOk_by (by kernel_rfl)) (fun _ _ _ _ _ => (gd_name 19 nd)) (fun _ _ _ _ _ => td_ifs0) (fun _ _ _ _ _ => (ed_cmp (op_gIn hu65) (ed_var 19) (ed_var 2) (by with_unfolding_all rfl)))) ad_nil))))))
    (ssd_cons (sd_if (td_not (td_val (ed_call d__law_is.df (hr.mono (by decide)) tk rfl d__law_is.at_ d__law_is.kp b__law_is_2 .nil (fun _ => .nil) rfl (ad_cons (ed_call d_is_word.df (hr.mono (by decide)) tk rfl d_is_word.at_ d_is_word.kp b_is_word_2 .nil (fun _ => .nil) rfl (ad_cons (ed_var 2) (ad_cons (ed_var 4) ad_nil))) (ad_cons (ed_var 12) ad_nil))))) (ssd_one (sd_ret ed_bl)) ssd_nil)
    (ssd_cons (sd_set 7 nd (ed_ix (ed_lst (ad_cons ed_int (ad_cons ed_int (ad_cons ed_int (ad_cons ed_int ad_nil))))) (ed_callB cd_len rfl T.f_len (by decide +kernel) (ad_cons (ed_var 2) ad_nil))))
    (ssd_cons (sd_set 13 nd (ed_callR 1 d__law_draw.df (hr.mono (by decide)) tk rfl d__law_draw.at_ d__law_draw.kp b__law_draw_2 .nil (fun _ => .nil) rfl (ad_cons (ed_var 7) ad_nil)))
    (ssd_cons (sd_set 14 nd (ed_call d__law_words.df (hr.mono (by decide)) tk rfl d__law_words.at_ d__law_words.kp b__law_words_2 .nil (fun _ => .nil) rfl (ad_cons (ed_var 2) (ad_cons (ed_var 13) ad_nil))))
    (ssd_cons (sd_if (td_not (td_val (ed_call d__law_is.df (hr.mono (by decide)) tk rfl d__law_is.at_ d__law_is.kp b__law_is_2 .nil (fun _ => .nil) rfl (ad_cons (ed_call d_words_to.df (hr.mono (by decide)) tk rfl d_words_to.at_ d_words_to.kp b_words_to_2 .nil (fun _ => .nil) rfl (ad_cons (ed_var 2) (ad_cons (ed_var 13) ad_nil))) (ad_cons (ed_var 14) ad_nil))))) (ssd_one (sd_ret ed_bl)) ssd_nil)
    (ssd_cons (sd_set 15 nd (ed_callR 1 d__law_draw.df (hr.mono (by decide)) tk rfl d__law_draw.at_ d__law_draw.kp b__law_draw_2 .nil (fun _ => .nil) rfl (ad_cons (ed_callB cd_len rfl T.f_len (by decide +kernel) (ad_cons (ed_var 14) ad_nil)) ad_nil)))
    (ssd_cons (sd_set 16 nd (ed_call d__law_words.df (hr.mono (by decide)) tk rfl d__law_words.at_ d__law_words.kp b__law_words_2 .nil (fun _ => .nil) rfl (ad_cons (ed_var 2) (ad_cons (ed_bin op_gAdd (ed_var 13) ed_int) ad_nil))))
    (ssd_cons (sd_if (td_cmp (op_gNe hu) (ed_call d_word_after.df (hr.mono (by decide)) tk rfl d_word_after.at_ d_word_after.kp b_word_after_2 .nil (fun _ => .nil) rfl (ad_cons (ed_var 2) (ad_cons (ed_ix (ed_var 14) (ed_var 15)) ad_nil))) (ed_ix (ed_var 16) (ed_bin op_gAdd (ed_var 15) ed_int)) (nomark _)) (ssd_one (sd_ret ed_bl)) ssd_nil)
    (ssd_cons (sd_set 17 nd (ed_bin op_gMul (ed_ix (ed_var 2) (ed_neg ed_int)) (ed_callR 1 d__law_draw.df (hr.mono (by decide)) tk rfl d__law_draw.at_ d__law_draw.kp b__law_draw_2 .nil (fun _ => .nil) rfl (ad_cons ed_int ad_nil))))
    (ssd_cons (sd_set 18 nd (ed_bin op_gAdd (ed_var 10) (ed_ix (ed_lst (ad_cons (ed_bin op_gMul (ed_ix (ed_var 2) ed_int) ed_int) (ad_cons (ed_cut (ed_var 2) (od_some ed_int) (od_some ed_int)) ad_nil))) (ed_callT cd_int rfl T.f_int (by decide +kernel) (ad_cons (ed_cmp op_gGt (ed_callB cd_len rfl T.f_len (by decide +kernel) (ad_cons (ed_var 2) ad_nil)) ed_int (nomark _)) ad_nil)))))
    (ssd_one (sd_ret (ed_call d__law_is.df (hr.mono (by decide)) tk rfl d__law_is.at_ d__law_is.kp b__law_is_2 .nil (fun _ => .nil) rfl (ad_cons (ed_lst (ad_cons (ed_call d_word_after.df (hr.mono (by decide)) tk rfl d_word_after.at_ d_word_after.kp b_word_after_2 .nil (fun _ => .nil) rfl (ad_cons (ed_var 2) (ad_cons (ed_var 17) ad_nil))) (ad_cons (ed_call d_word_after.df (hr.mono (by decide)) tk rfl d_word_after.at_ d_word_after.kp b_word_after_2 .nil (fun _ => .nil) rfl (ad_cons (ed_var 2) (ad_cons (ed_bin op_gAdd (ed_var 10) (ed_ix (ed_var 2) ed_int)) ad_nil))) ad_nil))) (ad_cons (ed_lst (ad_cons (ed_bin op_gMul (ed_ix (ed_var 2) ed_int) (ed_bin op_gAdd (ed_callB cd_len rfl T.f_len (by decide +kernel) (ad_cons (ed_var 17) ad_nil)) ed_int)) (ad_cons (ed_var 18) ad_nil))) ad_nil)))))))))))))))))))))))))
  · exact fun s v => FunD.bindsA (ps := ["script"]) F (fun _ _ _ _ _ _ us hl => match us, hl with | [_], _ => rfl) s [v] rfl
end
abbrev R : PySem.W.OpenRow := PySem.W.OpenLaw.row PySem.Challenge.rw_wordsaid_k01_letters_and_words
abbrev hk : PySem.W.Hook := He.hookD 4 fa fn
def ob (s : PySem.W.SharedT) : He.AlD := He.obsDG 4 fa fn (HandSHeadRun.getT s)
theorem ob_eq (s : PySem.W.SharedT) : ob s = hk.obs s.abs := He.obsDG_eq (HandSHeadRun.getT_eq s)
def loose0 : List Str := ["WORD_MOST", "LETTERS_MOST", "SMALL", "is_integer", "is_count", "is_letters", "is_word", "words_of", "words_to", "word_after", "_law_deck", "_law_draw", "_law_is", "_law_letters", "_law_word", "_law_words"]
def loose : List Str := loose0
theorem run (w : World) : HandSHeadRun.RunEq R (PySem.W.view R.prog [18]) hk ob 1500 loose w := by
  intro os
  kernel_rfl
end K01
open PySem PySem.W PySem.Calls PyProof.Rows
theorem K01.holds_of (hlaw : ∀ ns : List Int, ns.length ≤ 63 → ∃ ρ, K01.m_law [.scr ns] = .ok (.dat (.bool true)) ρ) : PySem.Challenge.rw_wordsaid_k01_letters_and_words.Holds := by
  w_on; o_law
  refine HandSHeadRun.head_any (r := OpenLaw.row PySem.Challenge.rw_wordsaid_k01_letters_and_words) (q := view (OpenLaw.row PySem.Challenge.rw_wordsaid_k01_letters_and_words).prog [18]) (H := K01.hk) (ob := K01.ob) (M := 1500) (loose := K01.loose) (d := HandSHeadRun.topDef (OpenLaw.row PySem.Challenge.rw_wordsaid_k01_letters_and_words).prog 18) (kwd := []) K01.ob_eq
    (by kernel_rfl) (fun s => by kernel_rfl) K01.run (by kernel_rfl) (by kernel_rfl) (by kernel_rfl) (by rfl) (by first | assumption | decide +kernel) (by decide +kernel) ⟨rfl, rfl, rfl, rfl, rfl, by decide +kernel⟩ ?hw ?hc
  case hw => w_witness2
  case hc =>
    refine Dl.walk_dl (l := PySem.Challenge.rw_wordsaid_k01_letters_and_words) (n := 63) (k := 3) (x := "script") (m := K01.m_law) rfl (by decide) (by kernel_rfl) ⟨⟨rfl, by decide, by decide⟩, rfl⟩ ?F hlaw
    intro w mg fa h Y G hmg0
    obtain ⟨K, KX, c⟩ := Y
    have hmg : mg ("law" : PySem.Str) = some (.ref fa) := by
      have e : (HandSHeadRun.topDef (OpenLaw.row PySem.Challenge.rw_wordsaid_k01_letters_and_words).prog 18).name = ("law" : PySem.Str) := by kernel_rfl
      rw [← e]
      exact hmg0
    have T := K01.hd_of KX G c
    obtain ⟨f, fd, F, b⟩ := K01.ok_law (P := (PySem.Challenge.rw_wordsaid_k01_letters_and_words).prog) (w := w) T
    have e : fa = f := by have e := hmg.symm.trans (F h).at_; cases e; rfl
    exact ⟨K, fd, KX, b, fun base _ _ => e ▸ (F base).df⟩
end

-- text L1
section
set_option Elab.async false
set_option linter.all false
set_option maxRecDepth 100000
set_option maxHeartbeats 4000000
namespace K01
open PySem Dl
theorem u_draw (a b : Slot) : m__law_draw [a, b] = endF (b__law_draw [a, b, .un, .un]) := rfl
theorem draw_ok : Draws m__law_draw := by
  rintro t D n ⟨⟨a, b, c, e, ns, rfl, hb, hc0, hc1, he0, he1⟩⟩ ht hn0 hn1
  have h3 : n.natAbs.log2 < 9000 := log_lt (k := 60) (by omega) (by decide)
  have en := Int.emod_nonneg a (show n ≠ 0 by omega)
  have el := Int.emod_lt_of_pos a hn0
  unfold deckC
  by_cases ha : a = 0
  · subst ha
    by_cases hl : b < (ns.length : Int)
    · obtain ⟨k, rfl⟩ := Int.eq_ofNat_of_zero_le hb
      have hk : k < ns.length := by omega
      have hat : L2.atI (ns.map PyData.int) ((k : Nat) : Int) = some (.int ns[k]) := by
        rw [Dl.atI_nat, List.getElem?_map, List.getElem?_eq_getElem hk]; rfl
      refine ⟨(if ns[k] < 0 then -ns[k] else ns[k]) % n, deckC ((if ns[k] < 0 then -ns[k] else ns[k]) / n) (k + 1) c e ns, ?_, Int.emod_nonneg _ (by omega), Int.emod_lt_of_pos _ hn0, ⟨⟨_, _, _, _, _, rfl, by omega, hc0, hc1, he0, by omega⟩⟩⟩
      rw [u_draw]
      unfold b__law_draw
      simp only [Dl.e_var, Dl.e_bin, Dl.e_tb, Dl.e_tru, Dl.e_and, Dl.e_or, Dl.e_not, Dl.e_if, Dl.s_if, Dl.e_andV, Dl.e_orV, Dl.e_notV, Dl.e_args, Dl.e_set, Dl.e_setA, Dl.e_rdA, Dl.e_tup, Dl.e_lst, Dl.e_prim, Dl.s_seq, Dl.s_set, Dl.putV_eq, Dl.s_put, Dl.s_aug, Dl.e_call, Dl.e_callR, Dl.refO_d, Dl.refO_c, Dl.e_callS, Dl.e_isi, Dl.e_cut, Dl.e_part, Dl.e_neg, Dl.e_rev, Dl.s_expr, Dl.s_ret, Dl.s_unp, Dl.s_par, Dl.s_for, Dl.e_mut, Dl.e_meth, Dl.at0, Dl.at1, Dl.at2, Dl.at3, Dl.at4, Dl.at5, Dl.at6, Dl.at7, Dl.eq_int, Dl.eq_str, Dl.ne_int, Dl.ne_str, Dl.x113, Dl.s_for, Dl.w1, Dl.w2, Dl.w3, Dl.w4, Dl.w5, Dl.w6, Dl.w7, Dl.w8, Dl.w9, Dl.w10, Dl.w11, Dl.w12, Dl.w13, Dl.w14, Dl.w15, Dl.w16, Dl.w17, Dl.w18, Dl.w19, Dl.w20, Dl.w21, Dl.w22, Dl.w23, Dl.w24, Dl.w25, Dl.w26, Dl.w27, Dl.w28, Dl.w29, Dl.w30, Dl.w31, Dl.w32, Dl.w33, Dl.w34, Dl.w35, Dl.w36, Dl.w37, Dl.w39, Dl.w40, Dl.lit0, Dl.tit0, Dl.lit1, Dl.tit1, Dl.lit2, Dl.tit2, Dl.lit3, Dl.tit3, Dl.lit4, Dl.tit4, Dl.lit5, Dl.tit5, Dl.lit6, Dl.tit6, Dl.lit7, Dl.tit7, Dl.lit8, Dl.tit8, Dl.lit9, Dl.tit9, Dl.lit10, Dl.tit10, Dl.lit11, Dl.tit11, Dl.lit12, Dl.tit12, Dl.lit13, Dl.tit13, Dl.lit14, Dl.tit14, Dl.lit15, Dl.tit15, Dl.lit16, Dl.tit16, Dl.lit17, Dl.tit17, Dl.lit18, Dl.tit18, Dl.lit19, Dl.tit19, Dl.lit20, Dl.tit20, Dl.z0, Dl.z1, Dl.z2, Dl.z3, Dl.z4, Dl.x1, Dl.x2, Dl.x3, Dl.x4, Dl.x5, Dl.x6, Dl.x7, Dl.x8, Dl.x9, Dl.x10, Dl.x11, Dl.x12, Dl.x13, Dl.x14, Dl.x15, Dl.x16, Dl.x17, Dl.x18, Dl.x19, Dl.x20, Dl.x21, Dl.x22, Dl.x23, Dl.x24, Dl.x25, Dl.x26, Dl.x27, Dl.x28, Dl.x29, Dl.x30, Dl.x31, Dl.x32, Dl.x33, Dl.x34, Dl.x35, Dl.x36, Dl.x37, Dl.x38, Dl.x39, Dl.x40, Dl.x41, Dl.x42, Dl.x43, Dl.x44, Dl.x45, Dl.x46, Dl.x47, Dl.x48, Dl.x49, Dl.x50, Dl.x51, Dl.x52, Dl.x53, Dl.x54, Dl.x55, Dl.x56, Dl.x57, Dl.x58, Dl.x59, Dl.x60, Dl.x61, Dl.x62, Dl.x63, Dl.x64, Dl.x65, Dl.x66, Dl.x67, Dl.x68, Dl.x69, Dl.t_int_dict, Dl.t_str_dict, Dl.t_bool_dict, Dl.t_list_dict, Dl.t_tuple_dict, Dl.ln1, Dl.ln2, Dl.ln3, Dl.ln4, Dl.ln5, Dl.ln6, Dl.ln7, Dl.ln8, Dl.ln9, Dl.ln10, Dl.ln11, Dl.ln12, Dl.ln13, Dl.ln14, Dl.ln15, Dl.ln16, Dl.ln17, Dl.ln18, Dl.ln19, Dl.ln20, Dl.u1, Dl.u2, Dl.v1, Dl.v2, Dl.v3, Dl.v4, Dl.v5, Dl.v6, Dl.x72, Dl.x73, Dl.x74, Dl.x75, Dl.x76, Dl.x77, Dl.x78, Dl.t_int_none, Dl.t_int_bool, Dl.t_int_int, Dl.t_int_str, Dl.t_int_list, Dl.t_int_tuple, Dl.t_str_none, Dl.t_str_bool, Dl.t_str_int, Dl.t_str_str, Dl.t_str_list, Dl.t_str_tuple, Dl.t_bool_none, Dl.t_bool_bool, Dl.t_bool_int, Dl.t_bool_str, Dl.t_bool_list, Dl.t_bool_tuple, Dl.t_list_none, Dl.t_list_bool, Dl.t_list_int, Dl.t_list_str, Dl.t_list_list, Dl.t_list_tuple, Dl.t_tuple_none, Dl.t_tuple_bool, Dl.t_tuple_int, Dl.t_tuple_str, Dl.t_tuple_list, Dl.t_tuple_tuple, Dl.ch1, Dl.ch2, Dl.ch3, Dl.ch4, Dl.ch5, Dl.x80, Dl.x81, Dl.x82, Dl.x83, Dl.x84, Dl.x85, Dl.x86, Dl.x87, Dl.x88, Dl.x89, Dl.x90, Dl.x91, Dl.x92, Dl.x93, Dl.x94, Dl.x95, Dl.x96, Dl.x97, Dl.x98, Dl.x99, Dl.x100, Dl.x101, Dl.x102, Dl.x103, Dl.x104, Dl.x105, Dl.x106, Dl.x107, Dl.x108, Dl.x109, Dl.x110, Dl.y1, Dl.y2, Dl.y3, Dl.y4, Dl.y5, Dl.y6, Dl.y7, Dl.y8, Dl.y9, Dl.y10, Dl.y11, Dl.y12, Dl.y13, Dl.y15, Dl.y16, Dl.y22, Dl.y23,
  List.cons_append, List.nil_append, List.append_nil, List.map_cons, List.map_nil, if_true, if_false, Bool.not_true, Bool.not_false, Bool.or_false, Bool.or_self, Bool.false_eq_true, Option.map_some, List.set_cons_zero, List.set_cons_succ, List.length_cons, List.length_nil, reduceIte, decide_true, decide_false, reduceCtorEq, List.length_map, hl, hat, Dl.mod_int hn0, Dl.div_int hn0 h3, deckC]
    · have hc : c.natAbs < 2 ^ 70 := by omega
      have hE : (e + 1).natAbs < 2 ^ 70 := by omega
      have q1 : ((48271 : Int)).natAbs < 2 ^ 70 := by decide
      have q2 : ((69621 : Int)).natAbs < 2 ^ 70 := by decide
      have q3 : ((16807 : Int)).natAbs < 2 ^ 70 := by decide
      have p1 : (0 : Int) < 2147483647 := by decide
      have p2 : (0 : Int) < 998244353 := by decide
      have p3 : (0 : Int) < 2147483629 := by decide
      have p4 : (0 : Int) < 13 := by decide
      have p5 : ((13 : Int)).natAbs.log2 < 9000 := log_lt (k := 60) (by decide) (by decide)
      obtain ⟨N1, e1⟩ : ∃ N1, N1 = (c * 48271 + (e + 1) * 69621 + 12345) % 2147483647 := ⟨_, rfl⟩
      obtain ⟨N2, e2⟩ : ∃ N2, N2 = (N1 * N1 + 16807 * (e + 1) + 7) % 998244353 := ⟨_, rfl⟩
      have b1 : N1.natAbs < 2 ^ 70 := by rw [e1]; exact mod_small (by decide) (by decide)
      have b2 : N2.natAbs < 2 ^ 70 := by rw [e2]; exact mod_small (by decide) (by decide)
      refine ⟨((N2 * N2 + 48271 * (e + 1) + c) % 2147483629 / 13) % n, deckC (((N2 * N2 + 48271 * (e + 1) + c) % 2147483629 / 13) / n) b c (e + 1) ns, ?_, Int.emod_nonneg _ (by omega), Int.emod_lt_of_pos _ hn0, ⟨⟨_, _, _, _, _, rfl, hb, hc0, hc1, by omega, by omega⟩⟩⟩
      rw [u_draw]
      unfold b__law_draw
      simp only [Dl.e_var, Dl.e_bin, Dl.e_tb, Dl.e_tru, Dl.e_and, Dl.e_or, Dl.e_not, Dl.e_if, Dl.s_if, Dl.e_andV, Dl.e_orV, Dl.e_notV, Dl.e_args, Dl.e_set, Dl.e_setA, Dl.e_rdA, Dl.e_tup, Dl.e_lst, Dl.e_prim, Dl.s_seq, Dl.s_set, Dl.putV_eq, Dl.s_put, Dl.s_aug, Dl.e_call, Dl.e_callR, Dl.refO_d, Dl.refO_c, Dl.e_callS, Dl.e_isi, Dl.e_cut, Dl.e_part, Dl.e_neg, Dl.e_rev, Dl.s_expr, Dl.s_ret, Dl.s_unp, Dl.s_par, Dl.s_for, Dl.e_mut, Dl.e_meth, Dl.at0, Dl.at1, Dl.at2, Dl.at3, Dl.at4, Dl.at5, Dl.at6, Dl.at7, Dl.eq_int, Dl.eq_str, Dl.ne_int, Dl.ne_str, Dl.x113, Dl.s_for, Dl.w1, Dl.w2, Dl.w3, Dl.w4, Dl.w5, Dl.w6, Dl.w7, Dl.w8, Dl.w9, Dl.w10, Dl.w11, Dl.w12, Dl.w13, Dl.w14, Dl.w15, Dl.w16, Dl.w17, Dl.w18, Dl.w19, Dl.w20, Dl.w21, Dl.w22, Dl.w23, Dl.w24, Dl.w25, Dl.w26, Dl.w27, Dl.w28, Dl.w29, Dl.w30, Dl.w31, Dl.w32, Dl.w33, Dl.w34, Dl.w35, Dl.w36, Dl.w37, Dl.w39, Dl.w40, Dl.lit0, Dl.tit0, Dl.lit1, Dl.tit1, Dl.lit2, Dl.tit2, Dl.lit3, Dl.tit3, Dl.lit4, Dl.tit4, Dl.lit5, Dl.tit5, Dl.lit6, Dl.tit6, Dl.lit7, Dl.tit7, Dl.lit8, Dl.tit8, Dl.lit9, Dl.tit9, Dl.lit10, Dl.tit10, Dl.lit11, Dl.tit11, Dl.lit12, Dl.tit12, Dl.lit13, Dl.tit13, Dl.lit14, Dl.tit14, Dl.lit15, Dl.tit15, Dl.lit16, Dl.tit16, Dl.lit17, Dl.tit17, Dl.lit18, Dl.tit18, Dl.lit19, Dl.tit19, Dl.lit20, Dl.tit20, Dl.z0, Dl.z1, Dl.z2, Dl.z3, Dl.z4, Dl.x1, Dl.x2, Dl.x3, Dl.x4, Dl.x5, Dl.x6, Dl.x7, Dl.x8, Dl.x9, Dl.x10, Dl.x11, Dl.x12, Dl.x13, Dl.x14, Dl.x15, Dl.x16, Dl.x17, Dl.x18, Dl.x19, Dl.x20, Dl.x21, Dl.x22, Dl.x23, Dl.x24, Dl.x25, Dl.x26, Dl.x27, Dl.x28, Dl.x29, Dl.x30, Dl.x31, Dl.x32, Dl.x33, Dl.x34, Dl.x35, Dl.x36, Dl.x37, Dl.x38, Dl.x39, Dl.x40, Dl.x41, Dl.x42, Dl.x43, Dl.x44, Dl.x45, Dl.x46, Dl.x47, Dl.x48, Dl.x49, Dl.x50, Dl.x51, Dl.x52, Dl.x53, Dl.x54, Dl.x55, Dl.x56, Dl.x57, Dl.x58, Dl.x59, Dl.x60, Dl.x61, Dl.x62, Dl.x63, Dl.x64, Dl.x65, Dl.x66, Dl.x67, Dl.x68, Dl.x69, Dl.t_int_dict, Dl.t_str_dict, Dl.t_bool_dict, Dl.t_list_dict, Dl.t_tuple_dict, Dl.ln1, Dl.ln2, Dl.ln3, Dl.ln4, Dl.ln5, Dl.ln6, Dl.ln7, Dl.ln8, Dl.ln9, Dl.ln10, Dl.ln11, Dl.ln12, Dl.ln13, Dl.ln14, Dl.ln15, Dl.ln16, Dl.ln17, Dl.ln18, Dl.ln19, Dl.ln20, Dl.u1, Dl.u2, Dl.v1, Dl.v2, Dl.v3, Dl.v4, Dl.v5, Dl.v6, Dl.x72, Dl.x73, Dl.x74, Dl.x75, Dl.x76, Dl.x77, Dl.x78, Dl.t_int_none, Dl.t_int_bool, Dl.t_int_int, Dl.t_int_str, Dl.t_int_list, Dl.t_int_tuple, Dl.t_str_none, Dl.t_str_bool, Dl.t_str_int, Dl.t_str_str, Dl.t_str_list, Dl.t_str_tuple, Dl.t_bool_none, Dl.t_bool_bool, Dl.t_bool_int, Dl.t_bool_str, Dl.t_bool_list, Dl.t_bool_tuple, Dl.t_list_none, Dl.t_list_bool, Dl.t_list_int, Dl.t_list_str, Dl.t_list_list, Dl.t_list_tuple, Dl.t_tuple_none, Dl.t_tuple_bool, Dl.t_tuple_int, Dl.t_tuple_str, Dl.t_tuple_list, Dl.t_tuple_tuple, Dl.ch1, Dl.ch2, Dl.ch3, Dl.ch4, Dl.ch5, Dl.x80, Dl.x81, Dl.x82, Dl.x83, Dl.x84, Dl.x85, Dl.x86, Dl.x87, Dl.x88, Dl.x89, Dl.x90, Dl.x91, Dl.x92, Dl.x93, Dl.x94, Dl.x95, Dl.x96, Dl.x97, Dl.x98, Dl.x99, Dl.x100, Dl.x101, Dl.x102, Dl.x103, Dl.x104, Dl.x105, Dl.x106, Dl.x107, Dl.x108, Dl.x109, Dl.x110, Dl.y1, Dl.y2, Dl.y3, Dl.y4, Dl.y5, Dl.y6, Dl.y7, Dl.y8, Dl.y9, Dl.y10, Dl.y11, Dl.y12, Dl.y13, Dl.y15, Dl.y16, Dl.y22, Dl.y23,
  List.cons_append, List.nil_append, List.append_nil, List.map_cons, List.map_nil, if_true, if_false, Bool.not_true, Bool.not_false, Bool.or_false, Bool.or_self, Bool.false_eq_true, Option.map_some, List.set_cons_zero, List.set_cons_succ, List.length_cons, List.length_nil, reduceIte, decide_true, decide_false, reduceCtorEq, List.length_map, hl, Dl.mul_small hc q1, Dl.mul_small hE q2, Dl.mod_int p1, ← e1, Dl.mul_small b1 b1, Dl.mul_small q3 hE, Dl.mod_int p2, ← e2, Dl.mul_small b2 b2, Dl.mul_small q1 hE, Dl.mod_int p3, Dl.div_int p4 p5, Dl.mod_int hn0, Dl.div_int hn0 h3, deckC]
  · refine ⟨a % n, deckC (a / n) b c e ns, ?_, en, el, ⟨⟨_, _, _, _, _, rfl, hb, hc0, hc1, he0, by omega⟩⟩⟩
    rw [u_draw]
    unfold b__law_draw
    simp only [Dl.e_var, Dl.e_bin, Dl.e_tb, Dl.e_tru, Dl.e_and, Dl.e_or, Dl.e_not, Dl.e_if, Dl.s_if, Dl.e_andV, Dl.e_orV, Dl.e_notV, Dl.e_args, Dl.e_set, Dl.e_setA, Dl.e_rdA, Dl.e_tup, Dl.e_lst, Dl.e_prim, Dl.s_seq, Dl.s_set, Dl.putV_eq, Dl.s_put, Dl.s_aug, Dl.e_call, Dl.e_callR, Dl.refO_d, Dl.refO_c, Dl.e_callS, Dl.e_isi, Dl.e_cut, Dl.e_part, Dl.e_neg, Dl.e_rev, Dl.s_expr, Dl.s_ret, Dl.s_unp, Dl.s_par, Dl.s_for, Dl.e_mut, Dl.e_meth, Dl.at0, Dl.at1, Dl.at2, Dl.at3, Dl.at4, Dl.at5, Dl.at6, Dl.at7, Dl.eq_int, Dl.eq_str, Dl.ne_int, Dl.ne_str, Dl.x113, Dl.s_for, Dl.w1, Dl.w2, Dl.w3, Dl.w4, Dl.w5, Dl.w6, Dl.w7, Dl.w8, Dl.w9, Dl.w10, Dl.w11, Dl.w12, Dl.w13, Dl.w14, Dl.w15, Dl.w16, Dl.w17, Dl.w18, Dl.w19, Dl.w20, Dl.w21, Dl.w22, Dl.w23, Dl.w24, Dl.w25, Dl.w26, Dl.w27, Dl.w28, Dl.w29, Dl.w30, Dl.w31, Dl.w32, Dl.w33, Dl.w34, Dl.w35, Dl.w36, Dl.w37, Dl.w39, Dl.w40, Dl.lit0, Dl.tit0, Dl.lit1, Dl.tit1, Dl.lit2, Dl.tit2, Dl.lit3, Dl.tit3, Dl.lit4, Dl.tit4, Dl.lit5, Dl.tit5, Dl.lit6, Dl.tit6, Dl.lit7, Dl.tit7, Dl.lit8, Dl.tit8, Dl.lit9, Dl.tit9, Dl.lit10, Dl.tit10, Dl.lit11, Dl.tit11, Dl.lit12, Dl.tit12, Dl.lit13, Dl.tit13, Dl.lit14, Dl.tit14, Dl.lit15, Dl.tit15, Dl.lit16, Dl.tit16, Dl.lit17, Dl.tit17, Dl.lit18, Dl.tit18, Dl.lit19, Dl.tit19, Dl.lit20, Dl.tit20, Dl.z0, Dl.z1, Dl.z2, Dl.z3, Dl.z4, Dl.x1, Dl.x2, Dl.x3, Dl.x4, Dl.x5, Dl.x6, Dl.x7, Dl.x8, Dl.x9, Dl.x10, Dl.x11, Dl.x12, Dl.x13, Dl.x14, Dl.x15, Dl.x16, Dl.x17, Dl.x18, Dl.x19, Dl.x20, Dl.x21, Dl.x22, Dl.x23, Dl.x24, Dl.x25, Dl.x26, Dl.x27, Dl.x28, Dl.x29, Dl.x30, Dl.x31, Dl.x32, Dl.x33, Dl.x34, Dl.x35, Dl.x36, Dl.x37, Dl.x38, Dl.x39, Dl.x40, Dl.x41, Dl.x42, Dl.x43, Dl.x44, Dl.x45, Dl.x46, Dl.x47, Dl.x48, Dl.x49, Dl.x50, Dl.x51, Dl.x52, Dl.x53, Dl.x54, Dl.x55, Dl.x56, Dl.x57, Dl.x58, Dl.x59, Dl.x60, Dl.x61, Dl.x62, Dl.x63, Dl.x64, Dl.x65, Dl.x66, Dl.x67, Dl.x68, Dl.x69, Dl.t_int_dict, Dl.t_str_dict, Dl.t_bool_dict, Dl.t_list_dict, Dl.t_tuple_dict, Dl.ln1, Dl.ln2, Dl.ln3, Dl.ln4, Dl.ln5, Dl.ln6, Dl.ln7, Dl.ln8, Dl.ln9, Dl.ln10, Dl.ln11, Dl.ln12, Dl.ln13, Dl.ln14, Dl.ln15, Dl.ln16, Dl.ln17, Dl.ln18, Dl.ln19, Dl.ln20, Dl.u1, Dl.u2, Dl.v1, Dl.v2, Dl.v3, Dl.v4, Dl.v5, Dl.v6, Dl.x72, Dl.x73, Dl.x74, Dl.x75, Dl.x76, Dl.x77, Dl.x78, Dl.t_int_none, Dl.t_int_bool, Dl.t_int_int, Dl.t_int_str, Dl.t_int_list, Dl.t_int_tuple, Dl.t_str_none, Dl.t_str_bool, Dl.t_str_int, Dl.t_str_str, Dl.t_str_list, Dl.t_str_tuple, Dl.t_bool_none, Dl.t_bool_bool, Dl.t_bool_int, Dl.t_bool_str, Dl.t_bool_list, Dl.t_bool_tuple, Dl.t_list_none, Dl.t_list_bool, Dl.t_list_int, Dl.t_list_str, Dl.t_list_list, Dl.t_list_tuple, Dl.t_tuple_none, Dl.t_tuple_bool, Dl.t_tuple_int, Dl.t_tuple_str, Dl.t_tuple_list, Dl.t_tuple_tuple, Dl.ch1, Dl.ch2, Dl.ch3, Dl.ch4, Dl.ch5, Dl.x80, Dl.x81, Dl.x82, Dl.x83, Dl.x84, Dl.x85, Dl.x86, Dl.x87, Dl.x88, Dl.x89, Dl.x90, Dl.x91, Dl.x92, Dl.x93, Dl.x94, Dl.x95, Dl.x96, Dl.x97, Dl.x98, Dl.x99, Dl.x100, Dl.x101, Dl.x102, Dl.x103, Dl.x104, Dl.x105, Dl.x106, Dl.x107, Dl.x108, Dl.x109, Dl.x110, Dl.y1, Dl.y2, Dl.y3, Dl.y4, Dl.y5, Dl.y6, Dl.y7, Dl.y8, Dl.y9, Dl.y10, Dl.y11, Dl.y12, Dl.y13, Dl.y15, Dl.y16, Dl.y22, Dl.y23,
  List.cons_append, List.nil_append, List.append_nil, List.map_cons, List.map_nil, if_true, if_false, Bool.not_true, Bool.not_false, Bool.or_false, Bool.or_self, Bool.false_eq_true, Option.map_some, List.set_cons_zero, List.set_cons_succ, List.length_cons, List.length_nil, reduceIte, decide_true, decide_false, reduceCtorEq, ha, Dl.mod_int hn0, Dl.div_int hn0 h3, deckC]
theorem u_deck (a : Slot) : m__law_deck [a] = endF (b__law_deck [a, .un, .un]) := rfl
theorem deck_ok (ns : List Int) (hl : ns.length ≤ 63) : ∃ D, out (m__law_deck [.scr ns]) = .v (.cel D) ∧ Deck 0 D := by
  have hf := for_ind (ds := ns.map PyData.int) (b := .nm 2) (body := sSet 1 (eBin gMod (ePrim gInt [(eBin gAdd (eBin gMul (eVar 1) (eC (.int 48271))) (eVar 2))]) (eC (.int 2147483647)))) (ρ := [.scr ns, .dat (.int 7), .un])
    (fun _ ρ => ∃ (c : Int) (s : Slot), ρ = [.scr ns, .dat (.int c), s] ∧ lkS s = false ∧ 0 ≤ c ∧ c < 2147483647) (fun i d ρ hd hp => by
      obtain ⟨c, s, rfl, hs, hc0, hc1⟩ := hp
      rw [List.getElem?_map] at hd
      obtain ⟨n, _, rfl⟩ := Option.map_eq_some_iff.mp hd
      have q1 : ((48271 : Int)).natAbs < 2 ^ 70 := by decide
      have hc : c.natAbs < 2 ^ 70 := by omega
      have p1 : (0 : Int) < 2147483647 := by decide
      have e0 := Int.emod_nonneg (c * 48271 + n) (show (2147483647 : Int) ≠ 0 by decide)
      have e1 := Int.emod_lt_of_pos (c * 48271 + n) p1
      refine ⟨[.scr ns, .dat (.int c), .dat (.int n)], [.scr ns, .dat (.int ((c * 48271 + n) % 2147483647)), .dat (.int n)], bndN_lk hs, .inl ?_, _, _, rfl, rfl, e0, e1⟩
      simp only [Dl.e_var, Dl.e_bin, Dl.e_tb, Dl.e_tru, Dl.e_and, Dl.e_or, Dl.e_not, Dl.e_if, Dl.s_if, Dl.e_andV, Dl.e_orV, Dl.e_notV, Dl.e_args, Dl.e_set, Dl.e_setA, Dl.e_rdA, Dl.e_tup, Dl.e_lst, Dl.e_prim, Dl.s_seq, Dl.s_set, Dl.putV_eq, Dl.s_put, Dl.s_aug, Dl.e_call, Dl.e_callR, Dl.refO_d, Dl.refO_c, Dl.e_callS, Dl.e_isi, Dl.e_cut, Dl.e_part, Dl.e_neg, Dl.e_rev, Dl.s_expr, Dl.s_ret, Dl.s_unp, Dl.s_par, Dl.s_for, Dl.e_mut, Dl.e_meth, Dl.at0, Dl.at1, Dl.at2, Dl.at3, Dl.at4, Dl.at5, Dl.at6, Dl.at7, Dl.eq_int, Dl.eq_str, Dl.ne_int, Dl.ne_str, Dl.x113, Dl.s_for, Dl.w1, Dl.w2, Dl.w3, Dl.w4, Dl.w5, Dl.w6, Dl.w7, Dl.w8, Dl.w9, Dl.w10, Dl.w11, Dl.w12, Dl.w13, Dl.w14, Dl.w15, Dl.w16, Dl.w17, Dl.w18, Dl.w19, Dl.w20, Dl.w21, Dl.w22, Dl.w23, Dl.w24, Dl.w25, Dl.w26, Dl.w27, Dl.w28, Dl.w29, Dl.w30, Dl.w31, Dl.w32, Dl.w33, Dl.w34, Dl.w35, Dl.w36, Dl.w37, Dl.w39, Dl.w40, Dl.lit0, Dl.tit0, Dl.lit1, Dl.tit1, Dl.lit2, Dl.tit2, Dl.lit3, Dl.tit3, Dl.lit4, Dl.tit4, Dl.lit5, Dl.tit5, Dl.lit6, Dl.tit6, Dl.lit7, Dl.tit7, Dl.lit8, Dl.tit8, Dl.lit9, Dl.tit9, Dl.lit10, Dl.tit10, Dl.lit11, Dl.tit11, Dl.lit12, Dl.tit12, Dl.lit13, Dl.tit13, Dl.lit14, Dl.tit14, Dl.lit15, Dl.tit15, Dl.lit16, Dl.tit16, Dl.lit17, Dl.tit17, Dl.lit18, Dl.tit18, Dl.lit19, Dl.tit19, Dl.lit20, Dl.tit20, Dl.z0, Dl.z1, Dl.z2, Dl.z3, Dl.z4, Dl.x1, Dl.x2, Dl.x3, Dl.x4, Dl.x5, Dl.x6, Dl.x7, Dl.x8, Dl.x9, Dl.x10, Dl.x11, Dl.x12, Dl.x13, Dl.x14, Dl.x15, Dl.x16, Dl.x17, Dl.x18, Dl.x19, Dl.x20, Dl.x21, Dl.x22, Dl.x23, Dl.x24, Dl.x25, Dl.x26, Dl.x27, Dl.x28, Dl.x29, Dl.x30, Dl.x31, Dl.x32, Dl.x33, Dl.x34, Dl.x35, Dl.x36, Dl.x37, Dl.x38, Dl.x39, Dl.x40, Dl.x41, Dl.x42, Dl.x43, Dl.x44, Dl.x45, Dl.x46, Dl.x47, Dl.x48, Dl.x49, Dl.x50, Dl.x51, Dl.x52, Dl.x53, Dl.x54, Dl.x55, Dl.x56, Dl.x57, Dl.x58, Dl.x59, Dl.x60, Dl.x61, Dl.x62, Dl.x63, Dl.x64, Dl.x65, Dl.x66, Dl.x67, Dl.x68, Dl.x69, Dl.t_int_dict, Dl.t_str_dict, Dl.t_bool_dict, Dl.t_list_dict, Dl.t_tuple_dict, Dl.ln1, Dl.ln2, Dl.ln3, Dl.ln4, Dl.ln5, Dl.ln6, Dl.ln7, Dl.ln8, Dl.ln9, Dl.ln10, Dl.ln11, Dl.ln12, Dl.ln13, Dl.ln14, Dl.ln15, Dl.ln16, Dl.ln17, Dl.ln18, Dl.ln19, Dl.ln20, Dl.u1, Dl.u2, Dl.v1, Dl.v2, Dl.v3, Dl.v4, Dl.v5, Dl.v6, Dl.x72, Dl.x73, Dl.x74, Dl.x75, Dl.x76, Dl.x77, Dl.x78, Dl.t_int_none, Dl.t_int_bool, Dl.t_int_int, Dl.t_int_str, Dl.t_int_list, Dl.t_int_tuple, Dl.t_str_none, Dl.t_str_bool, Dl.t_str_int, Dl.t_str_str, Dl.t_str_list, Dl.t_str_tuple, Dl.t_bool_none, Dl.t_bool_bool, Dl.t_bool_int, Dl.t_bool_str, Dl.t_bool_list, Dl.t_bool_tuple, Dl.t_list_none, Dl.t_list_bool, Dl.t_list_int, Dl.t_list_str, Dl.t_list_list, Dl.t_list_tuple, Dl.t_tuple_none, Dl.t_tuple_bool, Dl.t_tuple_int, Dl.t_tuple_str, Dl.t_tuple_list, Dl.t_tuple_tuple, Dl.ch1, Dl.ch2, Dl.ch3, Dl.ch4, Dl.ch5, Dl.x80, Dl.x81, Dl.x82, Dl.x83, Dl.x84, Dl.x85, Dl.x86, Dl.x87, Dl.x88, Dl.x89, Dl.x90, Dl.x91, Dl.x92, Dl.x93, Dl.x94, Dl.x95, Dl.x96, Dl.x97, Dl.x98, Dl.x99, Dl.x100, Dl.x101, Dl.x102, Dl.x103, Dl.x104, Dl.x105, Dl.x106, Dl.x107, Dl.x108, Dl.x109, Dl.x110, Dl.y1, Dl.y2, Dl.y3, Dl.y4, Dl.y5, Dl.y6, Dl.y7, Dl.y8, Dl.y9, Dl.y10, Dl.y11, Dl.y12, Dl.y13, Dl.y15, Dl.y16, Dl.y22, Dl.y23,
  List.cons_append, List.nil_append, List.append_nil, List.map_cons, List.map_nil, if_true, if_false, Bool.not_true, Bool.not_false, Bool.or_false, Bool.or_self, Bool.false_eq_true, Option.map_some, List.set_cons_zero, List.set_cons_succ, List.length_cons, List.length_nil, reduceIte, decide_true, decide_false, reduceCtorEq, Dl.mul_small hc q1, Dl.mod_int p1]) ⟨7, .un, rfl, rfl, by decide, by decide⟩
  obtain ⟨ρ', e, c, s, rfl, hs, hc0, hc1⟩ := hf
  refine ⟨deckC 0 0 c 0 ns, ?_, ⟨⟨_, _, _, _, _, rfl, by decide, hc0, hc1, by decide, by decide⟩⟩⟩
  rw [u_deck]
  unfold b__law_deck
  simp only [Dl.e_var, Dl.e_bin, Dl.e_tb, Dl.e_tru, Dl.e_and, Dl.e_or, Dl.e_not, Dl.e_if, Dl.s_if, Dl.e_andV, Dl.e_orV, Dl.e_notV, Dl.e_args, Dl.e_set, Dl.e_setA, Dl.e_rdA, Dl.e_tup, Dl.e_lst, Dl.e_prim, Dl.s_seq, Dl.s_set, Dl.putV_eq, Dl.s_put, Dl.s_aug, Dl.e_call, Dl.e_callR, Dl.refO_d, Dl.refO_c, Dl.e_callS, Dl.e_isi, Dl.e_cut, Dl.e_part, Dl.e_neg, Dl.e_rev, Dl.s_expr, Dl.s_ret, Dl.s_unp, Dl.s_par, Dl.s_for, Dl.e_mut, Dl.e_meth, Dl.at0, Dl.at1, Dl.at2, Dl.at3, Dl.at4, Dl.at5, Dl.at6, Dl.at7, Dl.eq_int, Dl.eq_str, Dl.ne_int, Dl.ne_str, Dl.x113, Dl.s_for, Dl.w1, Dl.w2, Dl.w3, Dl.w4, Dl.w5, Dl.w6, Dl.w7, Dl.w8, Dl.w9, Dl.w10, Dl.w11, Dl.w12, Dl.w13, Dl.w14, Dl.w15, Dl.w16, Dl.w17, Dl.w18, Dl.w19, Dl.w20, Dl.w21, Dl.w22, Dl.w23, Dl.w24, Dl.w25, Dl.w26, Dl.w27, Dl.w28, Dl.w29, Dl.w30, Dl.w31, Dl.w32, Dl.w33, Dl.w34, Dl.w35, Dl.w36, Dl.w37, Dl.w39, Dl.w40, Dl.lit0, Dl.tit0, Dl.lit1, Dl.tit1, Dl.lit2, Dl.tit2, Dl.lit3, Dl.tit3, Dl.lit4, Dl.tit4, Dl.lit5, Dl.tit5, Dl.lit6, Dl.tit6, Dl.lit7, Dl.tit7, Dl.lit8, Dl.tit8, Dl.lit9, Dl.tit9, Dl.lit10, Dl.tit10, Dl.lit11, Dl.tit11, Dl.lit12, Dl.tit12, Dl.lit13, Dl.tit13, Dl.lit14, Dl.tit14, Dl.lit15, Dl.tit15, Dl.lit16, Dl.tit16, Dl.lit17, Dl.tit17, Dl.lit18, Dl.tit18, Dl.lit19, Dl.tit19, Dl.lit20, Dl.tit20, Dl.z0, Dl.z1, Dl.z2, Dl.z3, Dl.z4, Dl.x1, Dl.x2, Dl.x3, Dl.x4, Dl.x5, Dl.x6, Dl.x7, Dl.x8, Dl.x9, Dl.x10, Dl.x11, Dl.x12, Dl.x13, Dl.x14, Dl.x15, Dl.x16, Dl.x17, Dl.x18, Dl.x19, Dl.x20, Dl.x21, Dl.x22, Dl.x23, Dl.x24, Dl.x25, Dl.x26, Dl.x27, Dl.x28, Dl.x29, Dl.x30, Dl.x31, Dl.x32, Dl.x33, Dl.x34, Dl.x35, Dl.x36, Dl.x37, Dl.x38, Dl.x39, Dl.x40, Dl.x41, Dl.x42, Dl.x43, Dl.x44, Dl.x45, Dl.x46, Dl.x47, Dl.x48, Dl.x49, Dl.x50, Dl.x51, Dl.x52, Dl.x53, Dl.x54, Dl.x55, Dl.x56, Dl.x57, Dl.x58, Dl.x59, Dl.x60, Dl.x61, Dl.x62, Dl.x63, Dl.x64, Dl.x65, Dl.x66, Dl.x67, Dl.x68, Dl.x69, Dl.t_int_dict, Dl.t_str_dict, Dl.t_bool_dict, Dl.t_list_dict, Dl.t_tuple_dict, Dl.ln1, Dl.ln2, Dl.ln3, Dl.ln4, Dl.ln5, Dl.ln6, Dl.ln7, Dl.ln8, Dl.ln9, Dl.ln10, Dl.ln11, Dl.ln12, Dl.ln13, Dl.ln14, Dl.ln15, Dl.ln16, Dl.ln17, Dl.ln18, Dl.ln19, Dl.ln20, Dl.u1, Dl.u2, Dl.v1, Dl.v2, Dl.v3, Dl.v4, Dl.v5, Dl.v6, Dl.x72, Dl.x73, Dl.x74, Dl.x75, Dl.x76, Dl.x77, Dl.x78, Dl.t_int_none, Dl.t_int_bool, Dl.t_int_int, Dl.t_int_str, Dl.t_int_list, Dl.t_int_tuple, Dl.t_str_none, Dl.t_str_bool, Dl.t_str_int, Dl.t_str_str, Dl.t_str_list, Dl.t_str_tuple, Dl.t_bool_none, Dl.t_bool_bool, Dl.t_bool_int, Dl.t_bool_str, Dl.t_bool_list, Dl.t_bool_tuple, Dl.t_list_none, Dl.t_list_bool, Dl.t_list_int, Dl.t_list_str, Dl.t_list_list, Dl.t_list_tuple, Dl.t_tuple_none, Dl.t_tuple_bool, Dl.t_tuple_int, Dl.t_tuple_str, Dl.t_tuple_list, Dl.t_tuple_tuple, Dl.ch1, Dl.ch2, Dl.ch3, Dl.ch4, Dl.ch5, Dl.x80, Dl.x81, Dl.x82, Dl.x83, Dl.x84, Dl.x85, Dl.x86, Dl.x87, Dl.x88, Dl.x89, Dl.x90, Dl.x91, Dl.x92, Dl.x93, Dl.x94, Dl.x95, Dl.x96, Dl.x97, Dl.x98, Dl.x99, Dl.x100, Dl.x101, Dl.x102, Dl.x103, Dl.x104, Dl.x105, Dl.x106, Dl.x107, Dl.x108, Dl.x109, Dl.x110, Dl.y1, Dl.y2, Dl.y3, Dl.y4, Dl.y5, Dl.y6, Dl.y7, Dl.y8, Dl.y9, Dl.y10, Dl.y11, Dl.y12, Dl.y13, Dl.y15, Dl.y16, Dl.y22, Dl.y23,
  List.cons_append, List.nil_append, List.append_nil, List.map_cons, List.map_nil, if_true, if_false, Bool.not_true, Bool.not_false, Bool.or_false, Bool.or_self, Bool.false_eq_true, Option.map_some, List.set_cons_zero, List.set_cons_succ, List.length_cons, List.length_nil, reduceIte, decide_true, decide_false, reduceCtorEq, e, deckC]
theorem u_is (a b : Slot) : m__law_is [a, b] = endF (b__law_is [a, b]) := rfl
theorem is_ok {a b : Dat} (ha : reprOk a = true) (e : a = b) : out (m__law_is [.dat a, .dat b]) = .v (.dat (.bool true)) := by
  subst e
  rw [u_is]
  unfold b__law_is
  simp only [Dl.e_var, Dl.e_bin, Dl.e_tb, Dl.e_tru, Dl.e_and, Dl.e_or, Dl.e_not, Dl.e_if, Dl.s_if, Dl.e_andV, Dl.e_orV, Dl.e_notV, Dl.e_args, Dl.e_set, Dl.e_setA, Dl.e_rdA, Dl.e_tup, Dl.e_lst, Dl.e_prim, Dl.s_seq, Dl.s_set, Dl.putV_eq, Dl.s_put, Dl.s_aug, Dl.e_call, Dl.e_callR, Dl.refO_d, Dl.refO_c, Dl.e_callS, Dl.e_isi, Dl.e_cut, Dl.e_part, Dl.e_neg, Dl.e_rev, Dl.s_expr, Dl.s_ret, Dl.s_unp, Dl.s_par, Dl.s_for, Dl.e_mut, Dl.e_meth, Dl.at0, Dl.at1, Dl.at2, Dl.at3, Dl.at4, Dl.at5, Dl.at6, Dl.at7, Dl.eq_int, Dl.eq_str, Dl.ne_int, Dl.ne_str, Dl.x113, Dl.s_for, Dl.w1, Dl.w2, Dl.w3, Dl.w4, Dl.w5, Dl.w6, Dl.w7, Dl.w8, Dl.w9, Dl.w10, Dl.w11, Dl.w12, Dl.w13, Dl.w14, Dl.w15, Dl.w16, Dl.w17, Dl.w18, Dl.w19, Dl.w20, Dl.w21, Dl.w22, Dl.w23, Dl.w24, Dl.w25, Dl.w26, Dl.w27, Dl.w28, Dl.w29, Dl.w30, Dl.w31, Dl.w32, Dl.w33, Dl.w34, Dl.w35, Dl.w36, Dl.w37, Dl.w39, Dl.w40, Dl.lit0, Dl.tit0, Dl.lit1, Dl.tit1, Dl.lit2, Dl.tit2, Dl.lit3, Dl.tit3, Dl.lit4, Dl.tit4, Dl.lit5, Dl.tit5, Dl.lit6, Dl.tit6, Dl.lit7, Dl.tit7, Dl.lit8, Dl.tit8, Dl.lit9, Dl.tit9, Dl.lit10, Dl.tit10, Dl.lit11, Dl.tit11, Dl.lit12, Dl.tit12, Dl.lit13, Dl.tit13, Dl.lit14, Dl.tit14, Dl.lit15, Dl.tit15, Dl.lit16, Dl.tit16, Dl.lit17, Dl.tit17, Dl.lit18, Dl.tit18, Dl.lit19, Dl.tit19, Dl.lit20, Dl.tit20, Dl.z0, Dl.z1, Dl.z2, Dl.z3, Dl.z4, Dl.x1, Dl.x2, Dl.x3, Dl.x4, Dl.x5, Dl.x6, Dl.x7, Dl.x8, Dl.x9, Dl.x10, Dl.x11, Dl.x12, Dl.x13, Dl.x14, Dl.x15, Dl.x16, Dl.x17, Dl.x18, Dl.x19, Dl.x20, Dl.x21, Dl.x22, Dl.x23, Dl.x24, Dl.x25, Dl.x26, Dl.x27, Dl.x28, Dl.x29, Dl.x30, Dl.x31, Dl.x32, Dl.x33, Dl.x34, Dl.x35, Dl.x36, Dl.x37, Dl.x38, Dl.x39, Dl.x40, Dl.x41, Dl.x42, Dl.x43, Dl.x44, Dl.x45, Dl.x46, Dl.x47, Dl.x48, Dl.x49, Dl.x50, Dl.x51, Dl.x52, Dl.x53, Dl.x54, Dl.x55, Dl.x56, Dl.x57, Dl.x58, Dl.x59, Dl.x60, Dl.x61, Dl.x62, Dl.x63, Dl.x64, Dl.x65, Dl.x66, Dl.x67, Dl.x68, Dl.x69, Dl.t_int_dict, Dl.t_str_dict, Dl.t_bool_dict, Dl.t_list_dict, Dl.t_tuple_dict, Dl.ln1, Dl.ln2, Dl.ln3, Dl.ln4, Dl.ln5, Dl.ln6, Dl.ln7, Dl.ln8, Dl.ln9, Dl.ln10, Dl.ln11, Dl.ln12, Dl.ln13, Dl.ln14, Dl.ln15, Dl.ln16, Dl.ln17, Dl.ln18, Dl.ln19, Dl.ln20, Dl.u1, Dl.u2, Dl.v1, Dl.v2, Dl.v3, Dl.v4, Dl.v5, Dl.v6, Dl.x72, Dl.x73, Dl.x74, Dl.x75, Dl.x76, Dl.x77, Dl.x78, Dl.t_int_none, Dl.t_int_bool, Dl.t_int_int, Dl.t_int_str, Dl.t_int_list, Dl.t_int_tuple, Dl.t_str_none, Dl.t_str_bool, Dl.t_str_int, Dl.t_str_str, Dl.t_str_list, Dl.t_str_tuple, Dl.t_bool_none, Dl.t_bool_bool, Dl.t_bool_int, Dl.t_bool_str, Dl.t_bool_list, Dl.t_bool_tuple, Dl.t_list_none, Dl.t_list_bool, Dl.t_list_int, Dl.t_list_str, Dl.t_list_list, Dl.t_list_tuple, Dl.t_tuple_none, Dl.t_tuple_bool, Dl.t_tuple_int, Dl.t_tuple_str, Dl.t_tuple_list, Dl.t_tuple_tuple, Dl.ch1, Dl.ch2, Dl.ch3, Dl.ch4, Dl.ch5, Dl.x80, Dl.x81, Dl.x82, Dl.x83, Dl.x84, Dl.x85, Dl.x86, Dl.x87, Dl.x88, Dl.x89, Dl.x90, Dl.x91, Dl.x92, Dl.x93, Dl.x94, Dl.x95, Dl.x96, Dl.x97, Dl.x98, Dl.x99, Dl.x100, Dl.x101, Dl.x102, Dl.x103, Dl.x104, Dl.x105, Dl.x106, Dl.x107, Dl.x108, Dl.x109, Dl.x110, Dl.y1, Dl.y2, Dl.y3, Dl.y4, Dl.y5, Dl.y6, Dl.y7, Dl.y8, Dl.y9, Dl.y10, Dl.y11, Dl.y12, Dl.y13, Dl.y15, Dl.y16, Dl.y22, Dl.y23,
  List.cons_append, List.nil_append, List.append_nil, List.map_cons, List.map_nil, if_true, if_false, Bool.not_true, Bool.not_false, Bool.or_false, Bool.or_self, Bool.false_eq_true, Option.map_some, List.set_cons_zero, List.set_cons_succ, List.length_cons, List.length_nil, reduceIte, decide_true, decide_false, reduceCtorEq, Dl.y21 ha, beq_self_eq_true]
theorem is_bl : ∀ b : Bool, out (m__law_is [.dat (.bool b), .dat (.bool b)]) = .v (.dat (.bool true)) := fun b => is_ok (by cases b <;> decide +kernel) rfl

theorem u_word (a b c : Slot) : m__law_word [a, b, c] = endF (b__law_word [a, b, c, .un]) := rfl
theorem s_word {t : Nat} {D : Cel} {L : Str} {n : Int} (h : Deck t D) (ht : t < 2 ^ 50) (hL0 : 0 < L.length) (hL1 : L.length ≤ 1000) (hn0 : 0 ≤ n) (hn1 : n ≤ 900) :
    ∃ (w : Str) (D' : Cel), outR (m__law_word [.cel true D, .dat (.str L), .dat (.int n)]) = (.v (.dat (.str w)), some D') ∧ (∀ c ∈ w.cps.toList, c ∈ L.cps.toList) ∧ (w.length : Int) ≤ n ∧ Deck (t + 1001) D' := by
  obtain ⟨v, D1, e1, h10, h11, hD1⟩ := draw_ok t D (n + 1) h (by omega) (by omega) (by omega)
  have hs : sml v = true := by unfold sml; simp; omega
  have hLi : (L.length : Int) < 2 ^ 60 := by omega
  have key := lc_ind (ds := rgD 0 v.toNat) (f := lcT (.nm 3) tYesB (eBin gIx (eVar 1) (eCallR m__law_draw [] 0 [(ePrim gLen [(eVar 1)])])) [3]) (ρ := [.cel true D1, .dat (.str L), .dat (.int n), .un])
    (fun i acc ρ => ∃ (D : Cel) (cs : List Nat), ρ = [.cel true D, .dat (.str L), .dat (.int n), .un] ∧ Deck (t + 1 + i) D ∧ acc = cs.map (fun c => PyData.str (sg c)) ∧ cs.length = i ∧ ∀ c ∈ cs, c ∈ L.cps.toList) (fun i d acc ρ hd hp => by
      obtain ⟨D, cs, rfl, hD, rfl, hcs, hin⟩ := hp
      obtain ⟨hi, rfl⟩ := rgD_at hd
      obtain ⟨u, D2, e2, h20, h21, hD2⟩ := draw_ok (t + 1 + i) D L.length hD (by omega) (by omega) hLi
      obtain ⟨c, hc, hm⟩ := atI_some (xs := L.cps.toList) h20 (by simpa [Str.length] using h21)
      refine ⟨some (.str (sg c)), [.cel true D2, .dat (.str L), .dat (.int n), .un], ?_, by rw [List.length_map, hcs]; exact Nat.lt_of_lt_of_le (by omega : i < 1000) (le16 (Nat.le_refl _)), D2, cs ++ [c], rfl, hD2, by simp, by simp [hcs], ?_⟩
      · simp only [Dl.e_var, Dl.e_bin, Dl.e_tb, Dl.e_tru, Dl.e_and, Dl.e_or, Dl.e_not, Dl.e_if, Dl.s_if, Dl.e_andV, Dl.e_orV, Dl.e_notV, Dl.e_args, Dl.e_set, Dl.e_setA, Dl.e_rdA, Dl.e_tup, Dl.e_lst, Dl.e_prim, Dl.s_seq, Dl.s_set, Dl.putV_eq, Dl.s_put, Dl.s_aug, Dl.e_call, Dl.e_callR, Dl.refO_d, Dl.refO_c, Dl.e_callS, Dl.e_isi, Dl.e_cut, Dl.e_part, Dl.e_neg, Dl.e_rev, Dl.s_expr, Dl.s_ret, Dl.s_unp, Dl.s_par, Dl.s_for, Dl.e_mut, Dl.e_meth, Dl.at0, Dl.at1, Dl.at2, Dl.at3, Dl.at4, Dl.at5, Dl.at6, Dl.at7, Dl.eq_int, Dl.eq_str, Dl.ne_int, Dl.ne_str, Dl.x113, Dl.s_for, Dl.w1, Dl.w2, Dl.w3, Dl.w4, Dl.w5, Dl.w6, Dl.w7, Dl.w8, Dl.w9, Dl.w10, Dl.w11, Dl.w12, Dl.w13, Dl.w14, Dl.w15, Dl.w16, Dl.w17, Dl.w18, Dl.w19, Dl.w20, Dl.w21, Dl.w22, Dl.w23, Dl.w24, Dl.w25, Dl.w26, Dl.w27, Dl.w28, Dl.w29, Dl.w30, Dl.w31, Dl.w32, Dl.w33, Dl.w34, Dl.w35, Dl.w36, Dl.w37, Dl.w39, Dl.w40, Dl.lit0, Dl.tit0, Dl.lit1, Dl.tit1, Dl.lit2, Dl.tit2, Dl.lit3, Dl.tit3, Dl.lit4, Dl.tit4, Dl.lit5, Dl.tit5, Dl.lit6, Dl.tit6, Dl.lit7, Dl.tit7, Dl.lit8, Dl.tit8, Dl.lit9, Dl.tit9, Dl.lit10, Dl.tit10, Dl.lit11, Dl.tit11, Dl.lit12, Dl.tit12, Dl.lit13, Dl.tit13, Dl.lit14, Dl.tit14, Dl.lit15, Dl.tit15, Dl.lit16, Dl.tit16, Dl.lit17, Dl.tit17, Dl.lit18, Dl.tit18, Dl.lit19, Dl.tit19, Dl.lit20, Dl.tit20, Dl.z0, Dl.z1, Dl.z2, Dl.z3, Dl.z4, Dl.x1, Dl.x2, Dl.x3, Dl.x4, Dl.x5, Dl.x6, Dl.x7, Dl.x8, Dl.x9, Dl.x10, Dl.x11, Dl.x12, Dl.x13, Dl.x14, Dl.x15, Dl.x16, Dl.x17, Dl.x18, Dl.x19, Dl.x20, Dl.x21, Dl.x22, Dl.x23, Dl.x24, Dl.x25, Dl.x26, Dl.x27, Dl.x28, Dl.x29, Dl.x30, Dl.x31, Dl.x32, Dl.x33, Dl.x34, Dl.x35, Dl.x36, Dl.x37, Dl.x38, Dl.x39, Dl.x40, Dl.x41, Dl.x42, Dl.x43, Dl.x44, Dl.x45, Dl.x46, Dl.x47, Dl.x48, Dl.x49, Dl.x50, Dl.x51, Dl.x52, Dl.x53, Dl.x54, Dl.x55, Dl.x56, Dl.x57, Dl.x58, Dl.x59, Dl.x60, Dl.x61, Dl.x62, Dl.x63, Dl.x64, Dl.x65, Dl.x66, Dl.x67, Dl.x68, Dl.x69, Dl.t_int_dict, Dl.t_str_dict, Dl.t_bool_dict, Dl.t_list_dict, Dl.t_tuple_dict, Dl.ln1, Dl.ln2, Dl.ln3, Dl.ln4, Dl.ln5, Dl.ln6, Dl.ln7, Dl.ln8, Dl.ln9, Dl.ln10, Dl.ln11, Dl.ln12, Dl.ln13, Dl.ln14, Dl.ln15, Dl.ln16, Dl.ln17, Dl.ln18, Dl.ln19, Dl.ln20, Dl.u1, Dl.u2, Dl.v1, Dl.v2, Dl.v3, Dl.v4, Dl.v5, Dl.v6, Dl.x72, Dl.x73, Dl.x74, Dl.x75, Dl.x76, Dl.x77, Dl.x78, Dl.t_int_none, Dl.t_int_bool, Dl.t_int_int, Dl.t_int_str, Dl.t_int_list, Dl.t_int_tuple, Dl.t_str_none, Dl.t_str_bool, Dl.t_str_int, Dl.t_str_str, Dl.t_str_list, Dl.t_str_tuple, Dl.t_bool_none, Dl.t_bool_bool, Dl.t_bool_int, Dl.t_bool_str, Dl.t_bool_list, Dl.t_bool_tuple, Dl.t_list_none, Dl.t_list_bool, Dl.t_list_int, Dl.t_list_str, Dl.t_list_list, Dl.t_list_tuple, Dl.t_tuple_none, Dl.t_tuple_bool, Dl.t_tuple_int, Dl.t_tuple_str, Dl.t_tuple_list, Dl.t_tuple_tuple, Dl.ch1, Dl.ch2, Dl.ch3, Dl.ch4, Dl.ch5, Dl.x80, Dl.x81, Dl.x82, Dl.x83, Dl.x84, Dl.x85, Dl.x86, Dl.x87, Dl.x88, Dl.x89, Dl.x90, Dl.x91, Dl.x92, Dl.x93, Dl.x94, Dl.x95, Dl.x96, Dl.x97, Dl.x98, Dl.x99, Dl.x100, Dl.x101, Dl.x102, Dl.x103, Dl.x104, Dl.x105, Dl.x106, Dl.x107, Dl.x108, Dl.x109, Dl.x110, Dl.y1, Dl.y2, Dl.y3, Dl.y4, Dl.y5, Dl.y6, Dl.y7, Dl.y8, Dl.y9, Dl.y10, Dl.y11, Dl.y12, Dl.y13, Dl.y15, Dl.y16, Dl.y22, Dl.y23,
  List.cons_append, List.nil_append, List.append_nil, List.map_cons, List.map_nil, if_true, if_false, Bool.not_true, Bool.not_false, Bool.or_false, Bool.or_self, Bool.false_eq_true, Option.map_some, List.set_cons_zero, List.set_cons_succ, List.length_cons, List.length_nil, reduceIte, decide_true, decide_false, reduceCtorEq, e2, Dl.y14 (le16 hL1), Dl.ixs hL1, hc, Bool.and_true, Bool.true_and]
      · intro x hx
        rcases List.mem_append.mp hx with hx | hx
        · exact hin x hx
        · rw [List.mem_singleton.mp hx]; exact hm) ⟨D1, [], rfl, hD1, rfl, rfl, fun _ z => by cases z⟩
  obtain ⟨acc, ρ', e3, D3, cs, rfl, hD3, rfl, hcs, hin⟩ := key
  rw [rgD_len] at hcs hD3
  refine ⟨⟨cs.toArray⟩, D3, ?_, fun c hc => hin c (by simpa using hc), ?_, hD3.mono (by omega)⟩
  · rw [u_word]
    unfold b__law_word
    simp only [Dl.e_var, Dl.e_bin, Dl.e_tb, Dl.e_tru, Dl.e_and, Dl.e_or, Dl.e_not, Dl.e_if, Dl.s_if, Dl.e_andV, Dl.e_orV, Dl.e_notV, Dl.e_args, Dl.e_set, Dl.e_setA, Dl.e_rdA, Dl.e_tup, Dl.e_lst, Dl.e_prim, Dl.s_seq, Dl.s_set, Dl.putV_eq, Dl.s_put, Dl.s_aug, Dl.e_call, Dl.e_callR, Dl.refO_d, Dl.refO_c, Dl.e_callS, Dl.e_isi, Dl.e_cut, Dl.e_part, Dl.e_neg, Dl.e_rev, Dl.s_expr, Dl.s_ret, Dl.s_unp, Dl.s_par, Dl.s_for, Dl.e_mut, Dl.e_meth, Dl.at0, Dl.at1, Dl.at2, Dl.at3, Dl.at4, Dl.at5, Dl.at6, Dl.at7, Dl.eq_int, Dl.eq_str, Dl.ne_int, Dl.ne_str, Dl.x113, Dl.s_for, Dl.w1, Dl.w2, Dl.w3, Dl.w4, Dl.w5, Dl.w6, Dl.w7, Dl.w8, Dl.w9, Dl.w10, Dl.w11, Dl.w12, Dl.w13, Dl.w14, Dl.w15, Dl.w16, Dl.w17, Dl.w18, Dl.w19, Dl.w20, Dl.w21, Dl.w22, Dl.w23, Dl.w24, Dl.w25, Dl.w26, Dl.w27, Dl.w28, Dl.w29, Dl.w30, Dl.w31, Dl.w32, Dl.w33, Dl.w34, Dl.w35, Dl.w36, Dl.w37, Dl.w39, Dl.w40, Dl.lit0, Dl.tit0, Dl.lit1, Dl.tit1, Dl.lit2, Dl.tit2, Dl.lit3, Dl.tit3, Dl.lit4, Dl.tit4, Dl.lit5, Dl.tit5, Dl.lit6, Dl.tit6, Dl.lit7, Dl.tit7, Dl.lit8, Dl.tit8, Dl.lit9, Dl.tit9, Dl.lit10, Dl.tit10, Dl.lit11, Dl.tit11, Dl.lit12, Dl.tit12, Dl.lit13, Dl.tit13, Dl.lit14, Dl.tit14, Dl.lit15, Dl.tit15, Dl.lit16, Dl.tit16, Dl.lit17, Dl.tit17, Dl.lit18, Dl.tit18, Dl.lit19, Dl.tit19, Dl.lit20, Dl.tit20, Dl.z0, Dl.z1, Dl.z2, Dl.z3, Dl.z4, Dl.x1, Dl.x2, Dl.x3, Dl.x4, Dl.x5, Dl.x6, Dl.x7, Dl.x8, Dl.x9, Dl.x10, Dl.x11, Dl.x12, Dl.x13, Dl.x14, Dl.x15, Dl.x16, Dl.x17, Dl.x18, Dl.x19, Dl.x20, Dl.x21, Dl.x22, Dl.x23, Dl.x24, Dl.x25, Dl.x26, Dl.x27, Dl.x28, Dl.x29, Dl.x30, Dl.x31, Dl.x32, Dl.x33, Dl.x34, Dl.x35, Dl.x36, Dl.x37, Dl.x38, Dl.x39, Dl.x40, Dl.x41, Dl.x42, Dl.x43, Dl.x44, Dl.x45, Dl.x46, Dl.x47, Dl.x48, Dl.x49, Dl.x50, Dl.x51, Dl.x52, Dl.x53, Dl.x54, Dl.x55, Dl.x56, Dl.x57, Dl.x58, Dl.x59, Dl.x60, Dl.x61, Dl.x62, Dl.x63, Dl.x64, Dl.x65, Dl.x66, Dl.x67, Dl.x68, Dl.x69, Dl.t_int_dict, Dl.t_str_dict, Dl.t_bool_dict, Dl.t_list_dict, Dl.t_tuple_dict, Dl.ln1, Dl.ln2, Dl.ln3, Dl.ln4, Dl.ln5, Dl.ln6, Dl.ln7, Dl.ln8, Dl.ln9, Dl.ln10, Dl.ln11, Dl.ln12, Dl.ln13, Dl.ln14, Dl.ln15, Dl.ln16, Dl.ln17, Dl.ln18, Dl.ln19, Dl.ln20, Dl.u1, Dl.u2, Dl.v1, Dl.v2, Dl.v3, Dl.v4, Dl.v5, Dl.v6, Dl.x72, Dl.x73, Dl.x74, Dl.x75, Dl.x76, Dl.x77, Dl.x78, Dl.t_int_none, Dl.t_int_bool, Dl.t_int_int, Dl.t_int_str, Dl.t_int_list, Dl.t_int_tuple, Dl.t_str_none, Dl.t_str_bool, Dl.t_str_int, Dl.t_str_str, Dl.t_str_list, Dl.t_str_tuple, Dl.t_bool_none, Dl.t_bool_bool, Dl.t_bool_int, Dl.t_bool_str, Dl.t_bool_list, Dl.t_bool_tuple, Dl.t_list_none, Dl.t_list_bool, Dl.t_list_int, Dl.t_list_str, Dl.t_list_list, Dl.t_list_tuple, Dl.t_tuple_none, Dl.t_tuple_bool, Dl.t_tuple_int, Dl.t_tuple_str, Dl.t_tuple_list, Dl.t_tuple_tuple, Dl.ch1, Dl.ch2, Dl.ch3, Dl.ch4, Dl.ch5, Dl.x80, Dl.x81, Dl.x82, Dl.x83, Dl.x84, Dl.x85, Dl.x86, Dl.x87, Dl.x88, Dl.x89, Dl.x90, Dl.x91, Dl.x92, Dl.x93, Dl.x94, Dl.x95, Dl.x96, Dl.x97, Dl.x98, Dl.x99, Dl.x100, Dl.x101, Dl.x102, Dl.x103, Dl.x104, Dl.x105, Dl.x106, Dl.x107, Dl.x108, Dl.x109, Dl.x110, Dl.y1, Dl.y2, Dl.y3, Dl.y4, Dl.y5, Dl.y6, Dl.y7, Dl.y8, Dl.y9, Dl.y10, Dl.y11, Dl.y12, Dl.y13, Dl.y15, Dl.y16, Dl.y22, Dl.y23,
  List.cons_append, List.nil_append, List.append_nil, List.map_cons, List.map_nil, if_true, if_false, Bool.not_true, Bool.not_false, Bool.or_false, Bool.or_self, Bool.false_eq_true, Option.map_some, List.set_cons_zero, List.set_cons_succ, List.length_cons, List.length_nil, reduceIte, decide_true, decide_false, reduceCtorEq, e1, Dl.rg1 hs, e3, Dl.gJoin_sg (show cs.length ≤ 1000 by omega), Bool.and_true, Bool.true_and]
  · show ((cs.toArray.size : Nat) : Int) ≤ n
    rw [List.size_toArray, hcs]
    omega

end K01
end

-- text L2
section
set_option Elab.async false
set_option linter.all false
set_option maxRecDepth 100000
set_option maxHeartbeats 4000000
namespace K01
open PySem Dl
def isI : Dat → Bool
  | .int _ => true
  | _ => false
theorem s_is_integer (d : Dat) : out (m_is_integer [.dat d]) = .v (.dat (.bool (isI d))) := by
  cases d <;> rfl
theorem u_is_count (a b c : Slot) : m_is_count [a, b, c] = endF (b_is_count [a, b, c]) := rfl
theorem s_is_count (d : Dat) (l : Int) : out (m_is_count [.dat d, .dat (.int l), .dat .none]) = .v (.dat (.bool (match d with | .int i => decide (i ≥ l) | _ => false))) := by
  rw [u_is_count]
  unfold b_is_count
  cases d with
  | int i =>
    by_cases h : i < l
    · have h2 : ¬ (i ≥ l) := by omega
      simp only [Dl.e_var, Dl.e_bin, Dl.e_tb, Dl.e_tru, Dl.e_and, Dl.e_or, Dl.e_not, Dl.e_if, Dl.s_if, Dl.e_andV, Dl.e_orV, Dl.e_notV, Dl.e_args, Dl.e_set, Dl.e_setA, Dl.e_rdA, Dl.e_tup, Dl.e_lst, Dl.e_prim, Dl.s_seq, Dl.s_set, Dl.putV_eq, Dl.s_put, Dl.s_aug, Dl.e_call, Dl.e_callR, Dl.refO_d, Dl.refO_c, Dl.e_callS, Dl.e_isi, Dl.e_cut, Dl.e_part, Dl.e_neg, Dl.e_rev, Dl.s_expr, Dl.s_ret, Dl.s_unp, Dl.s_par, Dl.s_for, Dl.e_mut, Dl.e_meth, Dl.at0, Dl.at1, Dl.at2, Dl.at3, Dl.at4, Dl.at5, Dl.at6, Dl.at7, Dl.eq_int, Dl.eq_str, Dl.ne_int, Dl.ne_str, Dl.x113, Dl.s_for, Dl.w1, Dl.w2, Dl.w3, Dl.w4, Dl.w5, Dl.w6, Dl.w7, Dl.w8, Dl.w9, Dl.w10, Dl.w11, Dl.w12, Dl.w13, Dl.w14, Dl.w15, Dl.w16, Dl.w17, Dl.w18, Dl.w19, Dl.w20, Dl.w21, Dl.w22, Dl.w23, Dl.w24, Dl.w25, Dl.w26, Dl.w27, Dl.w28, Dl.w29, Dl.w30, Dl.w31, Dl.w32, Dl.w33, Dl.w34, Dl.w35, Dl.w36, Dl.w37, Dl.w39, Dl.w40, Dl.lit0, Dl.tit0, Dl.lit1, Dl.tit1, Dl.lit2, Dl.tit2, Dl.lit3, Dl.tit3, Dl.lit4, Dl.tit4, Dl.lit5, Dl.tit5, Dl.lit6, Dl.tit6, Dl.lit7, Dl.tit7, Dl.lit8, Dl.tit8, Dl.lit9, Dl.tit9, Dl.lit10, Dl.tit10, Dl.lit11, Dl.tit11, Dl.lit12, Dl.tit12, Dl.lit13, Dl.tit13, Dl.lit14, Dl.tit14, Dl.lit15, Dl.tit15, Dl.lit16, Dl.tit16, Dl.lit17, Dl.tit17, Dl.lit18, Dl.tit18, Dl.lit19, Dl.tit19, Dl.lit20, Dl.tit20, Dl.z0, Dl.z1, Dl.z2, Dl.z3, Dl.z4, Dl.x1, Dl.x2, Dl.x3, Dl.x4, Dl.x5, Dl.x6, Dl.x7, Dl.x8, Dl.x9, Dl.x10, Dl.x11, Dl.x12, Dl.x13, Dl.x14, Dl.x15, Dl.x16, Dl.x17, Dl.x18, Dl.x19, Dl.x20, Dl.x21, Dl.x22, Dl.x23, Dl.x24, Dl.x25, Dl.x26, Dl.x27, Dl.x28, Dl.x29, Dl.x30, Dl.x31, Dl.x32, Dl.x33, Dl.x34, Dl.x35, Dl.x36, Dl.x37, Dl.x38, Dl.x39, Dl.x40, Dl.x41, Dl.x42, Dl.x43, Dl.x44, Dl.x45, Dl.x46, Dl.x47, Dl.x48, Dl.x49, Dl.x50, Dl.x51, Dl.x52, Dl.x53, Dl.x54, Dl.x55, Dl.x56, Dl.x57, Dl.x58, Dl.x59, Dl.x60, Dl.x61, Dl.x62, Dl.x63, Dl.x64, Dl.x65, Dl.x66, Dl.x67, Dl.x68, Dl.x69, Dl.t_int_dict, Dl.t_str_dict, Dl.t_bool_dict, Dl.t_list_dict, Dl.t_tuple_dict, Dl.ln1, Dl.ln2, Dl.ln3, Dl.ln4, Dl.ln5, Dl.ln6, Dl.ln7, Dl.ln8, Dl.ln9, Dl.ln10, Dl.ln11, Dl.ln12, Dl.ln13, Dl.ln14, Dl.ln15, Dl.ln16, Dl.ln17, Dl.ln18, Dl.ln19, Dl.ln20, Dl.u1, Dl.u2, Dl.v1, Dl.v2, Dl.v3, Dl.v4, Dl.v5, Dl.v6, Dl.x72, Dl.x73, Dl.x74, Dl.x75, Dl.x76, Dl.x77, Dl.x78, Dl.t_int_none, Dl.t_int_bool, Dl.t_int_int, Dl.t_int_str, Dl.t_int_list, Dl.t_int_tuple, Dl.t_str_none, Dl.t_str_bool, Dl.t_str_int, Dl.t_str_str, Dl.t_str_list, Dl.t_str_tuple, Dl.t_bool_none, Dl.t_bool_bool, Dl.t_bool_int, Dl.t_bool_str, Dl.t_bool_list, Dl.t_bool_tuple, Dl.t_list_none, Dl.t_list_bool, Dl.t_list_int, Dl.t_list_str, Dl.t_list_list, Dl.t_list_tuple, Dl.t_tuple_none, Dl.t_tuple_bool, Dl.t_tuple_int, Dl.t_tuple_str, Dl.t_tuple_list, Dl.t_tuple_tuple, Dl.ch1, Dl.ch2, Dl.ch3, Dl.ch4, Dl.ch5, Dl.x80, Dl.x81, Dl.x82, Dl.x83, Dl.x84, Dl.x85, Dl.x86, Dl.x87, Dl.x88, Dl.x89, Dl.x90, Dl.x91, Dl.x92, Dl.x93, Dl.x94, Dl.x95, Dl.x96, Dl.x97, Dl.x98, Dl.x99, Dl.x100, Dl.x101, Dl.x102, Dl.x103, Dl.x104, Dl.x105, Dl.x106, Dl.x107, Dl.x108, Dl.x109, Dl.x110, Dl.y1, Dl.y2, Dl.y3, Dl.y4, Dl.y5, Dl.y6, Dl.y7, Dl.y8, Dl.y9, Dl.y10, Dl.y11, Dl.y12, Dl.y13, Dl.y15, Dl.y16, Dl.y22, Dl.y23,
  List.cons_append, List.nil_append, List.append_nil, List.map_cons, List.map_nil, if_true, if_false, Bool.not_true, Bool.not_false, Bool.or_false, Bool.or_self, Bool.false_eq_true, Option.map_some, List.set_cons_zero, List.set_cons_succ, List.length_cons, List.length_nil, reduceIte, decide_true, decide_false, reduceCtorEq, s_is_integer, isI, h, h2]
    · have h2 : i ≥ l := by omega
      simp only [Dl.e_var, Dl.e_bin, Dl.e_tb, Dl.e_tru, Dl.e_and, Dl.e_or, Dl.e_not, Dl.e_if, Dl.s_if, Dl.e_andV, Dl.e_orV, Dl.e_notV, Dl.e_args, Dl.e_set, Dl.e_setA, Dl.e_rdA, Dl.e_tup, Dl.e_lst, Dl.e_prim, Dl.s_seq, Dl.s_set, Dl.putV_eq, Dl.s_put, Dl.s_aug, Dl.e_call, Dl.e_callR, Dl.refO_d, Dl.refO_c, Dl.e_callS, Dl.e_isi, Dl.e_cut, Dl.e_part, Dl.e_neg, Dl.e_rev, Dl.s_expr, Dl.s_ret, Dl.s_unp, Dl.s_par, Dl.s_for, Dl.e_mut, Dl.e_meth, Dl.at0, Dl.at1, Dl.at2, Dl.at3, Dl.at4, Dl.at5, Dl.at6, Dl.at7, Dl.eq_int, Dl.eq_str, Dl.ne_int, Dl.ne_str, Dl.x113, Dl.s_for, Dl.w1, Dl.w2, Dl.w3, Dl.w4, Dl.w5, Dl.w6, Dl.w7, Dl.w8, Dl.w9, Dl.w10, Dl.w11, Dl.w12, Dl.w13, Dl.w14, Dl.w15, Dl.w16, Dl.w17, Dl.w18, Dl.w19, Dl.w20, Dl.w21, Dl.w22, Dl.w23, Dl.w24, Dl.w25, Dl.w26, Dl.w27, Dl.w28, Dl.w29, Dl.w30, Dl.w31, Dl.w32, Dl.w33, Dl.w34, Dl.w35, Dl.w36, Dl.w37, Dl.w39, Dl.w40, Dl.lit0, Dl.tit0, Dl.lit1, Dl.tit1, Dl.lit2, Dl.tit2, Dl.lit3, Dl.tit3, Dl.lit4, Dl.tit4, Dl.lit5, Dl.tit5, Dl.lit6, Dl.tit6, Dl.lit7, Dl.tit7, Dl.lit8, Dl.tit8, Dl.lit9, Dl.tit9, Dl.lit10, Dl.tit10, Dl.lit11, Dl.tit11, Dl.lit12, Dl.tit12, Dl.lit13, Dl.tit13, Dl.lit14, Dl.tit14, Dl.lit15, Dl.tit15, Dl.lit16, Dl.tit16, Dl.lit17, Dl.tit17, Dl.lit18, Dl.tit18, Dl.lit19, Dl.tit19, Dl.lit20, Dl.tit20, Dl.z0, Dl.z1, Dl.z2, Dl.z3, Dl.z4, Dl.x1, Dl.x2, Dl.x3, Dl.x4, Dl.x5, Dl.x6, Dl.x7, Dl.x8, Dl.x9, Dl.x10, Dl.x11, Dl.x12, Dl.x13, Dl.x14, Dl.x15, Dl.x16, Dl.x17, Dl.x18, Dl.x19, Dl.x20, Dl.x21, Dl.x22, Dl.x23, Dl.x24, Dl.x25, Dl.x26, Dl.x27, Dl.x28, Dl.x29, Dl.x30, Dl.x31, Dl.x32, Dl.x33, Dl.x34, Dl.x35, Dl.x36, Dl.x37, Dl.x38, Dl.x39, Dl.x40, Dl.x41, Dl.x42, Dl.x43, Dl.x44, Dl.x45, Dl.x46, Dl.x47, Dl.x48, Dl.x49, Dl.x50, Dl.x51, Dl.x52, Dl.x53, Dl.x54, Dl.x55, Dl.x56, Dl.x57, Dl.x58, Dl.x59, Dl.x60, Dl.x61, Dl.x62, Dl.x63, Dl.x64, Dl.x65, Dl.x66, Dl.x67, Dl.x68, Dl.x69, Dl.t_int_dict, Dl.t_str_dict, Dl.t_bool_dict, Dl.t_list_dict, Dl.t_tuple_dict, Dl.ln1, Dl.ln2, Dl.ln3, Dl.ln4, Dl.ln5, Dl.ln6, Dl.ln7, Dl.ln8, Dl.ln9, Dl.ln10, Dl.ln11, Dl.ln12, Dl.ln13, Dl.ln14, Dl.ln15, Dl.ln16, Dl.ln17, Dl.ln18, Dl.ln19, Dl.ln20, Dl.u1, Dl.u2, Dl.v1, Dl.v2, Dl.v3, Dl.v4, Dl.v5, Dl.v6, Dl.x72, Dl.x73, Dl.x74, Dl.x75, Dl.x76, Dl.x77, Dl.x78, Dl.t_int_none, Dl.t_int_bool, Dl.t_int_int, Dl.t_int_str, Dl.t_int_list, Dl.t_int_tuple, Dl.t_str_none, Dl.t_str_bool, Dl.t_str_int, Dl.t_str_str, Dl.t_str_list, Dl.t_str_tuple, Dl.t_bool_none, Dl.t_bool_bool, Dl.t_bool_int, Dl.t_bool_str, Dl.t_bool_list, Dl.t_bool_tuple, Dl.t_list_none, Dl.t_list_bool, Dl.t_list_int, Dl.t_list_str, Dl.t_list_list, Dl.t_list_tuple, Dl.t_tuple_none, Dl.t_tuple_bool, Dl.t_tuple_int, Dl.t_tuple_str, Dl.t_tuple_list, Dl.t_tuple_tuple, Dl.ch1, Dl.ch2, Dl.ch3, Dl.ch4, Dl.ch5, Dl.x80, Dl.x81, Dl.x82, Dl.x83, Dl.x84, Dl.x85, Dl.x86, Dl.x87, Dl.x88, Dl.x89, Dl.x90, Dl.x91, Dl.x92, Dl.x93, Dl.x94, Dl.x95, Dl.x96, Dl.x97, Dl.x98, Dl.x99, Dl.x100, Dl.x101, Dl.x102, Dl.x103, Dl.x104, Dl.x105, Dl.x106, Dl.x107, Dl.x108, Dl.x109, Dl.x110, Dl.y1, Dl.y2, Dl.y3, Dl.y4, Dl.y5, Dl.y6, Dl.y7, Dl.y8, Dl.y9, Dl.y10, Dl.y11, Dl.y12, Dl.y13, Dl.y15, Dl.y16, Dl.y22, Dl.y23,
  List.cons_append, List.nil_append, List.append_nil, List.map_cons, List.map_nil, if_true, if_false, Bool.not_true, Bool.not_false, Bool.or_false, Bool.or_self, Bool.false_eq_true, Option.map_some, List.set_cons_zero, List.set_cons_succ, List.length_cons, List.length_nil, reduceIte, decide_true, decide_false, reduceCtorEq, s_is_integer, isI, h, h2]
      rfl
  | _ => simp only [Dl.e_var, Dl.e_bin, Dl.e_tb, Dl.e_tru, Dl.e_and, Dl.e_or, Dl.e_not, Dl.e_if, Dl.s_if, Dl.e_andV, Dl.e_orV, Dl.e_notV, Dl.e_args, Dl.e_set, Dl.e_setA, Dl.e_rdA, Dl.e_tup, Dl.e_lst, Dl.e_prim, Dl.s_seq, Dl.s_set, Dl.putV_eq, Dl.s_put, Dl.s_aug, Dl.e_call, Dl.e_callR, Dl.refO_d, Dl.refO_c, Dl.e_callS, Dl.e_isi, Dl.e_cut, Dl.e_part, Dl.e_neg, Dl.e_rev, Dl.s_expr, Dl.s_ret, Dl.s_unp, Dl.s_par, Dl.s_for, Dl.e_mut, Dl.e_meth, Dl.at0, Dl.at1, Dl.at2, Dl.at3, Dl.at4, Dl.at5, Dl.at6, Dl.at7, Dl.eq_int, Dl.eq_str, Dl.ne_int, Dl.ne_str, Dl.x113, Dl.s_for, Dl.w1, Dl.w2, Dl.w3, Dl.w4, Dl.w5, Dl.w6, Dl.w7, Dl.w8, Dl.w9, Dl.w10, Dl.w11, Dl.w12, Dl.w13, Dl.w14, Dl.w15, Dl.w16, Dl.w17, Dl.w18, Dl.w19, Dl.w20, Dl.w21, Dl.w22, Dl.w23, Dl.w24, Dl.w25, Dl.w26, Dl.w27, Dl.w28, Dl.w29, Dl.w30, Dl.w31, Dl.w32, Dl.w33, Dl.w34, Dl.w35, Dl.w36, Dl.w37, Dl.w39, Dl.w40, Dl.lit0, Dl.tit0, Dl.lit1, Dl.tit1, Dl.lit2, Dl.tit2, Dl.lit3, Dl.tit3, Dl.lit4, Dl.tit4, Dl.lit5, Dl.tit5, Dl.lit6, Dl.tit6, Dl.lit7, Dl.tit7, Dl.lit8, Dl.tit8, Dl.lit9, Dl.tit9, Dl.lit10, Dl.tit10, Dl.lit11, Dl.tit11, Dl.lit12, Dl.tit12, Dl.lit13, Dl.tit13, Dl.lit14, Dl.tit14, Dl.lit15, Dl.tit15, Dl.lit16, Dl.tit16, Dl.lit17, Dl.tit17, Dl.lit18, Dl.tit18, Dl.lit19, Dl.tit19, Dl.lit20, Dl.tit20, Dl.z0, Dl.z1, Dl.z2, Dl.z3, Dl.z4, Dl.x1, Dl.x2, Dl.x3, Dl.x4, Dl.x5, Dl.x6, Dl.x7, Dl.x8, Dl.x9, Dl.x10, Dl.x11, Dl.x12, Dl.x13, Dl.x14, Dl.x15, Dl.x16, Dl.x17, Dl.x18, Dl.x19, Dl.x20, Dl.x21, Dl.x22, Dl.x23, Dl.x24, Dl.x25, Dl.x26, Dl.x27, Dl.x28, Dl.x29, Dl.x30, Dl.x31, Dl.x32, Dl.x33, Dl.x34, Dl.x35, Dl.x36, Dl.x37, Dl.x38, Dl.x39, Dl.x40, Dl.x41, Dl.x42, Dl.x43, Dl.x44, Dl.x45, Dl.x46, Dl.x47, Dl.x48, Dl.x49, Dl.x50, Dl.x51, Dl.x52, Dl.x53, Dl.x54, Dl.x55, Dl.x56, Dl.x57, Dl.x58, Dl.x59, Dl.x60, Dl.x61, Dl.x62, Dl.x63, Dl.x64, Dl.x65, Dl.x66, Dl.x67, Dl.x68, Dl.x69, Dl.t_int_dict, Dl.t_str_dict, Dl.t_bool_dict, Dl.t_list_dict, Dl.t_tuple_dict, Dl.ln1, Dl.ln2, Dl.ln3, Dl.ln4, Dl.ln5, Dl.ln6, Dl.ln7, Dl.ln8, Dl.ln9, Dl.ln10, Dl.ln11, Dl.ln12, Dl.ln13, Dl.ln14, Dl.ln15, Dl.ln16, Dl.ln17, Dl.ln18, Dl.ln19, Dl.ln20, Dl.u1, Dl.u2, Dl.v1, Dl.v2, Dl.v3, Dl.v4, Dl.v5, Dl.v6, Dl.x72, Dl.x73, Dl.x74, Dl.x75, Dl.x76, Dl.x77, Dl.x78, Dl.t_int_none, Dl.t_int_bool, Dl.t_int_int, Dl.t_int_str, Dl.t_int_list, Dl.t_int_tuple, Dl.t_str_none, Dl.t_str_bool, Dl.t_str_int, Dl.t_str_str, Dl.t_str_list, Dl.t_str_tuple, Dl.t_bool_none, Dl.t_bool_bool, Dl.t_bool_int, Dl.t_bool_str, Dl.t_bool_list, Dl.t_bool_tuple, Dl.t_list_none, Dl.t_list_bool, Dl.t_list_int, Dl.t_list_str, Dl.t_list_list, Dl.t_list_tuple, Dl.t_tuple_none, Dl.t_tuple_bool, Dl.t_tuple_int, Dl.t_tuple_str, Dl.t_tuple_list, Dl.t_tuple_tuple, Dl.ch1, Dl.ch2, Dl.ch3, Dl.ch4, Dl.ch5, Dl.x80, Dl.x81, Dl.x82, Dl.x83, Dl.x84, Dl.x85, Dl.x86, Dl.x87, Dl.x88, Dl.x89, Dl.x90, Dl.x91, Dl.x92, Dl.x93, Dl.x94, Dl.x95, Dl.x96, Dl.x97, Dl.x98, Dl.x99, Dl.x100, Dl.x101, Dl.x102, Dl.x103, Dl.x104, Dl.x105, Dl.x106, Dl.x107, Dl.x108, Dl.x109, Dl.x110, Dl.y1, Dl.y2, Dl.y3, Dl.y4, Dl.y5, Dl.y6, Dl.y7, Dl.y8, Dl.y9, Dl.y10, Dl.y11, Dl.y12, Dl.y13, Dl.y15, Dl.y16, Dl.y22, Dl.y23,
  List.cons_append, List.nil_append, List.append_nil, List.map_cons, List.map_nil, if_true, if_false, Bool.not_true, Bool.not_false, Bool.or_false, Bool.or_self, Bool.false_eq_true, Option.map_some, List.set_cons_zero, List.set_cons_succ, List.length_cons, List.length_nil, reduceIte, decide_true, decide_false, reduceCtorEq, s_is_integer, isI]
theorem s_is_count2 (d : Dat) (l m : Int) : out (m_is_count [.dat d, .dat (.int l), .dat (.int m)]) = .v (.dat (.bool (match d with | .int i => decide (l ≤ i) && decide (i ≤ m) | _ => false))) := by
  rw [u_is_count]
  unfold b_is_count
  cases d with
  | int i =>
    by_cases h : i < l
    · have h2 : ¬ (l ≤ i) := by omega
      simp only [Dl.e_var, Dl.e_bin, Dl.e_tb, Dl.e_tru, Dl.e_and, Dl.e_or, Dl.e_not, Dl.e_if, Dl.s_if, Dl.e_andV, Dl.e_orV, Dl.e_notV, Dl.e_args, Dl.e_set, Dl.e_setA, Dl.e_rdA, Dl.e_tup, Dl.e_lst, Dl.e_prim, Dl.s_seq, Dl.s_set, Dl.putV_eq, Dl.s_put, Dl.s_aug, Dl.e_call, Dl.e_callR, Dl.refO_d, Dl.refO_c, Dl.e_callS, Dl.e_isi, Dl.e_cut, Dl.e_part, Dl.e_neg, Dl.e_rev, Dl.s_expr, Dl.s_ret, Dl.s_unp, Dl.s_par, Dl.s_for, Dl.e_mut, Dl.e_meth, Dl.at0, Dl.at1, Dl.at2, Dl.at3, Dl.at4, Dl.at5, Dl.at6, Dl.at7, Dl.eq_int, Dl.eq_str, Dl.ne_int, Dl.ne_str, Dl.x113, Dl.s_for, Dl.w1, Dl.w2, Dl.w3, Dl.w4, Dl.w5, Dl.w6, Dl.w7, Dl.w8, Dl.w9, Dl.w10, Dl.w11, Dl.w12, Dl.w13, Dl.w14, Dl.w15, Dl.w16, Dl.w17, Dl.w18, Dl.w19, Dl.w20, Dl.w21, Dl.w22, Dl.w23, Dl.w24, Dl.w25, Dl.w26, Dl.w27, Dl.w28, Dl.w29, Dl.w30, Dl.w31, Dl.w32, Dl.w33, Dl.w34, Dl.w35, Dl.w36, Dl.w37, Dl.w39, Dl.w40, Dl.lit0, Dl.tit0, Dl.lit1, Dl.tit1, Dl.lit2, Dl.tit2, Dl.lit3, Dl.tit3, Dl.lit4, Dl.tit4, Dl.lit5, Dl.tit5, Dl.lit6, Dl.tit6, Dl.lit7, Dl.tit7, Dl.lit8, Dl.tit8, Dl.lit9, Dl.tit9, Dl.lit10, Dl.tit10, Dl.lit11, Dl.tit11, Dl.lit12, Dl.tit12, Dl.lit13, Dl.tit13, Dl.lit14, Dl.tit14, Dl.lit15, Dl.tit15, Dl.lit16, Dl.tit16, Dl.lit17, Dl.tit17, Dl.lit18, Dl.tit18, Dl.lit19, Dl.tit19, Dl.lit20, Dl.tit20, Dl.z0, Dl.z1, Dl.z2, Dl.z3, Dl.z4, Dl.x1, Dl.x2, Dl.x3, Dl.x4, Dl.x5, Dl.x6, Dl.x7, Dl.x8, Dl.x9, Dl.x10, Dl.x11, Dl.x12, Dl.x13, Dl.x14, Dl.x15, Dl.x16, Dl.x17, Dl.x18, Dl.x19, Dl.x20, Dl.x21, Dl.x22, Dl.x23, Dl.x24, Dl.x25, Dl.x26, Dl.x27, Dl.x28, Dl.x29, Dl.x30, Dl.x31, Dl.x32, Dl.x33, Dl.x34, Dl.x35, Dl.x36, Dl.x37, Dl.x38, Dl.x39, Dl.x40, Dl.x41, Dl.x42, Dl.x43, Dl.x44, Dl.x45, Dl.x46, Dl.x47, Dl.x48, Dl.x49, Dl.x50, Dl.x51, Dl.x52, Dl.x53, Dl.x54, Dl.x55, Dl.x56, Dl.x57, Dl.x58, Dl.x59, Dl.x60, Dl.x61, Dl.x62, Dl.x63, Dl.x64, Dl.x65, Dl.x66, Dl.x67, Dl.x68, Dl.x69, Dl.t_int_dict, Dl.t_str_dict, Dl.t_bool_dict, Dl.t_list_dict, Dl.t_tuple_dict, Dl.ln1, Dl.ln2, Dl.ln3, Dl.ln4, Dl.ln5, Dl.ln6, Dl.ln7, Dl.ln8, Dl.ln9, Dl.ln10, Dl.ln11, Dl.ln12, Dl.ln13, Dl.ln14, Dl.ln15, Dl.ln16, Dl.ln17, Dl.ln18, Dl.ln19, Dl.ln20, Dl.u1, Dl.u2, Dl.v1, Dl.v2, Dl.v3, Dl.v4, Dl.v5, Dl.v6, Dl.x72, Dl.x73, Dl.x74, Dl.x75, Dl.x76, Dl.x77, Dl.x78, Dl.t_int_none, Dl.t_int_bool, Dl.t_int_int, Dl.t_int_str, Dl.t_int_list, Dl.t_int_tuple, Dl.t_str_none, Dl.t_str_bool, Dl.t_str_int, Dl.t_str_str, Dl.t_str_list, Dl.t_str_tuple, Dl.t_bool_none, Dl.t_bool_bool, Dl.t_bool_int, Dl.t_bool_str, Dl.t_bool_list, Dl.t_bool_tuple, Dl.t_list_none, Dl.t_list_bool, Dl.t_list_int, Dl.t_list_str, Dl.t_list_list, Dl.t_list_tuple, Dl.t_tuple_none, Dl.t_tuple_bool, Dl.t_tuple_int, Dl.t_tuple_str, Dl.t_tuple_list, Dl.t_tuple_tuple, Dl.ch1, Dl.ch2, Dl.ch3, Dl.ch4, Dl.ch5, Dl.x80, Dl.x81, Dl.x82, Dl.x83, Dl.x84, Dl.x85, Dl.x86, Dl.x87, Dl.x88, Dl.x89, Dl.x90, Dl.x91, Dl.x92, Dl.x93, Dl.x94, Dl.x95, Dl.x96, Dl.x97, Dl.x98, Dl.x99, Dl.x100, Dl.x101, Dl.x102, Dl.x103, Dl.x104, Dl.x105, Dl.x106, Dl.x107, Dl.x108, Dl.x109, Dl.x110, Dl.y1, Dl.y2, Dl.y3, Dl.y4, Dl.y5, Dl.y6, Dl.y7, Dl.y8, Dl.y9, Dl.y10, Dl.y11, Dl.y12, Dl.y13, Dl.y15, Dl.y16, Dl.y22, Dl.y23,
  List.cons_append, List.nil_append, List.append_nil, List.map_cons, List.map_nil, if_true, if_false, Bool.not_true, Bool.not_false, Bool.or_false, Bool.or_self, Bool.false_eq_true, Option.map_some, List.set_cons_zero, List.set_cons_succ, List.length_cons, List.length_nil, reduceIte, decide_true, decide_false, reduceCtorEq, s_is_integer, isI, h, h2, Bool.false_and]
    · have h2 : l ≤ i := by omega
      simp only [Dl.e_var, Dl.e_bin, Dl.e_tb, Dl.e_tru, Dl.e_and, Dl.e_or, Dl.e_not, Dl.e_if, Dl.s_if, Dl.e_andV, Dl.e_orV, Dl.e_notV, Dl.e_args, Dl.e_set, Dl.e_setA, Dl.e_rdA, Dl.e_tup, Dl.e_lst, Dl.e_prim, Dl.s_seq, Dl.s_set, Dl.putV_eq, Dl.s_put, Dl.s_aug, Dl.e_call, Dl.e_callR, Dl.refO_d, Dl.refO_c, Dl.e_callS, Dl.e_isi, Dl.e_cut, Dl.e_part, Dl.e_neg, Dl.e_rev, Dl.s_expr, Dl.s_ret, Dl.s_unp, Dl.s_par, Dl.s_for, Dl.e_mut, Dl.e_meth, Dl.at0, Dl.at1, Dl.at2, Dl.at3, Dl.at4, Dl.at5, Dl.at6, Dl.at7, Dl.eq_int, Dl.eq_str, Dl.ne_int, Dl.ne_str, Dl.x113, Dl.s_for, Dl.w1, Dl.w2, Dl.w3, Dl.w4, Dl.w5, Dl.w6, Dl.w7, Dl.w8, Dl.w9, Dl.w10, Dl.w11, Dl.w12, Dl.w13, Dl.w14, Dl.w15, Dl.w16, Dl.w17, Dl.w18, Dl.w19, Dl.w20, Dl.w21, Dl.w22, Dl.w23, Dl.w24, Dl.w25, Dl.w26, Dl.w27, Dl.w28, Dl.w29, Dl.w30, Dl.w31, Dl.w32, Dl.w33, Dl.w34, Dl.w35, Dl.w36, Dl.w37, Dl.w39, Dl.w40, Dl.lit0, Dl.tit0, Dl.lit1, Dl.tit1, Dl.lit2, Dl.tit2, Dl.lit3, Dl.tit3, Dl.lit4, Dl.tit4, Dl.lit5, Dl.tit5, Dl.lit6, Dl.tit6, Dl.lit7, Dl.tit7, Dl.lit8, Dl.tit8, Dl.lit9, Dl.tit9, Dl.lit10, Dl.tit10, Dl.lit11, Dl.tit11, Dl.lit12, Dl.tit12, Dl.lit13, Dl.tit13, Dl.lit14, Dl.tit14, Dl.lit15, Dl.tit15, Dl.lit16, Dl.tit16, Dl.lit17, Dl.tit17, Dl.lit18, Dl.tit18, Dl.lit19, Dl.tit19, Dl.lit20, Dl.tit20, Dl.z0, Dl.z1, Dl.z2, Dl.z3, Dl.z4, Dl.x1, Dl.x2, Dl.x3, Dl.x4, Dl.x5, Dl.x6, Dl.x7, Dl.x8, Dl.x9, Dl.x10, Dl.x11, Dl.x12, Dl.x13, Dl.x14, Dl.x15, Dl.x16, Dl.x17, Dl.x18, Dl.x19, Dl.x20, Dl.x21, Dl.x22, Dl.x23, Dl.x24, Dl.x25, Dl.x26, Dl.x27, Dl.x28, Dl.x29, Dl.x30, Dl.x31, Dl.x32, Dl.x33, Dl.x34, Dl.x35, Dl.x36, Dl.x37, Dl.x38, Dl.x39, Dl.x40, Dl.x41, Dl.x42, Dl.x43, Dl.x44, Dl.x45, Dl.x46, Dl.x47, Dl.x48, Dl.x49, Dl.x50, Dl.x51, Dl.x52, Dl.x53, Dl.x54, Dl.x55, Dl.x56, Dl.x57, Dl.x58, Dl.x59, Dl.x60, Dl.x61, Dl.x62, Dl.x63, Dl.x64, Dl.x65, Dl.x66, Dl.x67, Dl.x68, Dl.x69, Dl.t_int_dict, Dl.t_str_dict, Dl.t_bool_dict, Dl.t_list_dict, Dl.t_tuple_dict, Dl.ln1, Dl.ln2, Dl.ln3, Dl.ln4, Dl.ln5, Dl.ln6, Dl.ln7, Dl.ln8, Dl.ln9, Dl.ln10, Dl.ln11, Dl.ln12, Dl.ln13, Dl.ln14, Dl.ln15, Dl.ln16, Dl.ln17, Dl.ln18, Dl.ln19, Dl.ln20, Dl.u1, Dl.u2, Dl.v1, Dl.v2, Dl.v3, Dl.v4, Dl.v5, Dl.v6, Dl.x72, Dl.x73, Dl.x74, Dl.x75, Dl.x76, Dl.x77, Dl.x78, Dl.t_int_none, Dl.t_int_bool, Dl.t_int_int, Dl.t_int_str, Dl.t_int_list, Dl.t_int_tuple, Dl.t_str_none, Dl.t_str_bool, Dl.t_str_int, Dl.t_str_str, Dl.t_str_list, Dl.t_str_tuple, Dl.t_bool_none, Dl.t_bool_bool, Dl.t_bool_int, Dl.t_bool_str, Dl.t_bool_list, Dl.t_bool_tuple, Dl.t_list_none, Dl.t_list_bool, Dl.t_list_int, Dl.t_list_str, Dl.t_list_list, Dl.t_list_tuple, Dl.t_tuple_none, Dl.t_tuple_bool, Dl.t_tuple_int, Dl.t_tuple_str, Dl.t_tuple_list, Dl.t_tuple_tuple, Dl.ch1, Dl.ch2, Dl.ch3, Dl.ch4, Dl.ch5, Dl.x80, Dl.x81, Dl.x82, Dl.x83, Dl.x84, Dl.x85, Dl.x86, Dl.x87, Dl.x88, Dl.x89, Dl.x90, Dl.x91, Dl.x92, Dl.x93, Dl.x94, Dl.x95, Dl.x96, Dl.x97, Dl.x98, Dl.x99, Dl.x100, Dl.x101, Dl.x102, Dl.x103, Dl.x104, Dl.x105, Dl.x106, Dl.x107, Dl.x108, Dl.x109, Dl.x110, Dl.y1, Dl.y2, Dl.y3, Dl.y4, Dl.y5, Dl.y6, Dl.y7, Dl.y8, Dl.y9, Dl.y10, Dl.y11, Dl.y12, Dl.y13, Dl.y15, Dl.y16, Dl.y22, Dl.y23,
  List.cons_append, List.nil_append, List.append_nil, List.map_cons, List.map_nil, if_true, if_false, Bool.not_true, Bool.not_false, Bool.or_false, Bool.or_self, Bool.false_eq_true, Option.map_some, List.set_cons_zero, List.set_cons_succ, List.length_cons, List.length_nil, reduceIte, decide_true, decide_false, reduceCtorEq, s_is_integer, isI, h, h2, Bool.true_and]
      rfl
  | _ => simp only [Dl.e_var, Dl.e_bin, Dl.e_tb, Dl.e_tru, Dl.e_and, Dl.e_or, Dl.e_not, Dl.e_if, Dl.s_if, Dl.e_andV, Dl.e_orV, Dl.e_notV, Dl.e_args, Dl.e_set, Dl.e_setA, Dl.e_rdA, Dl.e_tup, Dl.e_lst, Dl.e_prim, Dl.s_seq, Dl.s_set, Dl.putV_eq, Dl.s_put, Dl.s_aug, Dl.e_call, Dl.e_callR, Dl.refO_d, Dl.refO_c, Dl.e_callS, Dl.e_isi, Dl.e_cut, Dl.e_part, Dl.e_neg, Dl.e_rev, Dl.s_expr, Dl.s_ret, Dl.s_unp, Dl.s_par, Dl.s_for, Dl.e_mut, Dl.e_meth, Dl.at0, Dl.at1, Dl.at2, Dl.at3, Dl.at4, Dl.at5, Dl.at6, Dl.at7, Dl.eq_int, Dl.eq_str, Dl.ne_int, Dl.ne_str, Dl.x113, Dl.s_for, Dl.w1, Dl.w2, Dl.w3, Dl.w4, Dl.w5, Dl.w6, Dl.w7, Dl.w8, Dl.w9, Dl.w10, Dl.w11, Dl.w12, Dl.w13, Dl.w14, Dl.w15, Dl.w16, Dl.w17, Dl.w18, Dl.w19, Dl.w20, Dl.w21, Dl.w22, Dl.w23, Dl.w24, Dl.w25, Dl.w26, Dl.w27, Dl.w28, Dl.w29, Dl.w30, Dl.w31, Dl.w32, Dl.w33, Dl.w34, Dl.w35, Dl.w36, Dl.w37, Dl.w39, Dl.w40, Dl.lit0, Dl.tit0, Dl.lit1, Dl.tit1, Dl.lit2, Dl.tit2, Dl.lit3, Dl.tit3, Dl.lit4, Dl.tit4, Dl.lit5, Dl.tit5, Dl.lit6, Dl.tit6, Dl.lit7, Dl.tit7, Dl.lit8, Dl.tit8, Dl.lit9, Dl.tit9, Dl.lit10, Dl.tit10, Dl.lit11, Dl.tit11, Dl.lit12, Dl.tit12, Dl.lit13, Dl.tit13, Dl.lit14, Dl.tit14, Dl.lit15, Dl.tit15, Dl.lit16, Dl.tit16, Dl.lit17, Dl.tit17, Dl.lit18, Dl.tit18, Dl.lit19, Dl.tit19, Dl.lit20, Dl.tit20, Dl.z0, Dl.z1, Dl.z2, Dl.z3, Dl.z4, Dl.x1, Dl.x2, Dl.x3, Dl.x4, Dl.x5, Dl.x6, Dl.x7, Dl.x8, Dl.x9, Dl.x10, Dl.x11, Dl.x12, Dl.x13, Dl.x14, Dl.x15, Dl.x16, Dl.x17, Dl.x18, Dl.x19, Dl.x20, Dl.x21, Dl.x22, Dl.x23, Dl.x24, Dl.x25, Dl.x26, Dl.x27, Dl.x28, Dl.x29, Dl.x30, Dl.x31, Dl.x32, Dl.x33, Dl.x34, Dl.x35, Dl.x36, Dl.x37, Dl.x38, Dl.x39, Dl.x40, Dl.x41, Dl.x42, Dl.x43, Dl.x44, Dl.x45, Dl.x46, Dl.x47, Dl.x48, Dl.x49, Dl.x50, Dl.x51, Dl.x52, Dl.x53, Dl.x54, Dl.x55, Dl.x56, Dl.x57, Dl.x58, Dl.x59, Dl.x60, Dl.x61, Dl.x62, Dl.x63, Dl.x64, Dl.x65, Dl.x66, Dl.x67, Dl.x68, Dl.x69, Dl.t_int_dict, Dl.t_str_dict, Dl.t_bool_dict, Dl.t_list_dict, Dl.t_tuple_dict, Dl.ln1, Dl.ln2, Dl.ln3, Dl.ln4, Dl.ln5, Dl.ln6, Dl.ln7, Dl.ln8, Dl.ln9, Dl.ln10, Dl.ln11, Dl.ln12, Dl.ln13, Dl.ln14, Dl.ln15, Dl.ln16, Dl.ln17, Dl.ln18, Dl.ln19, Dl.ln20, Dl.u1, Dl.u2, Dl.v1, Dl.v2, Dl.v3, Dl.v4, Dl.v5, Dl.v6, Dl.x72, Dl.x73, Dl.x74, Dl.x75, Dl.x76, Dl.x77, Dl.x78, Dl.t_int_none, Dl.t_int_bool, Dl.t_int_int, Dl.t_int_str, Dl.t_int_list, Dl.t_int_tuple, Dl.t_str_none, Dl.t_str_bool, Dl.t_str_int, Dl.t_str_str, Dl.t_str_list, Dl.t_str_tuple, Dl.t_bool_none, Dl.t_bool_bool, Dl.t_bool_int, Dl.t_bool_str, Dl.t_bool_list, Dl.t_bool_tuple, Dl.t_list_none, Dl.t_list_bool, Dl.t_list_int, Dl.t_list_str, Dl.t_list_list, Dl.t_list_tuple, Dl.t_tuple_none, Dl.t_tuple_bool, Dl.t_tuple_int, Dl.t_tuple_str, Dl.t_tuple_list, Dl.t_tuple_tuple, Dl.ch1, Dl.ch2, Dl.ch3, Dl.ch4, Dl.ch5, Dl.x80, Dl.x81, Dl.x82, Dl.x83, Dl.x84, Dl.x85, Dl.x86, Dl.x87, Dl.x88, Dl.x89, Dl.x90, Dl.x91, Dl.x92, Dl.x93, Dl.x94, Dl.x95, Dl.x96, Dl.x97, Dl.x98, Dl.x99, Dl.x100, Dl.x101, Dl.x102, Dl.x103, Dl.x104, Dl.x105, Dl.x106, Dl.x107, Dl.x108, Dl.x109, Dl.x110, Dl.y1, Dl.y2, Dl.y3, Dl.y4, Dl.y5, Dl.y6, Dl.y7, Dl.y8, Dl.y9, Dl.y10, Dl.y11, Dl.y12, Dl.y13, Dl.y15, Dl.y16, Dl.y22, Dl.y23,
  List.cons_append, List.nil_append, List.append_nil, List.map_cons, List.map_nil, if_true, if_false, Bool.not_true, Bool.not_false, Bool.or_false, Bool.or_self, Bool.false_eq_true, Option.map_some, List.set_cons_zero, List.set_cons_succ, List.length_cons, List.length_nil, reduceIte, decide_true, decide_false, reduceCtorEq, s_is_integer, isI]
def L5 : List Str := ["ab", "a", "abc", "ac", "xz"]
theorem u_letters (a : Slot) : m__law_letters [a] = endF (b__law_letters [a]) := rfl
theorem s_letters {t : Nat} {D : Cel} (h : Deck t D) (ht : t < 2 ^ 60) : ∃ L D', outR (m__law_letters [.cel true D]) = (.v (.dat (.str L)), some D') ∧ L ∈ L5 ∧ Deck (t + 1) D' := by
  obtain ⟨v, D', e, h0, h1, hD⟩ := draw_ok t D 7 h ht (by decide) (by decide)
  obtain ⟨d, hd, hm⟩ := atI_some (xs := [PyData.str "ab", .str "ab", .str "a", .str "abc", .str "ac", .str "xz", .str "ab"]) h0 h1
  obtain ⟨L, rfl, hL⟩ : ∃ L, d = .str L ∧ L ∈ L5 := by
    simp only [List.mem_cons, List.not_mem_nil, or_false] at hm
    rcases hm with h | h | h | h | h | h | h <;> exact ⟨_, h, by decide⟩
  refine ⟨L, D', ?_, hL, hD⟩
  rw [u_letters]
  unfold b__law_letters
  simp only [Dl.e_var, Dl.e_bin, Dl.e_tb, Dl.e_tru, Dl.e_and, Dl.e_or, Dl.e_not, Dl.e_if, Dl.s_if, Dl.e_andV, Dl.e_orV, Dl.e_notV, Dl.e_args, Dl.e_set, Dl.e_setA, Dl.e_rdA, Dl.e_tup, Dl.e_lst, Dl.e_prim, Dl.s_seq, Dl.s_set, Dl.putV_eq, Dl.s_put, Dl.s_aug, Dl.e_call, Dl.e_callR, Dl.refO_d, Dl.refO_c, Dl.e_callS, Dl.e_isi, Dl.e_cut, Dl.e_part, Dl.e_neg, Dl.e_rev, Dl.s_expr, Dl.s_ret, Dl.s_unp, Dl.s_par, Dl.s_for, Dl.e_mut, Dl.e_meth, Dl.at0, Dl.at1, Dl.at2, Dl.at3, Dl.at4, Dl.at5, Dl.at6, Dl.at7, Dl.eq_int, Dl.eq_str, Dl.ne_int, Dl.ne_str, Dl.x113, Dl.s_for, Dl.w1, Dl.w2, Dl.w3, Dl.w4, Dl.w5, Dl.w6, Dl.w7, Dl.w8, Dl.w9, Dl.w10, Dl.w11, Dl.w12, Dl.w13, Dl.w14, Dl.w15, Dl.w16, Dl.w17, Dl.w18, Dl.w19, Dl.w20, Dl.w21, Dl.w22, Dl.w23, Dl.w24, Dl.w25, Dl.w26, Dl.w27, Dl.w28, Dl.w29, Dl.w30, Dl.w31, Dl.w32, Dl.w33, Dl.w34, Dl.w35, Dl.w36, Dl.w37, Dl.w39, Dl.w40, Dl.lit0, Dl.tit0, Dl.lit1, Dl.tit1, Dl.lit2, Dl.tit2, Dl.lit3, Dl.tit3, Dl.lit4, Dl.tit4, Dl.lit5, Dl.tit5, Dl.lit6, Dl.tit6, Dl.lit7, Dl.tit7, Dl.lit8, Dl.tit8, Dl.lit9, Dl.tit9, Dl.lit10, Dl.tit10, Dl.lit11, Dl.tit11, Dl.lit12, Dl.tit12, Dl.lit13, Dl.tit13, Dl.lit14, Dl.tit14, Dl.lit15, Dl.tit15, Dl.lit16, Dl.tit16, Dl.lit17, Dl.tit17, Dl.lit18, Dl.tit18, Dl.lit19, Dl.tit19, Dl.lit20, Dl.tit20, Dl.z0, Dl.z1, Dl.z2, Dl.z3, Dl.z4, Dl.x1, Dl.x2, Dl.x3, Dl.x4, Dl.x5, Dl.x6, Dl.x7, Dl.x8, Dl.x9, Dl.x10, Dl.x11, Dl.x12, Dl.x13, Dl.x14, Dl.x15, Dl.x16, Dl.x17, Dl.x18, Dl.x19, Dl.x20, Dl.x21, Dl.x22, Dl.x23, Dl.x24, Dl.x25, Dl.x26, Dl.x27, Dl.x28, Dl.x29, Dl.x30, Dl.x31, Dl.x32, Dl.x33, Dl.x34, Dl.x35, Dl.x36, Dl.x37, Dl.x38, Dl.x39, Dl.x40, Dl.x41, Dl.x42, Dl.x43, Dl.x44, Dl.x45, Dl.x46, Dl.x47, Dl.x48, Dl.x49, Dl.x50, Dl.x51, Dl.x52, Dl.x53, Dl.x54, Dl.x55, Dl.x56, Dl.x57, Dl.x58, Dl.x59, Dl.x60, Dl.x61, Dl.x62, Dl.x63, Dl.x64, Dl.x65, Dl.x66, Dl.x67, Dl.x68, Dl.x69, Dl.t_int_dict, Dl.t_str_dict, Dl.t_bool_dict, Dl.t_list_dict, Dl.t_tuple_dict, Dl.ln1, Dl.ln2, Dl.ln3, Dl.ln4, Dl.ln5, Dl.ln6, Dl.ln7, Dl.ln8, Dl.ln9, Dl.ln10, Dl.ln11, Dl.ln12, Dl.ln13, Dl.ln14, Dl.ln15, Dl.ln16, Dl.ln17, Dl.ln18, Dl.ln19, Dl.ln20, Dl.u1, Dl.u2, Dl.v1, Dl.v2, Dl.v3, Dl.v4, Dl.v5, Dl.v6, Dl.x72, Dl.x73, Dl.x74, Dl.x75, Dl.x76, Dl.x77, Dl.x78, Dl.t_int_none, Dl.t_int_bool, Dl.t_int_int, Dl.t_int_str, Dl.t_int_list, Dl.t_int_tuple, Dl.t_str_none, Dl.t_str_bool, Dl.t_str_int, Dl.t_str_str, Dl.t_str_list, Dl.t_str_tuple, Dl.t_bool_none, Dl.t_bool_bool, Dl.t_bool_int, Dl.t_bool_str, Dl.t_bool_list, Dl.t_bool_tuple, Dl.t_list_none, Dl.t_list_bool, Dl.t_list_int, Dl.t_list_str, Dl.t_list_list, Dl.t_list_tuple, Dl.t_tuple_none, Dl.t_tuple_bool, Dl.t_tuple_int, Dl.t_tuple_str, Dl.t_tuple_list, Dl.t_tuple_tuple, Dl.ch1, Dl.ch2, Dl.ch3, Dl.ch4, Dl.ch5, Dl.x80, Dl.x81, Dl.x82, Dl.x83, Dl.x84, Dl.x85, Dl.x86, Dl.x87, Dl.x88, Dl.x89, Dl.x90, Dl.x91, Dl.x92, Dl.x93, Dl.x94, Dl.x95, Dl.x96, Dl.x97, Dl.x98, Dl.x99, Dl.x100, Dl.x101, Dl.x102, Dl.x103, Dl.x104, Dl.x105, Dl.x106, Dl.x107, Dl.x108, Dl.x109, Dl.x110, Dl.y1, Dl.y2, Dl.y3, Dl.y4, Dl.y5, Dl.y6, Dl.y7, Dl.y8, Dl.y9, Dl.y10, Dl.y11, Dl.y12, Dl.y13, Dl.y15, Dl.y16, Dl.y22, Dl.y23,
  List.cons_append, List.nil_append, List.append_nil, List.map_cons, List.map_nil, if_true, if_false, Bool.not_true, Bool.not_false, Bool.or_false, Bool.or_self, Bool.false_eq_true, Option.map_some, List.set_cons_zero, List.set_cons_succ, List.length_cons, List.length_nil, reduceIte, decide_true, decide_false, reduceCtorEq, e, hd]
/-- one of the four turns -/
noncomputable def turnB : MS := (seqS (sSet 4 (eBin gIx (eLst [(eC .none), (eC (.bool true)), (eC (.str "3")), (eTup [(eC (.int 3))]), (eLst [(eC (.int 5))]), (eBin Dl.gSub (eCallR m__law_draw [] 1 [(eC (.int 80))]) (eC (.int 10))), (eC (.int 0)), (eBin gPow (eC (.int 10)) (eC (.int 20)))]) (eCallR m__law_draw [] 1 [(eC (.int 8))])))
    (seqS (sSet 5 (eAnd (eIsi "int" (eVar 4)) (eNot (eIsi "bool" (eVar 4)))))
    (seqS (sPar2 6 7 (eBin Dl.gSub (eCallR m__law_draw [] 1 [(eC (.int 12))]) (eC (.int 6))) (eCallR m__law_draw [] 1 [(eC (.int 70))]))
    (seqS (sSet 8 (eLst [(eCall m_is_count is_count_d1 [(eVar 4)]), (eCall m_is_count is_count_d2 [(eVar 4), (eVar 6)]), (eCall m_is_count [] [(eVar 4), (eVar 6), (eVar 7)])]))
    (sIf (notB (eTru (eCall m__law_is [] [(eVar 8), (eLst [(eAnd (eVar 5) (eBin gGe (eVar 4) (eC (.int 0)))), (eAnd (eVar 5) (eBin gGe (eVar 4) (eVar 6))), (eAnd (eVar 5) (eChain gLe gLe (eVar 6) (eVar 4) (eVar 7)))])]))) (sRet (eC (.bool false))) sNil)))))
theorem rep3 : ∀ a b c : Bool, reprOk (.list [.bool a, .bool b, .bool c]) = true := by decide +kernel
theorem is3 (a b c : Bool) : out (m__law_is [.dat (.list [.bool a, .bool b, .bool c]), .dat (.list [.bool a, .bool b, .bool c])]) = .v (.dat (.bool true)) := is_ok (rep3 a b c) rfl
theorem turn_ok {t : Nat} {D : Cel} {s0 s2 s3 : Slot} {r9 : En} {s4 s5 s6 s7 s8 : Slot} (h : Deck t D) (ht : t < 2 ^ 50) (h4 : lkS s4 = false) (h5 : lkS s5 = false) (h6 : lkS s6 = false) (h7 : lkS s7 = false) (h8 : lkS s8 = false) :
    ∃ D' d4 d5 d6 d7 d8, turnB (s0 :: .cel false D :: s2 :: s3 :: s4 :: s5 :: s6 :: s7 :: s8 :: r9) = .ok .nx (s0 :: .cel false D' :: s2 :: s3 :: .dat d4 :: .dat d5 :: .dat d6 :: .dat d7 :: d8 :: r9) ∧ lkS d8 = false ∧ Deck (t + 4) D' := by
  obtain ⟨v1, D1, e1, h10, h11, hD1⟩ := draw_ok t D 80 h (by omega) (by decide) (by decide)
  obtain ⟨v2, D2, e2, h20, h21, hD2⟩ := draw_ok (t + 1) D1 8 hD1 (by omega) (by decide) (by decide)
  obtain ⟨v3, D3, e3, h30, h31, hD3⟩ := draw_ok (t + 1 + 1) D2 12 hD2 (by omega) (by decide) (by decide)
  obtain ⟨v4, D4, e4, h40, h41, hD4⟩ := draw_ok (t + 1 + 1 + 1) D3 70 hD3 (by omega) (by decide) (by decide)
  have hp : gPow (.int 10) (.int 20) = some (.dat (.int 100000000000000000000)) := by rfl
  obtain ⟨d, hd, hm⟩ := atI_some (xs := [PyData.none, .bool true, .str "3", .tuple [.int 3], .list [.int 5], .int (v1 - 10), .int 0, .int 100000000000000000000]) h20 h21
  unfold turnB
  simp only [Dl.e_var, Dl.e_bin, Dl.e_tb, Dl.e_tru, Dl.e_and, Dl.e_or, Dl.e_not, Dl.e_if, Dl.s_if, Dl.e_andV, Dl.e_orV, Dl.e_notV, Dl.e_args, Dl.e_set, Dl.e_setA, Dl.e_rdA, Dl.e_tup, Dl.e_lst, Dl.e_prim, Dl.s_seq, Dl.s_set, Dl.putV_eq, Dl.s_put, Dl.s_aug, Dl.e_call, Dl.e_callR, Dl.refO_d, Dl.refO_c, Dl.e_callS, Dl.e_isi, Dl.e_cut, Dl.e_part, Dl.e_neg, Dl.e_rev, Dl.s_expr, Dl.s_ret, Dl.s_unp, Dl.s_par, Dl.s_for, Dl.e_mut, Dl.e_meth, Dl.at0, Dl.at1, Dl.at2, Dl.at3, Dl.at4, Dl.at5, Dl.at6, Dl.at7, Dl.eq_int, Dl.eq_str, Dl.ne_int, Dl.ne_str, Dl.x113, Dl.s_for, Dl.w1, Dl.w2, Dl.w3, Dl.w4, Dl.w5, Dl.w6, Dl.w7, Dl.w8, Dl.w9, Dl.w10, Dl.w11, Dl.w12, Dl.w13, Dl.w14, Dl.w15, Dl.w16, Dl.w17, Dl.w18, Dl.w19, Dl.w20, Dl.w21, Dl.w22, Dl.w23, Dl.w24, Dl.w25, Dl.w26, Dl.w27, Dl.w28, Dl.w29, Dl.w30, Dl.w31, Dl.w32, Dl.w33, Dl.w34, Dl.w35, Dl.w36, Dl.w37, Dl.w39, Dl.w40, Dl.lit0, Dl.tit0, Dl.lit1, Dl.tit1, Dl.lit2, Dl.tit2, Dl.lit3, Dl.tit3, Dl.lit4, Dl.tit4, Dl.lit5, Dl.tit5, Dl.lit6, Dl.tit6, Dl.lit7, Dl.tit7, Dl.lit8, Dl.tit8, Dl.lit9, Dl.tit9, Dl.lit10, Dl.tit10, Dl.lit11, Dl.tit11, Dl.lit12, Dl.tit12, Dl.lit13, Dl.tit13, Dl.lit14, Dl.tit14, Dl.lit15, Dl.tit15, Dl.lit16, Dl.tit16, Dl.lit17, Dl.tit17, Dl.lit18, Dl.tit18, Dl.lit19, Dl.tit19, Dl.lit20, Dl.tit20, Dl.z0, Dl.z1, Dl.z2, Dl.z3, Dl.z4, Dl.x1, Dl.x2, Dl.x3, Dl.x4, Dl.x5, Dl.x6, Dl.x7, Dl.x8, Dl.x9, Dl.x10, Dl.x11, Dl.x12, Dl.x13, Dl.x14, Dl.x15, Dl.x16, Dl.x17, Dl.x18, Dl.x19, Dl.x20, Dl.x21, Dl.x22, Dl.x23, Dl.x24, Dl.x25, Dl.x26, Dl.x27, Dl.x28, Dl.x29, Dl.x30, Dl.x31, Dl.x32, Dl.x33, Dl.x34, Dl.x35, Dl.x36, Dl.x37, Dl.x38, Dl.x39, Dl.x40, Dl.x41, Dl.x42, Dl.x43, Dl.x44, Dl.x45, Dl.x46, Dl.x47, Dl.x48, Dl.x49, Dl.x50, Dl.x51, Dl.x52, Dl.x53, Dl.x54, Dl.x55, Dl.x56, Dl.x57, Dl.x58, Dl.x59, Dl.x60, Dl.x61, Dl.x62, Dl.x63, Dl.x64, Dl.x65, Dl.x66, Dl.x67, Dl.x68, Dl.x69, Dl.t_int_dict, Dl.t_str_dict, Dl.t_bool_dict, Dl.t_list_dict, Dl.t_tuple_dict, Dl.ln1, Dl.ln2, Dl.ln3, Dl.ln4, Dl.ln5, Dl.ln6, Dl.ln7, Dl.ln8, Dl.ln9, Dl.ln10, Dl.ln11, Dl.ln12, Dl.ln13, Dl.ln14, Dl.ln15, Dl.ln16, Dl.ln17, Dl.ln18, Dl.ln19, Dl.ln20, Dl.u1, Dl.u2, Dl.v1, Dl.v2, Dl.v3, Dl.v4, Dl.v5, Dl.v6, Dl.x72, Dl.x73, Dl.x74, Dl.x75, Dl.x76, Dl.x77, Dl.x78, Dl.t_int_none, Dl.t_int_bool, Dl.t_int_int, Dl.t_int_str, Dl.t_int_list, Dl.t_int_tuple, Dl.t_str_none, Dl.t_str_bool, Dl.t_str_int, Dl.t_str_str, Dl.t_str_list, Dl.t_str_tuple, Dl.t_bool_none, Dl.t_bool_bool, Dl.t_bool_int, Dl.t_bool_str, Dl.t_bool_list, Dl.t_bool_tuple, Dl.t_list_none, Dl.t_list_bool, Dl.t_list_int, Dl.t_list_str, Dl.t_list_list, Dl.t_list_tuple, Dl.t_tuple_none, Dl.t_tuple_bool, Dl.t_tuple_int, Dl.t_tuple_str, Dl.t_tuple_list, Dl.t_tuple_tuple, Dl.ch1, Dl.ch2, Dl.ch3, Dl.ch4, Dl.ch5, Dl.x80, Dl.x81, Dl.x82, Dl.x83, Dl.x84, Dl.x85, Dl.x86, Dl.x87, Dl.x88, Dl.x89, Dl.x90, Dl.x91, Dl.x92, Dl.x93, Dl.x94, Dl.x95, Dl.x96, Dl.x97, Dl.x98, Dl.x99, Dl.x100, Dl.x101, Dl.x102, Dl.x103, Dl.x104, Dl.x105, Dl.x106, Dl.x107, Dl.x108, Dl.x109, Dl.x110, Dl.y1, Dl.y2, Dl.y3, Dl.y4, Dl.y5, Dl.y6, Dl.y7, Dl.y8, Dl.y9, Dl.y10, Dl.y11, Dl.y12, Dl.y13, Dl.y15, Dl.y16, Dl.y22, Dl.y23,
  List.cons_append, List.nil_append, List.append_nil, List.map_cons, List.map_nil, if_true, if_false, Bool.not_true, Bool.not_false, Bool.or_false, Bool.or_self, Bool.false_eq_true, Option.map_some, List.set_cons_zero, List.set_cons_succ, List.length_cons, List.length_nil, reduceIte, decide_true, decide_false, reduceCtorEq, e1, e2, hp, hd, putO_lk h4]
  simp only [List.mem_cons, List.not_mem_nil, or_false] at hm
  have hx : ∀ i : Int, (v3 - 6 ≤ i) ∨ ¬ (v3 - 6 ≤ i) := fun i => Classical.em _
  rcases hm with rfl | rfl | rfl | rfl | rfl | rfl | rfl | rfl
  case inr.inr.inr.inr.inr.inl =>
    rcases hx (v1 - 10) with hx | hx
    all_goals
      simp only [Dl.e_var, Dl.e_bin, Dl.e_tb, Dl.e_tru, Dl.e_and, Dl.e_or, Dl.e_not, Dl.e_if, Dl.s_if, Dl.e_andV, Dl.e_orV, Dl.e_notV, Dl.e_args, Dl.e_set, Dl.e_setA, Dl.e_rdA, Dl.e_tup, Dl.e_lst, Dl.e_prim, Dl.s_seq, Dl.s_set, Dl.putV_eq, Dl.s_put, Dl.s_aug, Dl.e_call, Dl.e_callR, Dl.refO_d, Dl.refO_c, Dl.e_callS, Dl.e_isi, Dl.e_cut, Dl.e_part, Dl.e_neg, Dl.e_rev, Dl.s_expr, Dl.s_ret, Dl.s_unp, Dl.s_par, Dl.s_for, Dl.e_mut, Dl.e_meth, Dl.at0, Dl.at1, Dl.at2, Dl.at3, Dl.at4, Dl.at5, Dl.at6, Dl.at7, Dl.eq_int, Dl.eq_str, Dl.ne_int, Dl.ne_str, Dl.x113, Dl.s_for, Dl.w1, Dl.w2, Dl.w3, Dl.w4, Dl.w5, Dl.w6, Dl.w7, Dl.w8, Dl.w9, Dl.w10, Dl.w11, Dl.w12, Dl.w13, Dl.w14, Dl.w15, Dl.w16, Dl.w17, Dl.w18, Dl.w19, Dl.w20, Dl.w21, Dl.w22, Dl.w23, Dl.w24, Dl.w25, Dl.w26, Dl.w27, Dl.w28, Dl.w29, Dl.w30, Dl.w31, Dl.w32, Dl.w33, Dl.w34, Dl.w35, Dl.w36, Dl.w37, Dl.w39, Dl.w40, Dl.lit0, Dl.tit0, Dl.lit1, Dl.tit1, Dl.lit2, Dl.tit2, Dl.lit3, Dl.tit3, Dl.lit4, Dl.tit4, Dl.lit5, Dl.tit5, Dl.lit6, Dl.tit6, Dl.lit7, Dl.tit7, Dl.lit8, Dl.tit8, Dl.lit9, Dl.tit9, Dl.lit10, Dl.tit10, Dl.lit11, Dl.tit11, Dl.lit12, Dl.tit12, Dl.lit13, Dl.tit13, Dl.lit14, Dl.tit14, Dl.lit15, Dl.tit15, Dl.lit16, Dl.tit16, Dl.lit17, Dl.tit17, Dl.lit18, Dl.tit18, Dl.lit19, Dl.tit19, Dl.lit20, Dl.tit20, Dl.z0, Dl.z1, Dl.z2, Dl.z3, Dl.z4, Dl.x1, Dl.x2, Dl.x3, Dl.x4, Dl.x5, Dl.x6, Dl.x7, Dl.x8, Dl.x9, Dl.x10, Dl.x11, Dl.x12, Dl.x13, Dl.x14, Dl.x15, Dl.x16, Dl.x17, Dl.x18, Dl.x19, Dl.x20, Dl.x21, Dl.x22, Dl.x23, Dl.x24, Dl.x25, Dl.x26, Dl.x27, Dl.x28, Dl.x29, Dl.x30, Dl.x31, Dl.x32, Dl.x33, Dl.x34, Dl.x35, Dl.x36, Dl.x37, Dl.x38, Dl.x39, Dl.x40, Dl.x41, Dl.x42, Dl.x43, Dl.x44, Dl.x45, Dl.x46, Dl.x47, Dl.x48, Dl.x49, Dl.x50, Dl.x51, Dl.x52, Dl.x53, Dl.x54, Dl.x55, Dl.x56, Dl.x57, Dl.x58, Dl.x59, Dl.x60, Dl.x61, Dl.x62, Dl.x63, Dl.x64, Dl.x65, Dl.x66, Dl.x67, Dl.x68, Dl.x69, Dl.t_int_dict, Dl.t_str_dict, Dl.t_bool_dict, Dl.t_list_dict, Dl.t_tuple_dict, Dl.ln1, Dl.ln2, Dl.ln3, Dl.ln4, Dl.ln5, Dl.ln6, Dl.ln7, Dl.ln8, Dl.ln9, Dl.ln10, Dl.ln11, Dl.ln12, Dl.ln13, Dl.ln14, Dl.ln15, Dl.ln16, Dl.ln17, Dl.ln18, Dl.ln19, Dl.ln20, Dl.u1, Dl.u2, Dl.v1, Dl.v2, Dl.v3, Dl.v4, Dl.v5, Dl.v6, Dl.x72, Dl.x73, Dl.x74, Dl.x75, Dl.x76, Dl.x77, Dl.x78, Dl.t_int_none, Dl.t_int_bool, Dl.t_int_int, Dl.t_int_str, Dl.t_int_list, Dl.t_int_tuple, Dl.t_str_none, Dl.t_str_bool, Dl.t_str_int, Dl.t_str_str, Dl.t_str_list, Dl.t_str_tuple, Dl.t_bool_none, Dl.t_bool_bool, Dl.t_bool_int, Dl.t_bool_str, Dl.t_bool_list, Dl.t_bool_tuple, Dl.t_list_none, Dl.t_list_bool, Dl.t_list_int, Dl.t_list_str, Dl.t_list_list, Dl.t_list_tuple, Dl.t_tuple_none, Dl.t_tuple_bool, Dl.t_tuple_int, Dl.t_tuple_str, Dl.t_tuple_list, Dl.t_tuple_tuple, Dl.ch1, Dl.ch2, Dl.ch3, Dl.ch4, Dl.ch5, Dl.x80, Dl.x81, Dl.x82, Dl.x83, Dl.x84, Dl.x85, Dl.x86, Dl.x87, Dl.x88, Dl.x89, Dl.x90, Dl.x91, Dl.x92, Dl.x93, Dl.x94, Dl.x95, Dl.x96, Dl.x97, Dl.x98, Dl.x99, Dl.x100, Dl.x101, Dl.x102, Dl.x103, Dl.x104, Dl.x105, Dl.x106, Dl.x107, Dl.x108, Dl.x109, Dl.x110, Dl.y1, Dl.y2, Dl.y3, Dl.y4, Dl.y5, Dl.y6, Dl.y7, Dl.y8, Dl.y9, Dl.y10, Dl.y11, Dl.y12, Dl.y13, Dl.y15, Dl.y16, Dl.y22, Dl.y23,
  List.cons_append, List.nil_append, List.append_nil, List.map_cons, List.map_nil, if_true, if_false, Bool.not_true, Bool.not_false, Bool.or_false, Bool.or_self, Bool.false_eq_true, Option.map_some, List.set_cons_zero, List.set_cons_succ, List.length_cons, List.length_nil, reduceIte, decide_true, decide_false, reduceCtorEq, e3, e4, putO_lk h5, h6, h7, putO_lk h8, is_count_d1, is_count_d2, s_is_count, s_is_count2, hx, Bool.true_and, Bool.false_and, is3]
      exact ⟨_, _, _, _, _, _, rfl, rfl, hD4⟩
  case inr.inr.inr.inr.inr.inr.inl =>
    rcases hx 0 with hx | hx
    all_goals
      simp only [Dl.e_var, Dl.e_bin, Dl.e_tb, Dl.e_tru, Dl.e_and, Dl.e_or, Dl.e_not, Dl.e_if, Dl.s_if, Dl.e_andV, Dl.e_orV, Dl.e_notV, Dl.e_args, Dl.e_set, Dl.e_setA, Dl.e_rdA, Dl.e_tup, Dl.e_lst, Dl.e_prim, Dl.s_seq, Dl.s_set, Dl.putV_eq, Dl.s_put, Dl.s_aug, Dl.e_call, Dl.e_callR, Dl.refO_d, Dl.refO_c, Dl.e_callS, Dl.e_isi, Dl.e_cut, Dl.e_part, Dl.e_neg, Dl.e_rev, Dl.s_expr, Dl.s_ret, Dl.s_unp, Dl.s_par, Dl.s_for, Dl.e_mut, Dl.e_meth, Dl.at0, Dl.at1, Dl.at2, Dl.at3, Dl.at4, Dl.at5, Dl.at6, Dl.at7, Dl.eq_int, Dl.eq_str, Dl.ne_int, Dl.ne_str, Dl.x113, Dl.s_for, Dl.w1, Dl.w2, Dl.w3, Dl.w4, Dl.w5, Dl.w6, Dl.w7, Dl.w8, Dl.w9, Dl.w10, Dl.w11, Dl.w12, Dl.w13, Dl.w14, Dl.w15, Dl.w16, Dl.w17, Dl.w18, Dl.w19, Dl.w20, Dl.w21, Dl.w22, Dl.w23, Dl.w24, Dl.w25, Dl.w26, Dl.w27, Dl.w28, Dl.w29, Dl.w30, Dl.w31, Dl.w32, Dl.w33, Dl.w34, Dl.w35, Dl.w36, Dl.w37, Dl.w39, Dl.w40, Dl.lit0, Dl.tit0, Dl.lit1, Dl.tit1, Dl.lit2, Dl.tit2, Dl.lit3, Dl.tit3, Dl.lit4, Dl.tit4, Dl.lit5, Dl.tit5, Dl.lit6, Dl.tit6, Dl.lit7, Dl.tit7, Dl.lit8, Dl.tit8, Dl.lit9, Dl.tit9, Dl.lit10, Dl.tit10, Dl.lit11, Dl.tit11, Dl.lit12, Dl.tit12, Dl.lit13, Dl.tit13, Dl.lit14, Dl.tit14, Dl.lit15, Dl.tit15, Dl.lit16, Dl.tit16, Dl.lit17, Dl.tit17, Dl.lit18, Dl.tit18, Dl.lit19, Dl.tit19, Dl.lit20, Dl.tit20, Dl.z0, Dl.z1, Dl.z2, Dl.z3, Dl.z4, Dl.x1, Dl.x2, Dl.x3, Dl.x4, Dl.x5, Dl.x6, Dl.x7, Dl.x8, Dl.x9, Dl.x10, Dl.x11, Dl.x12, Dl.x13, Dl.x14, Dl.x15, Dl.x16, Dl.x17, Dl.x18, Dl.x19, Dl.x20, Dl.x21, Dl.x22, Dl.x23, Dl.x24, Dl.x25, Dl.x26, Dl.x27, Dl.x28, Dl.x29, Dl.x30, Dl.x31, Dl.x32, Dl.x33, Dl.x34, Dl.x35, Dl.x36, Dl.x37, Dl.x38, Dl.x39, Dl.x40, Dl.x41, Dl.x42, Dl.x43, Dl.x44, Dl.x45, Dl.x46, Dl.x47, Dl.x48, Dl.x49, Dl.x50, Dl.x51, Dl.x52, Dl.x53, Dl.x54, Dl.x55, Dl.x56, Dl.x57, Dl.x58, Dl.x59, Dl.x60, Dl.x61, Dl.x62, Dl.x63, Dl.x64, Dl.x65, Dl.x66, Dl.x67, Dl.x68, Dl.x69, Dl.t_int_dict, Dl.t_str_dict, Dl.t_bool_dict, Dl.t_list_dict, Dl.t_tuple_dict, Dl.ln1, Dl.ln2, Dl.ln3, Dl.ln4, Dl.ln5, Dl.ln6, Dl.ln7, Dl.ln8, Dl.ln9, Dl.ln10, Dl.ln11, Dl.ln12, Dl.ln13, Dl.ln14, Dl.ln15, Dl.ln16, Dl.ln17, Dl.ln18, Dl.ln19, Dl.ln20, Dl.u1, Dl.u2, Dl.v1, Dl.v2, Dl.v3, Dl.v4, Dl.v5, Dl.v6, Dl.x72, Dl.x73, Dl.x74, Dl.x75, Dl.x76, Dl.x77, Dl.x78, Dl.t_int_none, Dl.t_int_bool, Dl.t_int_int, Dl.t_int_str, Dl.t_int_list, Dl.t_int_tuple, Dl.t_str_none, Dl.t_str_bool, Dl.t_str_int, Dl.t_str_str, Dl.t_str_list, Dl.t_str_tuple, Dl.t_bool_none, Dl.t_bool_bool, Dl.t_bool_int, Dl.t_bool_str, Dl.t_bool_list, Dl.t_bool_tuple, Dl.t_list_none, Dl.t_list_bool, Dl.t_list_int, Dl.t_list_str, Dl.t_list_list, Dl.t_list_tuple, Dl.t_tuple_none, Dl.t_tuple_bool, Dl.t_tuple_int, Dl.t_tuple_str, Dl.t_tuple_list, Dl.t_tuple_tuple, Dl.ch1, Dl.ch2, Dl.ch3, Dl.ch4, Dl.ch5, Dl.x80, Dl.x81, Dl.x82, Dl.x83, Dl.x84, Dl.x85, Dl.x86, Dl.x87, Dl.x88, Dl.x89, Dl.x90, Dl.x91, Dl.x92, Dl.x93, Dl.x94, Dl.x95, Dl.x96, Dl.x97, Dl.x98, Dl.x99, Dl.x100, Dl.x101, Dl.x102, Dl.x103, Dl.x104, Dl.x105, Dl.x106, Dl.x107, Dl.x108, Dl.x109, Dl.x110, Dl.y1, Dl.y2, Dl.y3, Dl.y4, Dl.y5, Dl.y6, Dl.y7, Dl.y8, Dl.y9, Dl.y10, Dl.y11, Dl.y12, Dl.y13, Dl.y15, Dl.y16, Dl.y22, Dl.y23,
  List.cons_append, List.nil_append, List.append_nil, List.map_cons, List.map_nil, if_true, if_false, Bool.not_true, Bool.not_false, Bool.or_false, Bool.or_self, Bool.false_eq_true, Option.map_some, List.set_cons_zero, List.set_cons_succ, List.length_cons, List.length_nil, reduceIte, decide_true, decide_false, reduceCtorEq, e3, e4, putO_lk h5, h6, h7, putO_lk h8, is_count_d1, is_count_d2, s_is_count, s_is_count2, hx, Bool.true_and, Bool.false_and, is3]
      exact ⟨_, _, _, _, _, _, rfl, rfl, hD4⟩
  case inr.inr.inr.inr.inr.inr.inr =>
    rcases hx 100000000000000000000 with hx | hx
    all_goals
      simp only [Dl.e_var, Dl.e_bin, Dl.e_tb, Dl.e_tru, Dl.e_and, Dl.e_or, Dl.e_not, Dl.e_if, Dl.s_if, Dl.e_andV, Dl.e_orV, Dl.e_notV, Dl.e_args, Dl.e_set, Dl.e_setA, Dl.e_rdA, Dl.e_tup, Dl.e_lst, Dl.e_prim, Dl.s_seq, Dl.s_set, Dl.putV_eq, Dl.s_put, Dl.s_aug, Dl.e_call, Dl.e_callR, Dl.refO_d, Dl.refO_c, Dl.e_callS, Dl.e_isi, Dl.e_cut, Dl.e_part, Dl.e_neg, Dl.e_rev, Dl.s_expr, Dl.s_ret, Dl.s_unp, Dl.s_par, Dl.s_for, Dl.e_mut, Dl.e_meth, Dl.at0, Dl.at1, Dl.at2, Dl.at3, Dl.at4, Dl.at5, Dl.at6, Dl.at7, Dl.eq_int, Dl.eq_str, Dl.ne_int, Dl.ne_str, Dl.x113, Dl.s_for, Dl.w1, Dl.w2, Dl.w3, Dl.w4, Dl.w5, Dl.w6, Dl.w7, Dl.w8, Dl.w9, Dl.w10, Dl.w11, Dl.w12, Dl.w13, Dl.w14, Dl.w15, Dl.w16, Dl.w17, Dl.w18, Dl.w19, Dl.w20, Dl.w21, Dl.w22, Dl.w23, Dl.w24, Dl.w25, Dl.w26, Dl.w27, Dl.w28, Dl.w29, Dl.w30, Dl.w31, Dl.w32, Dl.w33, Dl.w34, Dl.w35, Dl.w36, Dl.w37, Dl.w39, Dl.w40, Dl.lit0, Dl.tit0, Dl.lit1, Dl.tit1, Dl.lit2, Dl.tit2, Dl.lit3, Dl.tit3, Dl.lit4, Dl.tit4, Dl.lit5, Dl.tit5, Dl.lit6, Dl.tit6, Dl.lit7, Dl.tit7, Dl.lit8, Dl.tit8, Dl.lit9, Dl.tit9, Dl.lit10, Dl.tit10, Dl.lit11, Dl.tit11, Dl.lit12, Dl.tit12, Dl.lit13, Dl.tit13, Dl.lit14, Dl.tit14, Dl.lit15, Dl.tit15, Dl.lit16, Dl.tit16, Dl.lit17, Dl.tit17, Dl.lit18, Dl.tit18, Dl.lit19, Dl.tit19, Dl.lit20, Dl.tit20, Dl.z0, Dl.z1, Dl.z2, Dl.z3, Dl.z4, Dl.x1, Dl.x2, Dl.x3, Dl.x4, Dl.x5, Dl.x6, Dl.x7, Dl.x8, Dl.x9, Dl.x10, Dl.x11, Dl.x12, Dl.x13, Dl.x14, Dl.x15, Dl.x16, Dl.x17, Dl.x18, Dl.x19, Dl.x20, Dl.x21, Dl.x22, Dl.x23, Dl.x24, Dl.x25, Dl.x26, Dl.x27, Dl.x28, Dl.x29, Dl.x30, Dl.x31, Dl.x32, Dl.x33, Dl.x34, Dl.x35, Dl.x36, Dl.x37, Dl.x38, Dl.x39, Dl.x40, Dl.x41, Dl.x42, Dl.x43, Dl.x44, Dl.x45, Dl.x46, Dl.x47, Dl.x48, Dl.x49, Dl.x50, Dl.x51, Dl.x52, Dl.x53, Dl.x54, Dl.x55, Dl.x56, Dl.x57, Dl.x58, Dl.x59, Dl.x60, Dl.x61, Dl.x62, Dl.x63, Dl.x64, Dl.x65, Dl.x66, Dl.x67, Dl.x68, Dl.x69, Dl.t_int_dict, Dl.t_str_dict, Dl.t_bool_dict, Dl.t_list_dict, Dl.t_tuple_dict, Dl.ln1, Dl.ln2, Dl.ln3, Dl.ln4, Dl.ln5, Dl.ln6, Dl.ln7, Dl.ln8, Dl.ln9, Dl.ln10, Dl.ln11, Dl.ln12, Dl.ln13, Dl.ln14, Dl.ln15, Dl.ln16, Dl.ln17, Dl.ln18, Dl.ln19, Dl.ln20, Dl.u1, Dl.u2, Dl.v1, Dl.v2, Dl.v3, Dl.v4, Dl.v5, Dl.v6, Dl.x72, Dl.x73, Dl.x74, Dl.x75, Dl.x76, Dl.x77, Dl.x78, Dl.t_int_none, Dl.t_int_bool, Dl.t_int_int, Dl.t_int_str, Dl.t_int_list, Dl.t_int_tuple, Dl.t_str_none, Dl.t_str_bool, Dl.t_str_int, Dl.t_str_str, Dl.t_str_list, Dl.t_str_tuple, Dl.t_bool_none, Dl.t_bool_bool, Dl.t_bool_int, Dl.t_bool_str, Dl.t_bool_list, Dl.t_bool_tuple, Dl.t_list_none, Dl.t_list_bool, Dl.t_list_int, Dl.t_list_str, Dl.t_list_list, Dl.t_list_tuple, Dl.t_tuple_none, Dl.t_tuple_bool, Dl.t_tuple_int, Dl.t_tuple_str, Dl.t_tuple_list, Dl.t_tuple_tuple, Dl.ch1, Dl.ch2, Dl.ch3, Dl.ch4, Dl.ch5, Dl.x80, Dl.x81, Dl.x82, Dl.x83, Dl.x84, Dl.x85, Dl.x86, Dl.x87, Dl.x88, Dl.x89, Dl.x90, Dl.x91, Dl.x92, Dl.x93, Dl.x94, Dl.x95, Dl.x96, Dl.x97, Dl.x98, Dl.x99, Dl.x100, Dl.x101, Dl.x102, Dl.x103, Dl.x104, Dl.x105, Dl.x106, Dl.x107, Dl.x108, Dl.x109, Dl.x110, Dl.y1, Dl.y2, Dl.y3, Dl.y4, Dl.y5, Dl.y6, Dl.y7, Dl.y8, Dl.y9, Dl.y10, Dl.y11, Dl.y12, Dl.y13, Dl.y15, Dl.y16, Dl.y22, Dl.y23,
  List.cons_append, List.nil_append, List.append_nil, List.map_cons, List.map_nil, if_true, if_false, Bool.not_true, Bool.not_false, Bool.or_false, Bool.or_self, Bool.false_eq_true, Option.map_some, List.set_cons_zero, List.set_cons_succ, List.length_cons, List.length_nil, reduceIte, decide_true, decide_false, reduceCtorEq, e3, e4, putO_lk h5, h6, h7, putO_lk h8, is_count_d1, is_count_d2, s_is_count, s_is_count2, hx, Bool.true_and, Bool.false_and, is3]
      exact ⟨_, _, _, _, _, _, rfl, rfl, hD4⟩
  all_goals
    simp only [Dl.e_var, Dl.e_bin, Dl.e_tb, Dl.e_tru, Dl.e_and, Dl.e_or, Dl.e_not, Dl.e_if, Dl.s_if, Dl.e_andV, Dl.e_orV, Dl.e_notV, Dl.e_args, Dl.e_set, Dl.e_setA, Dl.e_rdA, Dl.e_tup, Dl.e_lst, Dl.e_prim, Dl.s_seq, Dl.s_set, Dl.putV_eq, Dl.s_put, Dl.s_aug, Dl.e_call, Dl.e_callR, Dl.refO_d, Dl.refO_c, Dl.e_callS, Dl.e_isi, Dl.e_cut, Dl.e_part, Dl.e_neg, Dl.e_rev, Dl.s_expr, Dl.s_ret, Dl.s_unp, Dl.s_par, Dl.s_for, Dl.e_mut, Dl.e_meth, Dl.at0, Dl.at1, Dl.at2, Dl.at3, Dl.at4, Dl.at5, Dl.at6, Dl.at7, Dl.eq_int, Dl.eq_str, Dl.ne_int, Dl.ne_str, Dl.x113, Dl.s_for, Dl.w1, Dl.w2, Dl.w3, Dl.w4, Dl.w5, Dl.w6, Dl.w7, Dl.w8, Dl.w9, Dl.w10, Dl.w11, Dl.w12, Dl.w13, Dl.w14, Dl.w15, Dl.w16, Dl.w17, Dl.w18, Dl.w19, Dl.w20, Dl.w21, Dl.w22, Dl.w23, Dl.w24, Dl.w25, Dl.w26, Dl.w27, Dl.w28, Dl.w29, Dl.w30, Dl.w31, Dl.w32, Dl.w33, Dl.w34, Dl.w35, Dl.w36, Dl.w37, Dl.w39, Dl.w40, Dl.lit0, Dl.tit0, Dl.lit1, Dl.tit1, Dl.lit2, Dl.tit2, Dl.lit3, Dl.tit3, Dl.lit4, Dl.tit4, Dl.lit5, Dl.tit5, Dl.lit6, Dl.tit6, Dl.lit7, Dl.tit7, Dl.lit8, Dl.tit8, Dl.lit9, Dl.tit9, Dl.lit10, Dl.tit10, Dl.lit11, Dl.tit11, Dl.lit12, Dl.tit12, Dl.lit13, Dl.tit13, Dl.lit14, Dl.tit14, Dl.lit15, Dl.tit15, Dl.lit16, Dl.tit16, Dl.lit17, Dl.tit17, Dl.lit18, Dl.tit18, Dl.lit19, Dl.tit19, Dl.lit20, Dl.tit20, Dl.z0, Dl.z1, Dl.z2, Dl.z3, Dl.z4, Dl.x1, Dl.x2, Dl.x3, Dl.x4, Dl.x5, Dl.x6, Dl.x7, Dl.x8, Dl.x9, Dl.x10, Dl.x11, Dl.x12, Dl.x13, Dl.x14, Dl.x15, Dl.x16, Dl.x17, Dl.x18, Dl.x19, Dl.x20, Dl.x21, Dl.x22, Dl.x23, Dl.x24, Dl.x25, Dl.x26, Dl.x27, Dl.x28, Dl.x29, Dl.x30, Dl.x31, Dl.x32, Dl.x33, Dl.x34, Dl.x35, Dl.x36, Dl.x37, Dl.x38, Dl.x39, Dl.x40, Dl.x41, Dl.x42, Dl.x43, Dl.x44, Dl.x45, Dl.x46, Dl.x47, Dl.x48, Dl.x49, Dl.x50, Dl.x51, Dl.x52, Dl.x53, Dl.x54, Dl.x55, Dl.x56, Dl.x57, Dl.x58, Dl.x59, Dl.x60, Dl.x61, Dl.x62, Dl.x63, Dl.x64, Dl.x65, Dl.x66, Dl.x67, Dl.x68, Dl.x69, Dl.t_int_dict, Dl.t_str_dict, Dl.t_bool_dict, Dl.t_list_dict, Dl.t_tuple_dict, Dl.ln1, Dl.ln2, Dl.ln3, Dl.ln4, Dl.ln5, Dl.ln6, Dl.ln7, Dl.ln8, Dl.ln9, Dl.ln10, Dl.ln11, Dl.ln12, Dl.ln13, Dl.ln14, Dl.ln15, Dl.ln16, Dl.ln17, Dl.ln18, Dl.ln19, Dl.ln20, Dl.u1, Dl.u2, Dl.v1, Dl.v2, Dl.v3, Dl.v4, Dl.v5, Dl.v6, Dl.x72, Dl.x73, Dl.x74, Dl.x75, Dl.x76, Dl.x77, Dl.x78, Dl.t_int_none, Dl.t_int_bool, Dl.t_int_int, Dl.t_int_str, Dl.t_int_list, Dl.t_int_tuple, Dl.t_str_none, Dl.t_str_bool, Dl.t_str_int, Dl.t_str_str, Dl.t_str_list, Dl.t_str_tuple, Dl.t_bool_none, Dl.t_bool_bool, Dl.t_bool_int, Dl.t_bool_str, Dl.t_bool_list, Dl.t_bool_tuple, Dl.t_list_none, Dl.t_list_bool, Dl.t_list_int, Dl.t_list_str, Dl.t_list_list, Dl.t_list_tuple, Dl.t_tuple_none, Dl.t_tuple_bool, Dl.t_tuple_int, Dl.t_tuple_str, Dl.t_tuple_list, Dl.t_tuple_tuple, Dl.ch1, Dl.ch2, Dl.ch3, Dl.ch4, Dl.ch5, Dl.x80, Dl.x81, Dl.x82, Dl.x83, Dl.x84, Dl.x85, Dl.x86, Dl.x87, Dl.x88, Dl.x89, Dl.x90, Dl.x91, Dl.x92, Dl.x93, Dl.x94, Dl.x95, Dl.x96, Dl.x97, Dl.x98, Dl.x99, Dl.x100, Dl.x101, Dl.x102, Dl.x103, Dl.x104, Dl.x105, Dl.x106, Dl.x107, Dl.x108, Dl.x109, Dl.x110, Dl.y1, Dl.y2, Dl.y3, Dl.y4, Dl.y5, Dl.y6, Dl.y7, Dl.y8, Dl.y9, Dl.y10, Dl.y11, Dl.y12, Dl.y13, Dl.y15, Dl.y16, Dl.y22, Dl.y23,
  List.cons_append, List.nil_append, List.append_nil, List.map_cons, List.map_nil, if_true, if_false, Bool.not_true, Bool.not_false, Bool.or_false, Bool.or_self, Bool.false_eq_true, Option.map_some, List.set_cons_zero, List.set_cons_succ, List.length_cons, List.length_nil, reduceIte, decide_true, decide_false, reduceCtorEq, e3, e4, putO_lk h5, h6, h7, putO_lk h8, is_count_d1, is_count_d2, s_is_count, s_is_count2, is3]
    exact ⟨_, _, _, _, _, _, rfl, rfl, hD4⟩
end K01
end

-- text L3
section
set_option Elab.async false
set_option linter.all false
set_option maxRecDepth 100000
set_option maxHeartbeats 4000000
namespace K01
open PySem Dl
def R15 : List Dat := [.str "ab", .str "ba", .str "aa", .str "", .str "abcd", .str "a", .str "xyz", .str "Ab", .str "a1", .none, .list [.str "a"], .int 3, .str "az", .str "abb", .bool true]
theorem s_rows : ∀ d ∈ R15, ∃ b, out (m_is_letters [.dat d]) = .v (.dat (.bool b)) ∧ gIn d (.list [.str "ab", .str "a", .str "xyz", .str "az"]) = some (.dat (.bool b)) := by
  intro d hd
  simp only [R15, List.mem_cons, List.not_mem_nil, or_false] at hd
  rcases hd with rfl | rfl | rfl | rfl | rfl | rfl | rfl | rfl | rfl | rfl | rfl | rfl | rfl | rfl | rfl
  · exact ⟨true, by kernel_rfl, by kernel_rfl⟩
  · exact ⟨false, by kernel_rfl, by kernel_rfl⟩
  · exact ⟨false, by kernel_rfl, by kernel_rfl⟩
  · exact ⟨false, by kernel_rfl, by kernel_rfl⟩
  · exact ⟨false, by kernel_rfl, by kernel_rfl⟩
  · exact ⟨true, by kernel_rfl, by kernel_rfl⟩
  · exact ⟨true, by kernel_rfl, by kernel_rfl⟩
  · exact ⟨false, by kernel_rfl, by kernel_rfl⟩
  · exact ⟨false, by kernel_rfl, by kernel_rfl⟩
  · exact ⟨false, by kernel_rfl, by kernel_rfl⟩
  · exact ⟨false, by kernel_rfl, by kernel_rfl⟩
  · exact ⟨false, by kernel_rfl, by kernel_rfl⟩
  · exact ⟨true, by kernel_rfl, by kernel_rfl⟩
  · exact ⟨false, by kernel_rfl, by kernel_rfl⟩
  · exact ⟨false, by kernel_rfl, by kernel_rfl⟩
def wordOk (L : Str) : Dat → Bool
  | .str x => decide ((x.length : Int) ≤ 60) && x.cps.toList.all fun c => inStr (sg c) L
  | _ => false
def smallStr : Dat → Prop
  | .str x => x.length ≤ 1000
  | _ => True
theorem u_is_word (a b : Slot) : m_is_word [a, b] = endF (b_is_word [a, b, .un]) := rfl
theorem s_is_word (L : Str) (d : Dat) (hd : smallStr d) : out (m_is_word [.dat (.str L), .dat d]) = .v (.dat (.bool (wordOk L d))) := by
  rw [u_is_word]
  unfold b_is_word
  cases d with
  | str x =>
    have hx : x.length ≤ 1000 := hd
    have hc := lc_chars (f := lcT (.nm 2) tYesB (eBin gIn (eVar 2) (eVar 0)) [2]) (g := fun c => PyData.bool (inStr (sg c) L)) (x := x) (ρ := [.dat (.str L), .dat (.str x), .un]) (fun c => by
      simp only [Dl.e_var, Dl.e_bin, Dl.e_tb, Dl.e_tru, Dl.e_and, Dl.e_or, Dl.e_not, Dl.e_if, Dl.s_if, Dl.e_andV, Dl.e_orV, Dl.e_notV, Dl.e_args, Dl.e_set, Dl.e_setA, Dl.e_rdA, Dl.e_tup, Dl.e_lst, Dl.e_prim, Dl.s_seq, Dl.s_set, Dl.putV_eq, Dl.s_put, Dl.s_aug, Dl.e_call, Dl.e_callR, Dl.refO_d, Dl.refO_c, Dl.e_callS, Dl.e_isi, Dl.e_cut, Dl.e_part, Dl.e_neg, Dl.e_rev, Dl.s_expr, Dl.s_ret, Dl.s_unp, Dl.s_par, Dl.s_for, Dl.e_mut, Dl.e_meth, Dl.at0, Dl.at1, Dl.at2, Dl.at3, Dl.at4, Dl.at5, Dl.at6, Dl.at7, Dl.eq_int, Dl.eq_str, Dl.ne_int, Dl.ne_str, Dl.x113, Dl.s_for, Dl.w1, Dl.w2, Dl.w3, Dl.w4, Dl.w5, Dl.w6, Dl.w7, Dl.w8, Dl.w9, Dl.w10, Dl.w11, Dl.w12, Dl.w13, Dl.w14, Dl.w15, Dl.w16, Dl.w17, Dl.w18, Dl.w19, Dl.w20, Dl.w21, Dl.w22, Dl.w23, Dl.w24, Dl.w25, Dl.w26, Dl.w27, Dl.w28, Dl.w29, Dl.w30, Dl.w31, Dl.w32, Dl.w33, Dl.w34, Dl.w35, Dl.w36, Dl.w37, Dl.w39, Dl.w40, Dl.lit0, Dl.tit0, Dl.lit1, Dl.tit1, Dl.lit2, Dl.tit2, Dl.lit3, Dl.tit3, Dl.lit4, Dl.tit4, Dl.lit5, Dl.tit5, Dl.lit6, Dl.tit6, Dl.lit7, Dl.tit7, Dl.lit8, Dl.tit8, Dl.lit9, Dl.tit9, Dl.lit10, Dl.tit10, Dl.lit11, Dl.tit11, Dl.lit12, Dl.tit12, Dl.lit13, Dl.tit13, Dl.lit14, Dl.tit14, Dl.lit15, Dl.tit15, Dl.lit16, Dl.tit16, Dl.lit17, Dl.tit17, Dl.lit18, Dl.tit18, Dl.lit19, Dl.tit19, Dl.lit20, Dl.tit20, Dl.z0, Dl.z1, Dl.z2, Dl.z3, Dl.z4, Dl.x1, Dl.x2, Dl.x3, Dl.x4, Dl.x5, Dl.x6, Dl.x7, Dl.x8, Dl.x9, Dl.x10, Dl.x11, Dl.x12, Dl.x13, Dl.x14, Dl.x15, Dl.x16, Dl.x17, Dl.x18, Dl.x19, Dl.x20, Dl.x21, Dl.x22, Dl.x23, Dl.x24, Dl.x25, Dl.x26, Dl.x27, Dl.x28, Dl.x29, Dl.x30, Dl.x31, Dl.x32, Dl.x33, Dl.x34, Dl.x35, Dl.x36, Dl.x37, Dl.x38, Dl.x39, Dl.x40, Dl.x41, Dl.x42, Dl.x43, Dl.x44, Dl.x45, Dl.x46, Dl.x47, Dl.x48, Dl.x49, Dl.x50, Dl.x51, Dl.x52, Dl.x53, Dl.x54, Dl.x55, Dl.x56, Dl.x57, Dl.x58, Dl.x59, Dl.x60, Dl.x61, Dl.x62, Dl.x63, Dl.x64, Dl.x65, Dl.x66, Dl.x67, Dl.x68, Dl.x69, Dl.t_int_dict, Dl.t_str_dict, Dl.t_bool_dict, Dl.t_list_dict, Dl.t_tuple_dict, Dl.ln1, Dl.ln2, Dl.ln3, Dl.ln4, Dl.ln5, Dl.ln6, Dl.ln7, Dl.ln8, Dl.ln9, Dl.ln10, Dl.ln11, Dl.ln12, Dl.ln13, Dl.ln14, Dl.ln15, Dl.ln16, Dl.ln17, Dl.ln18, Dl.ln19, Dl.ln20, Dl.u1, Dl.u2, Dl.v1, Dl.v2, Dl.v3, Dl.v4, Dl.v5, Dl.v6, Dl.x72, Dl.x73, Dl.x74, Dl.x75, Dl.x76, Dl.x77, Dl.x78, Dl.t_int_none, Dl.t_int_bool, Dl.t_int_int, Dl.t_int_str, Dl.t_int_list, Dl.t_int_tuple, Dl.t_str_none, Dl.t_str_bool, Dl.t_str_int, Dl.t_str_str, Dl.t_str_list, Dl.t_str_tuple, Dl.t_bool_none, Dl.t_bool_bool, Dl.t_bool_int, Dl.t_bool_str, Dl.t_bool_list, Dl.t_bool_tuple, Dl.t_list_none, Dl.t_list_bool, Dl.t_list_int, Dl.t_list_str, Dl.t_list_list, Dl.t_list_tuple, Dl.t_tuple_none, Dl.t_tuple_bool, Dl.t_tuple_int, Dl.t_tuple_str, Dl.t_tuple_list, Dl.t_tuple_tuple, Dl.ch1, Dl.ch2, Dl.ch3, Dl.ch4, Dl.ch5, Dl.x80, Dl.x81, Dl.x82, Dl.x83, Dl.x84, Dl.x85, Dl.x86, Dl.x87, Dl.x88, Dl.x89, Dl.x90, Dl.x91, Dl.x92, Dl.x93, Dl.x94, Dl.x95, Dl.x96, Dl.x97, Dl.x98, Dl.x99, Dl.x100, Dl.x101, Dl.x102, Dl.x103, Dl.x104, Dl.x105, Dl.x106, Dl.x107, Dl.x108, Dl.x109, Dl.x110, Dl.y1, Dl.y2, Dl.y3, Dl.y4, Dl.y5, Dl.y6, Dl.y7, Dl.y8, Dl.y9, Dl.y10, Dl.y11, Dl.y12, Dl.y13, Dl.y15, Dl.y16, Dl.y22, Dl.y23,
  List.cons_append, List.nil_append, List.append_nil, List.map_cons, List.map_nil, if_true, if_false, Bool.not_true, Bool.not_false, Bool.or_false, Bool.or_self, Bool.false_eq_true, Option.map_some, List.set_cons_zero, List.set_cons_succ, List.length_cons, List.length_nil, reduceIte, decide_true, decide_false, reduceCtorEq, Dl.in_str, Bool.and_true]) hx
    by_cases h : (x.length : Int) ≤ 60
    · simp only [Dl.e_var, Dl.e_bin, Dl.e_tb, Dl.e_tru, Dl.e_and, Dl.e_or, Dl.e_not, Dl.e_if, Dl.s_if, Dl.e_andV, Dl.e_orV, Dl.e_notV, Dl.e_args, Dl.e_set, Dl.e_setA, Dl.e_rdA, Dl.e_tup, Dl.e_lst, Dl.e_prim, Dl.s_seq, Dl.s_set, Dl.putV_eq, Dl.s_put, Dl.s_aug, Dl.e_call, Dl.e_callR, Dl.refO_d, Dl.refO_c, Dl.e_callS, Dl.e_isi, Dl.e_cut, Dl.e_part, Dl.e_neg, Dl.e_rev, Dl.s_expr, Dl.s_ret, Dl.s_unp, Dl.s_par, Dl.s_for, Dl.e_mut, Dl.e_meth, Dl.at0, Dl.at1, Dl.at2, Dl.at3, Dl.at4, Dl.at5, Dl.at6, Dl.at7, Dl.eq_int, Dl.eq_str, Dl.ne_int, Dl.ne_str, Dl.x113, Dl.s_for, Dl.w1, Dl.w2, Dl.w3, Dl.w4, Dl.w5, Dl.w6, Dl.w7, Dl.w8, Dl.w9, Dl.w10, Dl.w11, Dl.w12, Dl.w13, Dl.w14, Dl.w15, Dl.w16, Dl.w17, Dl.w18, Dl.w19, Dl.w20, Dl.w21, Dl.w22, Dl.w23, Dl.w24, Dl.w25, Dl.w26, Dl.w27, Dl.w28, Dl.w29, Dl.w30, Dl.w31, Dl.w32, Dl.w33, Dl.w34, Dl.w35, Dl.w36, Dl.w37, Dl.w39, Dl.w40, Dl.lit0, Dl.tit0, Dl.lit1, Dl.tit1, Dl.lit2, Dl.tit2, Dl.lit3, Dl.tit3, Dl.lit4, Dl.tit4, Dl.lit5, Dl.tit5, Dl.lit6, Dl.tit6, Dl.lit7, Dl.tit7, Dl.lit8, Dl.tit8, Dl.lit9, Dl.tit9, Dl.lit10, Dl.tit10, Dl.lit11, Dl.tit11, Dl.lit12, Dl.tit12, Dl.lit13, Dl.tit13, Dl.lit14, Dl.tit14, Dl.lit15, Dl.tit15, Dl.lit16, Dl.tit16, Dl.lit17, Dl.tit17, Dl.lit18, Dl.tit18, Dl.lit19, Dl.tit19, Dl.lit20, Dl.tit20, Dl.z0, Dl.z1, Dl.z2, Dl.z3, Dl.z4, Dl.x1, Dl.x2, Dl.x3, Dl.x4, Dl.x5, Dl.x6, Dl.x7, Dl.x8, Dl.x9, Dl.x10, Dl.x11, Dl.x12, Dl.x13, Dl.x14, Dl.x15, Dl.x16, Dl.x17, Dl.x18, Dl.x19, Dl.x20, Dl.x21, Dl.x22, Dl.x23, Dl.x24, Dl.x25, Dl.x26, Dl.x27, Dl.x28, Dl.x29, Dl.x30, Dl.x31, Dl.x32, Dl.x33, Dl.x34, Dl.x35, Dl.x36, Dl.x37, Dl.x38, Dl.x39, Dl.x40, Dl.x41, Dl.x42, Dl.x43, Dl.x44, Dl.x45, Dl.x46, Dl.x47, Dl.x48, Dl.x49, Dl.x50, Dl.x51, Dl.x52, Dl.x53, Dl.x54, Dl.x55, Dl.x56, Dl.x57, Dl.x58, Dl.x59, Dl.x60, Dl.x61, Dl.x62, Dl.x63, Dl.x64, Dl.x65, Dl.x66, Dl.x67, Dl.x68, Dl.x69, Dl.t_int_dict, Dl.t_str_dict, Dl.t_bool_dict, Dl.t_list_dict, Dl.t_tuple_dict, Dl.ln1, Dl.ln2, Dl.ln3, Dl.ln4, Dl.ln5, Dl.ln6, Dl.ln7, Dl.ln8, Dl.ln9, Dl.ln10, Dl.ln11, Dl.ln12, Dl.ln13, Dl.ln14, Dl.ln15, Dl.ln16, Dl.ln17, Dl.ln18, Dl.ln19, Dl.ln20, Dl.u1, Dl.u2, Dl.v1, Dl.v2, Dl.v3, Dl.v4, Dl.v5, Dl.v6, Dl.x72, Dl.x73, Dl.x74, Dl.x75, Dl.x76, Dl.x77, Dl.x78, Dl.t_int_none, Dl.t_int_bool, Dl.t_int_int, Dl.t_int_str, Dl.t_int_list, Dl.t_int_tuple, Dl.t_str_none, Dl.t_str_bool, Dl.t_str_int, Dl.t_str_str, Dl.t_str_list, Dl.t_str_tuple, Dl.t_bool_none, Dl.t_bool_bool, Dl.t_bool_int, Dl.t_bool_str, Dl.t_bool_list, Dl.t_bool_tuple, Dl.t_list_none, Dl.t_list_bool, Dl.t_list_int, Dl.t_list_str, Dl.t_list_list, Dl.t_list_tuple, Dl.t_tuple_none, Dl.t_tuple_bool, Dl.t_tuple_int, Dl.t_tuple_str, Dl.t_tuple_list, Dl.t_tuple_tuple, Dl.ch1, Dl.ch2, Dl.ch3, Dl.ch4, Dl.ch5, Dl.x80, Dl.x81, Dl.x82, Dl.x83, Dl.x84, Dl.x85, Dl.x86, Dl.x87, Dl.x88, Dl.x89, Dl.x90, Dl.x91, Dl.x92, Dl.x93, Dl.x94, Dl.x95, Dl.x96, Dl.x97, Dl.x98, Dl.x99, Dl.x100, Dl.x101, Dl.x102, Dl.x103, Dl.x104, Dl.x105, Dl.x106, Dl.x107, Dl.x108, Dl.x109, Dl.x110, Dl.y1, Dl.y2, Dl.y3, Dl.y4, Dl.y5, Dl.y6, Dl.y7, Dl.y8, Dl.y9, Dl.y10, Dl.y11, Dl.y12, Dl.y13, Dl.y15, Dl.y16, Dl.y22, Dl.y23,
  List.cons_append, List.nil_append, List.append_nil, List.map_cons, List.map_nil, if_true, if_false, Bool.not_true, Bool.not_false, Bool.or_false, Bool.or_self, Bool.false_eq_true, Option.map_some, List.set_cons_zero, List.set_cons_succ, List.length_cons, List.length_nil, reduceIte, decide_true, decide_false, reduceCtorEq, Dl.y14 (le16 hx), c_WORD_MOST, h, hc, Bool.and_true, Dl.gAll_map, wordOk, Bool.true_and]
    · simp only [Dl.e_var, Dl.e_bin, Dl.e_tb, Dl.e_tru, Dl.e_and, Dl.e_or, Dl.e_not, Dl.e_if, Dl.s_if, Dl.e_andV, Dl.e_orV, Dl.e_notV, Dl.e_args, Dl.e_set, Dl.e_setA, Dl.e_rdA, Dl.e_tup, Dl.e_lst, Dl.e_prim, Dl.s_seq, Dl.s_set, Dl.putV_eq, Dl.s_put, Dl.s_aug, Dl.e_call, Dl.e_callR, Dl.refO_d, Dl.refO_c, Dl.e_callS, Dl.e_isi, Dl.e_cut, Dl.e_part, Dl.e_neg, Dl.e_rev, Dl.s_expr, Dl.s_ret, Dl.s_unp, Dl.s_par, Dl.s_for, Dl.e_mut, Dl.e_meth, Dl.at0, Dl.at1, Dl.at2, Dl.at3, Dl.at4, Dl.at5, Dl.at6, Dl.at7, Dl.eq_int, Dl.eq_str, Dl.ne_int, Dl.ne_str, Dl.x113, Dl.s_for, Dl.w1, Dl.w2, Dl.w3, Dl.w4, Dl.w5, Dl.w6, Dl.w7, Dl.w8, Dl.w9, Dl.w10, Dl.w11, Dl.w12, Dl.w13, Dl.w14, Dl.w15, Dl.w16, Dl.w17, Dl.w18, Dl.w19, Dl.w20, Dl.w21, Dl.w22, Dl.w23, Dl.w24, Dl.w25, Dl.w26, Dl.w27, Dl.w28, Dl.w29, Dl.w30, Dl.w31, Dl.w32, Dl.w33, Dl.w34, Dl.w35, Dl.w36, Dl.w37, Dl.w39, Dl.w40, Dl.lit0, Dl.tit0, Dl.lit1, Dl.tit1, Dl.lit2, Dl.tit2, Dl.lit3, Dl.tit3, Dl.lit4, Dl.tit4, Dl.lit5, Dl.tit5, Dl.lit6, Dl.tit6, Dl.lit7, Dl.tit7, Dl.lit8, Dl.tit8, Dl.lit9, Dl.tit9, Dl.lit10, Dl.tit10, Dl.lit11, Dl.tit11, Dl.lit12, Dl.tit12, Dl.lit13, Dl.tit13, Dl.lit14, Dl.tit14, Dl.lit15, Dl.tit15, Dl.lit16, Dl.tit16, Dl.lit17, Dl.tit17, Dl.lit18, Dl.tit18, Dl.lit19, Dl.tit19, Dl.lit20, Dl.tit20, Dl.z0, Dl.z1, Dl.z2, Dl.z3, Dl.z4, Dl.x1, Dl.x2, Dl.x3, Dl.x4, Dl.x5, Dl.x6, Dl.x7, Dl.x8, Dl.x9, Dl.x10, Dl.x11, Dl.x12, Dl.x13, Dl.x14, Dl.x15, Dl.x16, Dl.x17, Dl.x18, Dl.x19, Dl.x20, Dl.x21, Dl.x22, Dl.x23, Dl.x24, Dl.x25, Dl.x26, Dl.x27, Dl.x28, Dl.x29, Dl.x30, Dl.x31, Dl.x32, Dl.x33, Dl.x34, Dl.x35, Dl.x36, Dl.x37, Dl.x38, Dl.x39, Dl.x40, Dl.x41, Dl.x42, Dl.x43, Dl.x44, Dl.x45, Dl.x46, Dl.x47, Dl.x48, Dl.x49, Dl.x50, Dl.x51, Dl.x52, Dl.x53, Dl.x54, Dl.x55, Dl.x56, Dl.x57, Dl.x58, Dl.x59, Dl.x60, Dl.x61, Dl.x62, Dl.x63, Dl.x64, Dl.x65, Dl.x66, Dl.x67, Dl.x68, Dl.x69, Dl.t_int_dict, Dl.t_str_dict, Dl.t_bool_dict, Dl.t_list_dict, Dl.t_tuple_dict, Dl.ln1, Dl.ln2, Dl.ln3, Dl.ln4, Dl.ln5, Dl.ln6, Dl.ln7, Dl.ln8, Dl.ln9, Dl.ln10, Dl.ln11, Dl.ln12, Dl.ln13, Dl.ln14, Dl.ln15, Dl.ln16, Dl.ln17, Dl.ln18, Dl.ln19, Dl.ln20, Dl.u1, Dl.u2, Dl.v1, Dl.v2, Dl.v3, Dl.v4, Dl.v5, Dl.v6, Dl.x72, Dl.x73, Dl.x74, Dl.x75, Dl.x76, Dl.x77, Dl.x78, Dl.t_int_none, Dl.t_int_bool, Dl.t_int_int, Dl.t_int_str, Dl.t_int_list, Dl.t_int_tuple, Dl.t_str_none, Dl.t_str_bool, Dl.t_str_int, Dl.t_str_str, Dl.t_str_list, Dl.t_str_tuple, Dl.t_bool_none, Dl.t_bool_bool, Dl.t_bool_int, Dl.t_bool_str, Dl.t_bool_list, Dl.t_bool_tuple, Dl.t_list_none, Dl.t_list_bool, Dl.t_list_int, Dl.t_list_str, Dl.t_list_list, Dl.t_list_tuple, Dl.t_tuple_none, Dl.t_tuple_bool, Dl.t_tuple_int, Dl.t_tuple_str, Dl.t_tuple_list, Dl.t_tuple_tuple, Dl.ch1, Dl.ch2, Dl.ch3, Dl.ch4, Dl.ch5, Dl.x80, Dl.x81, Dl.x82, Dl.x83, Dl.x84, Dl.x85, Dl.x86, Dl.x87, Dl.x88, Dl.x89, Dl.x90, Dl.x91, Dl.x92, Dl.x93, Dl.x94, Dl.x95, Dl.x96, Dl.x97, Dl.x98, Dl.x99, Dl.x100, Dl.x101, Dl.x102, Dl.x103, Dl.x104, Dl.x105, Dl.x106, Dl.x107, Dl.x108, Dl.x109, Dl.x110, Dl.y1, Dl.y2, Dl.y3, Dl.y4, Dl.y5, Dl.y6, Dl.y7, Dl.y8, Dl.y9, Dl.y10, Dl.y11, Dl.y12, Dl.y13, Dl.y15, Dl.y16, Dl.y22, Dl.y23,
  List.cons_append, List.nil_append, List.append_nil, List.map_cons, List.map_nil, if_true, if_false, Bool.not_true, Bool.not_false, Bool.or_false, Bool.or_self, Bool.false_eq_true, Option.map_some, List.set_cons_zero, List.set_cons_succ, List.length_cons, List.length_nil, reduceIte, decide_true, decide_false, reduceCtorEq, Dl.y14 (le16 hx), c_WORD_MOST, h, wordOk, Bool.false_and]
  | _ => simp only [Dl.e_var, Dl.e_bin, Dl.e_tb, Dl.e_tru, Dl.e_and, Dl.e_or, Dl.e_not, Dl.e_if, Dl.s_if, Dl.e_andV, Dl.e_orV, Dl.e_notV, Dl.e_args, Dl.e_set, Dl.e_setA, Dl.e_rdA, Dl.e_tup, Dl.e_lst, Dl.e_prim, Dl.s_seq, Dl.s_set, Dl.putV_eq, Dl.s_put, Dl.s_aug, Dl.e_call, Dl.e_callR, Dl.refO_d, Dl.refO_c, Dl.e_callS, Dl.e_isi, Dl.e_cut, Dl.e_part, Dl.e_neg, Dl.e_rev, Dl.s_expr, Dl.s_ret, Dl.s_unp, Dl.s_par, Dl.s_for, Dl.e_mut, Dl.e_meth, Dl.at0, Dl.at1, Dl.at2, Dl.at3, Dl.at4, Dl.at5, Dl.at6, Dl.at7, Dl.eq_int, Dl.eq_str, Dl.ne_int, Dl.ne_str, Dl.x113, Dl.s_for, Dl.w1, Dl.w2, Dl.w3, Dl.w4, Dl.w5, Dl.w6, Dl.w7, Dl.w8, Dl.w9, Dl.w10, Dl.w11, Dl.w12, Dl.w13, Dl.w14, Dl.w15, Dl.w16, Dl.w17, Dl.w18, Dl.w19, Dl.w20, Dl.w21, Dl.w22, Dl.w23, Dl.w24, Dl.w25, Dl.w26, Dl.w27, Dl.w28, Dl.w29, Dl.w30, Dl.w31, Dl.w32, Dl.w33, Dl.w34, Dl.w35, Dl.w36, Dl.w37, Dl.w39, Dl.w40, Dl.lit0, Dl.tit0, Dl.lit1, Dl.tit1, Dl.lit2, Dl.tit2, Dl.lit3, Dl.tit3, Dl.lit4, Dl.tit4, Dl.lit5, Dl.tit5, Dl.lit6, Dl.tit6, Dl.lit7, Dl.tit7, Dl.lit8, Dl.tit8, Dl.lit9, Dl.tit9, Dl.lit10, Dl.tit10, Dl.lit11, Dl.tit11, Dl.lit12, Dl.tit12, Dl.lit13, Dl.tit13, Dl.lit14, Dl.tit14, Dl.lit15, Dl.tit15, Dl.lit16, Dl.tit16, Dl.lit17, Dl.tit17, Dl.lit18, Dl.tit18, Dl.lit19, Dl.tit19, Dl.lit20, Dl.tit20, Dl.z0, Dl.z1, Dl.z2, Dl.z3, Dl.z4, Dl.x1, Dl.x2, Dl.x3, Dl.x4, Dl.x5, Dl.x6, Dl.x7, Dl.x8, Dl.x9, Dl.x10, Dl.x11, Dl.x12, Dl.x13, Dl.x14, Dl.x15, Dl.x16, Dl.x17, Dl.x18, Dl.x19, Dl.x20, Dl.x21, Dl.x22, Dl.x23, Dl.x24, Dl.x25, Dl.x26, Dl.x27, Dl.x28, Dl.x29, Dl.x30, Dl.x31, Dl.x32, Dl.x33, Dl.x34, Dl.x35, Dl.x36, Dl.x37, Dl.x38, Dl.x39, Dl.x40, Dl.x41, Dl.x42, Dl.x43, Dl.x44, Dl.x45, Dl.x46, Dl.x47, Dl.x48, Dl.x49, Dl.x50, Dl.x51, Dl.x52, Dl.x53, Dl.x54, Dl.x55, Dl.x56, Dl.x57, Dl.x58, Dl.x59, Dl.x60, Dl.x61, Dl.x62, Dl.x63, Dl.x64, Dl.x65, Dl.x66, Dl.x67, Dl.x68, Dl.x69, Dl.t_int_dict, Dl.t_str_dict, Dl.t_bool_dict, Dl.t_list_dict, Dl.t_tuple_dict, Dl.ln1, Dl.ln2, Dl.ln3, Dl.ln4, Dl.ln5, Dl.ln6, Dl.ln7, Dl.ln8, Dl.ln9, Dl.ln10, Dl.ln11, Dl.ln12, Dl.ln13, Dl.ln14, Dl.ln15, Dl.ln16, Dl.ln17, Dl.ln18, Dl.ln19, Dl.ln20, Dl.u1, Dl.u2, Dl.v1, Dl.v2, Dl.v3, Dl.v4, Dl.v5, Dl.v6, Dl.x72, Dl.x73, Dl.x74, Dl.x75, Dl.x76, Dl.x77, Dl.x78, Dl.t_int_none, Dl.t_int_bool, Dl.t_int_int, Dl.t_int_str, Dl.t_int_list, Dl.t_int_tuple, Dl.t_str_none, Dl.t_str_bool, Dl.t_str_int, Dl.t_str_str, Dl.t_str_list, Dl.t_str_tuple, Dl.t_bool_none, Dl.t_bool_bool, Dl.t_bool_int, Dl.t_bool_str, Dl.t_bool_list, Dl.t_bool_tuple, Dl.t_list_none, Dl.t_list_bool, Dl.t_list_int, Dl.t_list_str, Dl.t_list_list, Dl.t_list_tuple, Dl.t_tuple_none, Dl.t_tuple_bool, Dl.t_tuple_int, Dl.t_tuple_str, Dl.t_tuple_list, Dl.t_tuple_tuple, Dl.ch1, Dl.ch2, Dl.ch3, Dl.ch4, Dl.ch5, Dl.x80, Dl.x81, Dl.x82, Dl.x83, Dl.x84, Dl.x85, Dl.x86, Dl.x87, Dl.x88, Dl.x89, Dl.x90, Dl.x91, Dl.x92, Dl.x93, Dl.x94, Dl.x95, Dl.x96, Dl.x97, Dl.x98, Dl.x99, Dl.x100, Dl.x101, Dl.x102, Dl.x103, Dl.x104, Dl.x105, Dl.x106, Dl.x107, Dl.x108, Dl.x109, Dl.x110, Dl.y1, Dl.y2, Dl.y3, Dl.y4, Dl.y5, Dl.y6, Dl.y7, Dl.y8, Dl.y9, Dl.y10, Dl.y11, Dl.y12, Dl.y13, Dl.y15, Dl.y16, Dl.y22, Dl.y23,
  List.cons_append, List.nil_append, List.append_nil, List.map_cons, List.map_nil, if_true, if_false, Bool.not_true, Bool.not_false, Bool.or_false, Bool.or_self, Bool.false_eq_true, Option.map_some, List.set_cons_zero, List.set_cons_succ, List.length_cons, List.length_nil, reduceIte, decide_true, decide_false, reduceCtorEq, wordOk]
end K01
end

-- text L4
section
set_option Elab.async false
set_option linter.all false
set_option maxRecDepth 100000
set_option maxHeartbeats 4000000
namespace K01
open PySem Dl
def lstOf : O → List Dat
  | .v (.dat (.list ds)) => ds
  | _ => []
def isLst : O → Bool
  | .v (.dat (.list _)) => true
  | _ => false
theorem lst_of (o : O) (h : isLst o = true) : o = .v (.dat (.list (lstOf o))) := by
  unfold isLst at h
  split at h
  · rfl
  · cases h
noncomputable def wsD (L : Str) (n : Nat) : List Dat := lstOf (out (m__law_words [.dat (.str L), .dat (.int n)]))
theorem wsD_ok {L : Str} {n : Nat} (h : isLst (out (m__law_words [.dat (.str L), .dat (.int n)])) = true) : out (m__law_words [.dat (.str L), .dat (.int n)]) = .v (.dat (.list (wsD L n))) := lst_of _ h
noncomputable def b_after : MS :=
    (seqS (sSet 2 (eBin Dl.gSub (ePrim gLen [(eVar 1)]) (eC (.int 1))))
    (seqS (whF 40 (andB (eTB (eBin gGe (eVar 2) (eC (.int 0)))) (eTB (eBin gEq (eBin gIx (eVar 1) (eVar 2)) (eBin gIx (eVar 0) (eNeg (eC (.int 1))))))) (sAug gISub 2 (eC (.int 1))))
    (seqS (sIf (eTB (eBin gLt (eVar 2) (eC (.int 0)))) (sRet (eBin gMul (eBin gIx (eVar 0) (eC (.int 0))) (eBin gAdd (ePrim gLen [(eVar 1)]) (eC (.int 1))))) sNil)
    (seqS (sSet 3 (eBin gIx (eVar 0) (eBin gAdd (eMeth "str" gSIndex (eVar 0) [(eBin gIx (eVar 1) (eVar 2))]) (eC (.int 1)))))
    (sRet (eBin gAdd (eBin gAdd (eCut (eVar 1) none (some (eVar 2))) (eVar 3)) (eBin gMul (eBin gIx (eVar 0) (eC (.int 0))) (eBin Dl.gSub (eBin Dl.gSub (ePrim gLen [(eVar 1)]) (eC (.int 1))) (eVar 2)))))))))
noncomputable def m_after : M Val := runF 2 b_after
theorem after_le {args : En} {o : O} (e : out (m_after args) = o) (ho : o ≠ .n) : out (m_word_after args) = o :=
  LeS.run (LeS.seq LeS.rfl (LeS.seq LeS.wh LeS.rfl)) e ho
noncomputable def chk (L : Str) : List Dat → List Dat → Bool
  | w :: ws, z :: zs => eqStr (out (m_after [.dat (.str L), .dat w])) z && chk L ws zs
  | [], _ => true
  | _, [] => false
noncomputable def good (L : Str) (n : Nat) : Bool := isLst (out (m__law_words [.dat (.str L), .dat (.int n)])) && (isLst (out (m__law_words [.dat (.str L), .dat (.int (n + 1 : Nat))])) && (niceB (.list (wsD L n)) && (chk L (wsD L n) (wsD L (n + 1)).tail && decide (0 < (wsD L n).length ∧ (wsD L n).length < 100000))))

theorem gd_ab_0 : good "ab" 0 = true := by kernel_rfl
theorem wt_ab_0 : out (m_words_to [.dat (.str "ab"), .dat (.int 0)]) = .v (.cel (.lst (wsD "ab" 0))) := by kernel_rfl
theorem gd_ab_1 : good "ab" 1 = true := by kernel_rfl
theorem wt_ab_1 : out (m_words_to [.dat (.str "ab"), .dat (.int 1)]) = .v (.cel (.lst (wsD "ab" 1))) := by kernel_rfl
theorem gd_ab_2 : good "ab" 2 = true := by kernel_rfl
theorem wt_ab_2 : out (m_words_to [.dat (.str "ab"), .dat (.int 2)]) = .v (.cel (.lst (wsD "ab" 2))) := by kernel_rfl
theorem gd_ab_3 : good "ab" 3 = true := by kernel_rfl
theorem wt_ab_3 : out (m_words_to [.dat (.str "ab"), .dat (.int 3)]) = .v (.cel (.lst (wsD "ab" 3))) := by kernel_rfl
theorem gd_ab_4 : good "ab" 4 = true := by kernel_rfl
theorem wt_ab_4 : out (m_words_to [.dat (.str "ab"), .dat (.int 4)]) = .v (.cel (.lst (wsD "ab" 4))) := by kernel_rfl
theorem gd_ab_5 : good "ab" 5 = true := by kernel_rfl
theorem wt_ab_5 : out (m_words_to [.dat (.str "ab"), .dat (.int 5)]) = .v (.cel (.lst (wsD "ab" 5))) := by kernel_rfl
theorem gd_a_0 : good "a" 0 = true := by kernel_rfl
theorem wt_a_0 : out (m_words_to [.dat (.str "a"), .dat (.int 0)]) = .v (.cel (.lst (wsD "a" 0))) := by kernel_rfl
theorem gd_a_1 : good "a" 1 = true := by kernel_rfl
theorem wt_a_1 : out (m_words_to [.dat (.str "a"), .dat (.int 1)]) = .v (.cel (.lst (wsD "a" 1))) := by kernel_rfl
theorem gd_a_2 : good "a" 2 = true := by kernel_rfl
theorem wt_a_2 : out (m_words_to [.dat (.str "a"), .dat (.int 2)]) = .v (.cel (.lst (wsD "a" 2))) := by kernel_rfl
theorem gd_a_3 : good "a" 3 = true := by kernel_rfl
theorem wt_a_3 : out (m_words_to [.dat (.str "a"), .dat (.int 3)]) = .v (.cel (.lst (wsD "a" 3))) := by kernel_rfl
theorem gd_a_4 : good "a" 4 = true := by kernel_rfl
theorem wt_a_4 : out (m_words_to [.dat (.str "a"), .dat (.int 4)]) = .v (.cel (.lst (wsD "a" 4))) := by kernel_rfl
theorem gd_a_5 : good "a" 5 = true := by kernel_rfl
theorem wt_a_5 : out (m_words_to [.dat (.str "a"), .dat (.int 5)]) = .v (.cel (.lst (wsD "a" 5))) := by kernel_rfl
theorem gd_a_6 : good "a" 6 = true := by kernel_rfl
theorem wt_a_6 : out (m_words_to [.dat (.str "a"), .dat (.int 6)]) = .v (.cel (.lst (wsD "a" 6))) := by kernel_rfl
theorem gd_a_7 : good "a" 7 = true := by kernel_rfl
theorem wt_a_7 : out (m_words_to [.dat (.str "a"), .dat (.int 7)]) = .v (.cel (.lst (wsD "a" 7))) := by kernel_rfl
theorem gd_abc_0 : good "abc" 0 = true := by kernel_rfl
theorem wt_abc_0 : out (m_words_to [.dat (.str "abc"), .dat (.int 0)]) = .v (.cel (.lst (wsD "abc" 0))) := by kernel_rfl
theorem gd_abc_1 : good "abc" 1 = true := by kernel_rfl
theorem wt_abc_1 : out (m_words_to [.dat (.str "abc"), .dat (.int 1)]) = .v (.cel (.lst (wsD "abc" 1))) := by kernel_rfl
theorem gd_abc_2 : good "abc" 2 = true := by kernel_rfl
theorem wt_abc_2 : out (m_words_to [.dat (.str "abc"), .dat (.int 2)]) = .v (.cel (.lst (wsD "abc" 2))) := by kernel_rfl
theorem gd_abc_3 : good "abc" 3 = true := by kernel_rfl
theorem wt_abc_3 : out (m_words_to [.dat (.str "abc"), .dat (.int 3)]) = .v (.cel (.lst (wsD "abc" 3))) := by kernel_rfl
theorem gd_abc_4 : good "abc" 4 = true := by kernel_rfl
theorem wt_abc_4 : out (m_words_to [.dat (.str "abc"), .dat (.int 4)]) = .v (.cel (.lst (wsD "abc" 4))) := by kernel_rfl
theorem gd_ac_0 : good "ac" 0 = true := by kernel_rfl
theorem wt_ac_0 : out (m_words_to [.dat (.str "ac"), .dat (.int 0)]) = .v (.cel (.lst (wsD "ac" 0))) := by kernel_rfl
theorem gd_ac_1 : good "ac" 1 = true := by kernel_rfl
theorem wt_ac_1 : out (m_words_to [.dat (.str "ac"), .dat (.int 1)]) = .v (.cel (.lst (wsD "ac" 1))) := by kernel_rfl
theorem gd_ac_2 : good "ac" 2 = true := by kernel_rfl
theorem wt_ac_2 : out (m_words_to [.dat (.str "ac"), .dat (.int 2)]) = .v (.cel (.lst (wsD "ac" 2))) := by kernel_rfl
theorem gd_ac_3 : good "ac" 3 = true := by kernel_rfl
theorem wt_ac_3 : out (m_words_to [.dat (.str "ac"), .dat (.int 3)]) = .v (.cel (.lst (wsD "ac" 3))) := by kernel_rfl
theorem gd_ac_4 : good "ac" 4 = true := by kernel_rfl
theorem wt_ac_4 : out (m_words_to [.dat (.str "ac"), .dat (.int 4)]) = .v (.cel (.lst (wsD "ac" 4))) := by kernel_rfl
theorem gd_ac_5 : good "ac" 5 = true := by kernel_rfl
theorem wt_ac_5 : out (m_words_to [.dat (.str "ac"), .dat (.int 5)]) = .v (.cel (.lst (wsD "ac" 5))) := by kernel_rfl
theorem gd_xz_0 : good "xz" 0 = true := by kernel_rfl
theorem wt_xz_0 : out (m_words_to [.dat (.str "xz"), .dat (.int 0)]) = .v (.cel (.lst (wsD "xz" 0))) := by kernel_rfl
theorem gd_xz_1 : good "xz" 1 = true := by kernel_rfl
theorem wt_xz_1 : out (m_words_to [.dat (.str "xz"), .dat (.int 1)]) = .v (.cel (.lst (wsD "xz" 1))) := by kernel_rfl
theorem gd_xz_2 : good "xz" 2 = true := by kernel_rfl
theorem wt_xz_2 : out (m_words_to [.dat (.str "xz"), .dat (.int 2)]) = .v (.cel (.lst (wsD "xz" 2))) := by kernel_rfl
theorem gd_xz_3 : good "xz" 3 = true := by kernel_rfl
theorem wt_xz_3 : out (m_words_to [.dat (.str "xz"), .dat (.int 3)]) = .v (.cel (.lst (wsD "xz" 3))) := by kernel_rfl
theorem gd_xz_4 : good "xz" 4 = true := by kernel_rfl
theorem wt_xz_4 : out (m_words_to [.dat (.str "xz"), .dat (.int 4)]) = .v (.cel (.lst (wsD "xz" 4))) := by kernel_rfl
theorem gd_xz_5 : good "xz" 5 = true := by kernel_rfl
theorem wt_xz_5 : out (m_words_to [.dat (.str "xz"), .dat (.int 5)]) = .v (.cel (.lst (wsD "xz" 5))) := by kernel_rfl
end K01
end

-- text L5
section
set_option Elab.async false
set_option linter.all false
set_option maxRecDepth 100000
set_option maxHeartbeats 4000000
namespace K01
open PySem Dl
/-! the ends -/
def c0 (L : Str) : Nat := L.cps.getD 0 0
def c1 (L : Str) : Nat := L.cps.getD 1 0
def cz (L : Str) : Nat := L.cps.getD (L.cps.size - 1) 0
noncomputable def chkE (L : Str) : Bool := (List.range 20).all fun k => eqStr (out (m_after [.dat (.str L), .dat (.str (repS (sg (cz L)) k))])) (.str (repS (sg (c0 L)) (k + 1 : Nat))) && (decide ((repS (sg (cz L)) k).length = k ∧ (repS (sg (c0 L)) (k + 1 : Nat)).length ≤ 1000) && niceB (.list [.str (repS (sg (c0 L)) (k + 1 : Nat)), .str (repS (sg (c0 L)) (k + 1 : Nat))]))
theorem ce_ab : chkE "ab" = true := by kernel_rfl
theorem ce_a : chkE "a" = true := by kernel_rfl
theorem ce_abc : chkE "abc" = true := by kernel_rfl
theorem ce_ac : chkE "ac" = true := by kernel_rfl
theorem ce_xz : chkE "xz" = true := by kernel_rfl
/-! the word behind a word and the first letter -/
theorem u_after (a b : Slot) : m_word_after [a, b] = endF (b_word_after [a, b, .un, .un]) := rfl
structure Two (L : Str) : Prop where
  i0 : gIx (.str L) (.int 0) = some (.dat (.str (sg (c0 L))))
  i1 : gIx (.str L) (.int 1) = some (.dat (.str (sg (c1 L))))
  iz : gIx (.str L) (.int (-1)) = some (.dat (.str (sg (cz L))))
  ne : ((sg (c0 L) : Str) == sg (cz L)) = false
  ind : gSIndex (.str L) [.str (sg (c0 L))] = some (.dat (.int 0))
  cut : gCut (.str L) (some 1) (some 2) = some (.dat (.str (sg (c1 L))))
theorem two_ab : Two "ab" := ⟨by kernel_rfl, by kernel_rfl, by kernel_rfl, by kernel_rfl, by kernel_rfl, by kernel_rfl⟩
theorem two_abc : Two "abc" := ⟨by kernel_rfl, by kernel_rfl, by kernel_rfl, by kernel_rfl, by kernel_rfl, by kernel_rfl⟩
theorem two_ac : Two "ac" := ⟨by kernel_rfl, by kernel_rfl, by kernel_rfl, by kernel_rfl, by kernel_rfl, by kernel_rfl⟩
theorem two_xz : Two "xz" := ⟨by kernel_rfl, by kernel_rfl, by kernel_rfl, by kernel_rfl, by kernel_rfl, by kernel_rfl⟩
theorem app_len (w : Str) (c : Nat) : (w ++ sg c).length = w.length + 1 := by
  show (w.cps ++ #[c]).size = _
  rw [Array.size_append]
  rfl
theorem app_ix (w : Str) (c : Nat) (h : w.length ≤ 900) : gIx (.str (w ++ sg c)) (.int (w.length : Int)) = some (.dat (.str (sg c))) := by
  rw [Dl.ixs (by rw [app_len]; omega), Dl.atI_nat]
  have e : (w ++ sg c).cps.toList = w.cps.toList ++ [c] := by
    show (w.cps ++ #[c]).toList = _
    simp
  rw [e, List.getElem?_append_right (by simp [Str.length])]
  simp [Str.length]
theorem rep0 (x : Str) : repS x 0 = Str.empty := rfl
theorem app_empty (x : Str) : x ++ Str.empty = x := by
  refine TL.ext_tl ?_
  rw [TL.tl_append]
  exact List.append_nil _
theorem after_two {L : Str} (T : Two L) (w : Str) (hw : w.length ≤ 12) : out (m_word_after [.dat (.str L), .dat (.str (w ++ sg (c0 L)))]) = .v (.dat (.str (w ++ sg (c1 L)))) := by
  have hl := app_len w (c0 L)
  have e1 : ((w.length + 1 : Nat) : Int) - 1 = (w.length : Int) := by omega
  have hlen : gLen [.str (w ++ sg (c0 L))] = some (.dat (.int ((w.length + 1 : Nat) : Int))) := by
    rw [Dl.y14 (le16 (by rw [hl]; omega)), hl]
  have hg : ((w.length : Int) ≥ 0) := by omega
  have hg2 : ¬ ((w.length : Int) < 0) := by omega
  have hix := app_ix w (c0 L) (by omega)
  have hcut : gCut (.str (w ++ sg (c0 L))) none (some (w.length : Int)) = some (.dat (.str w)) := by
    rw [Dl.cutS_gen (by rw [hl]; omega), Dl.cut_last rfl]
  have hw1 : gAdd (.str w) (.str (sg (c1 L))) = some (.dat (.str (w ++ sg (c1 L)))) := Dl.y17 (le16 (by have : (sg (c1 L)).length = 1 := rfl; omega))
  have hw2 : gAdd (.str (w ++ sg (c1 L))) (.str (repS (sg (c0 L)) 0)) = some (.dat (.str (w ++ sg (c1 L)))) := by
    have := Dl.y17 (x := w ++ sg (c1 L)) (y := repS (sg (c0 L)) 0) (le16 (by rw [app_len, rep0]; have : Str.empty.length = 0 := rfl; omega))
    rw [this, rep0, app_empty]
  have hz : (w.length : Int) - (w.length : Int) = 0 := by omega
  have hm : gMul (.str (sg (c0 L))) (.int 0) = some (.dat (.str (repS (sg (c0 L)) 0))) := mulS (show (1 : Nat) ≤ 1000 by decide) (by decide) (by decide)
  have hwh : sWhile (andB (eTB (eBin gGe (eVar 2) (eC (.int 0)))) (eTB (eBin gEq (eBin gIx (eVar 1) (eVar 2)) (eBin gIx (eVar 0) (eNeg (eC (.int 1))))))) (sAug gISub 2 (eC (.int 1))) [.dat (.str L), .dat (.str (w ++ sg (c0 L))), .dat (.int (w.length : Int)), .un] = .ok .nx [.dat (.str L), .dat (.str (w ++ sg (c0 L))), .dat (.int (w.length : Int)), .un] := by
    refine sWhile_eq (n := 1) ?_
    unfold whN
    simp only [Dl.e_var, Dl.e_bin, Dl.e_tb, Dl.e_tru, Dl.e_and, Dl.e_or, Dl.e_not, Dl.e_if, Dl.s_if, Dl.e_andV, Dl.e_orV, Dl.e_notV, Dl.e_args, Dl.e_set, Dl.e_setA, Dl.e_rdA, Dl.e_tup, Dl.e_lst, Dl.e_prim, Dl.s_seq, Dl.s_set, Dl.putV_eq, Dl.s_put, Dl.s_aug, Dl.e_call, Dl.e_callR, Dl.refO_d, Dl.refO_c, Dl.e_callS, Dl.e_isi, Dl.e_cut, Dl.e_part, Dl.e_neg, Dl.e_rev, Dl.s_expr, Dl.s_ret, Dl.s_unp, Dl.s_par, Dl.s_for, Dl.e_mut, Dl.e_meth, Dl.at0, Dl.at1, Dl.at2, Dl.at3, Dl.at4, Dl.at5, Dl.at6, Dl.at7, Dl.eq_int, Dl.eq_str, Dl.ne_int, Dl.ne_str, Dl.x113, Dl.s_for, Dl.w1, Dl.w2, Dl.w3, Dl.w4, Dl.w5, Dl.w6, Dl.w7, Dl.w8, Dl.w9, Dl.w10, Dl.w11, Dl.w12, Dl.w13, Dl.w14, Dl.w15, Dl.w16, Dl.w17, Dl.w18, Dl.w19, Dl.w20, Dl.w21, Dl.w22, Dl.w23, Dl.w24, Dl.w25, Dl.w26, Dl.w27, Dl.w28, Dl.w29, Dl.w30, Dl.w31, Dl.w32, Dl.w33, Dl.w34, Dl.w35, Dl.w36, Dl.w37, Dl.w39, Dl.w40, Dl.lit0, Dl.tit0, Dl.lit1, Dl.tit1, Dl.lit2, Dl.tit2, Dl.lit3, Dl.tit3, Dl.lit4, Dl.tit4, Dl.lit5, Dl.tit5, Dl.lit6, Dl.tit6, Dl.lit7, Dl.tit7, Dl.lit8, Dl.tit8, Dl.lit9, Dl.tit9, Dl.lit10, Dl.tit10, Dl.lit11, Dl.tit11, Dl.lit12, Dl.tit12, Dl.lit13, Dl.tit13, Dl.lit14, Dl.tit14, Dl.lit15, Dl.tit15, Dl.lit16, Dl.tit16, Dl.lit17, Dl.tit17, Dl.lit18, Dl.tit18, Dl.lit19, Dl.tit19, Dl.lit20, Dl.tit20, Dl.z0, Dl.z1, Dl.z2, Dl.z3, Dl.z4, Dl.x1, Dl.x2, Dl.x3, Dl.x4, Dl.x5, Dl.x6, Dl.x7, Dl.x8, Dl.x9, Dl.x10, Dl.x11, Dl.x12, Dl.x13, Dl.x14, Dl.x15, Dl.x16, Dl.x17, Dl.x18, Dl.x19, Dl.x20, Dl.x21, Dl.x22, Dl.x23, Dl.x24, Dl.x25, Dl.x26, Dl.x27, Dl.x28, Dl.x29, Dl.x30, Dl.x31, Dl.x32, Dl.x33, Dl.x34, Dl.x35, Dl.x36, Dl.x37, Dl.x38, Dl.x39, Dl.x40, Dl.x41, Dl.x42, Dl.x43, Dl.x44, Dl.x45, Dl.x46, Dl.x47, Dl.x48, Dl.x49, Dl.x50, Dl.x51, Dl.x52, Dl.x53, Dl.x54, Dl.x55, Dl.x56, Dl.x57, Dl.x58, Dl.x59, Dl.x60, Dl.x61, Dl.x62, Dl.x63, Dl.x64, Dl.x65, Dl.x66, Dl.x67, Dl.x68, Dl.x69, Dl.t_int_dict, Dl.t_str_dict, Dl.t_bool_dict, Dl.t_list_dict, Dl.t_tuple_dict, Dl.ln1, Dl.ln2, Dl.ln3, Dl.ln4, Dl.ln5, Dl.ln6, Dl.ln7, Dl.ln8, Dl.ln9, Dl.ln10, Dl.ln11, Dl.ln12, Dl.ln13, Dl.ln14, Dl.ln15, Dl.ln16, Dl.ln17, Dl.ln18, Dl.ln19, Dl.ln20, Dl.u1, Dl.u2, Dl.v1, Dl.v2, Dl.v3, Dl.v4, Dl.v5, Dl.v6, Dl.x72, Dl.x73, Dl.x74, Dl.x75, Dl.x76, Dl.x77, Dl.x78, Dl.t_int_none, Dl.t_int_bool, Dl.t_int_int, Dl.t_int_str, Dl.t_int_list, Dl.t_int_tuple, Dl.t_str_none, Dl.t_str_bool, Dl.t_str_int, Dl.t_str_str, Dl.t_str_list, Dl.t_str_tuple, Dl.t_bool_none, Dl.t_bool_bool, Dl.t_bool_int, Dl.t_bool_str, Dl.t_bool_list, Dl.t_bool_tuple, Dl.t_list_none, Dl.t_list_bool, Dl.t_list_int, Dl.t_list_str, Dl.t_list_list, Dl.t_list_tuple, Dl.t_tuple_none, Dl.t_tuple_bool, Dl.t_tuple_int, Dl.t_tuple_str, Dl.t_tuple_list, Dl.t_tuple_tuple, Dl.ch1, Dl.ch2, Dl.ch3, Dl.ch4, Dl.ch5, Dl.x80, Dl.x81, Dl.x82, Dl.x83, Dl.x84, Dl.x85, Dl.x86, Dl.x87, Dl.x88, Dl.x89, Dl.x90, Dl.x91, Dl.x92, Dl.x93, Dl.x94, Dl.x95, Dl.x96, Dl.x97, Dl.x98, Dl.x99, Dl.x100, Dl.x101, Dl.x102, Dl.x103, Dl.x104, Dl.x105, Dl.x106, Dl.x107, Dl.x108, Dl.x109, Dl.x110, Dl.y1, Dl.y2, Dl.y3, Dl.y4, Dl.y5, Dl.y6, Dl.y7, Dl.y8, Dl.y9, Dl.y10, Dl.y11, Dl.y12, Dl.y13, Dl.y15, Dl.y16, Dl.y22, Dl.y23,
  List.cons_append, List.nil_append, List.append_nil, List.map_cons, List.map_nil, if_true, if_false, Bool.not_true, Bool.not_false, Bool.or_false, Bool.or_self, Bool.false_eq_true, Option.map_some, List.set_cons_zero, List.set_cons_succ, List.length_cons, List.length_nil, reduceIte, decide_true, decide_false, reduceCtorEq, hg, hix, T.iz, T.ne]
  rw [u_after]
  unfold b_word_after
  simp only [Dl.e_var, Dl.e_bin, Dl.e_tb, Dl.e_tru, Dl.e_and, Dl.e_or, Dl.e_not, Dl.e_if, Dl.s_if, Dl.e_andV, Dl.e_orV, Dl.e_notV, Dl.e_args, Dl.e_set, Dl.e_setA, Dl.e_rdA, Dl.e_tup, Dl.e_lst, Dl.e_prim, Dl.s_seq, Dl.s_set, Dl.putV_eq, Dl.s_put, Dl.s_aug, Dl.e_call, Dl.e_callR, Dl.refO_d, Dl.refO_c, Dl.e_callS, Dl.e_isi, Dl.e_cut, Dl.e_part, Dl.e_neg, Dl.e_rev, Dl.s_expr, Dl.s_ret, Dl.s_unp, Dl.s_par, Dl.s_for, Dl.e_mut, Dl.e_meth, Dl.at0, Dl.at1, Dl.at2, Dl.at3, Dl.at4, Dl.at5, Dl.at6, Dl.at7, Dl.eq_int, Dl.eq_str, Dl.ne_int, Dl.ne_str, Dl.x113, Dl.s_for, Dl.w1, Dl.w2, Dl.w3, Dl.w4, Dl.w5, Dl.w6, Dl.w7, Dl.w8, Dl.w9, Dl.w10, Dl.w11, Dl.w12, Dl.w13, Dl.w14, Dl.w15, Dl.w16, Dl.w17, Dl.w18, Dl.w19, Dl.w20, Dl.w21, Dl.w22, Dl.w23, Dl.w24, Dl.w25, Dl.w26, Dl.w27, Dl.w28, Dl.w29, Dl.w30, Dl.w31, Dl.w32, Dl.w33, Dl.w34, Dl.w35, Dl.w36, Dl.w37, Dl.w39, Dl.w40, Dl.lit0, Dl.tit0, Dl.lit1, Dl.tit1, Dl.lit2, Dl.tit2, Dl.lit3, Dl.tit3, Dl.lit4, Dl.tit4, Dl.lit5, Dl.tit5, Dl.lit6, Dl.tit6, Dl.lit7, Dl.tit7, Dl.lit8, Dl.tit8, Dl.lit9, Dl.tit9, Dl.lit10, Dl.tit10, Dl.lit11, Dl.tit11, Dl.lit12, Dl.tit12, Dl.lit13, Dl.tit13, Dl.lit14, Dl.tit14, Dl.lit15, Dl.tit15, Dl.lit16, Dl.tit16, Dl.lit17, Dl.tit17, Dl.lit18, Dl.tit18, Dl.lit19, Dl.tit19, Dl.lit20, Dl.tit20, Dl.z0, Dl.z1, Dl.z2, Dl.z3, Dl.z4, Dl.x1, Dl.x2, Dl.x3, Dl.x4, Dl.x5, Dl.x6, Dl.x7, Dl.x8, Dl.x9, Dl.x10, Dl.x11, Dl.x12, Dl.x13, Dl.x14, Dl.x15, Dl.x16, Dl.x17, Dl.x18, Dl.x19, Dl.x20, Dl.x21, Dl.x22, Dl.x23, Dl.x24, Dl.x25, Dl.x26, Dl.x27, Dl.x28, Dl.x29, Dl.x30, Dl.x31, Dl.x32, Dl.x33, Dl.x34, Dl.x35, Dl.x36, Dl.x37, Dl.x38, Dl.x39, Dl.x40, Dl.x41, Dl.x42, Dl.x43, Dl.x44, Dl.x45, Dl.x46, Dl.x47, Dl.x48, Dl.x49, Dl.x50, Dl.x51, Dl.x52, Dl.x53, Dl.x54, Dl.x55, Dl.x56, Dl.x57, Dl.x58, Dl.x59, Dl.x60, Dl.x61, Dl.x62, Dl.x63, Dl.x64, Dl.x65, Dl.x66, Dl.x67, Dl.x68, Dl.x69, Dl.t_int_dict, Dl.t_str_dict, Dl.t_bool_dict, Dl.t_list_dict, Dl.t_tuple_dict, Dl.ln1, Dl.ln2, Dl.ln3, Dl.ln4, Dl.ln5, Dl.ln6, Dl.ln7, Dl.ln8, Dl.ln9, Dl.ln10, Dl.ln11, Dl.ln12, Dl.ln13, Dl.ln14, Dl.ln15, Dl.ln16, Dl.ln17, Dl.ln18, Dl.ln19, Dl.ln20, Dl.u1, Dl.u2, Dl.v1, Dl.v2, Dl.v3, Dl.v4, Dl.v5, Dl.v6, Dl.x72, Dl.x73, Dl.x74, Dl.x75, Dl.x76, Dl.x77, Dl.x78, Dl.t_int_none, Dl.t_int_bool, Dl.t_int_int, Dl.t_int_str, Dl.t_int_list, Dl.t_int_tuple, Dl.t_str_none, Dl.t_str_bool, Dl.t_str_int, Dl.t_str_str, Dl.t_str_list, Dl.t_str_tuple, Dl.t_bool_none, Dl.t_bool_bool, Dl.t_bool_int, Dl.t_bool_str, Dl.t_bool_list, Dl.t_bool_tuple, Dl.t_list_none, Dl.t_list_bool, Dl.t_list_int, Dl.t_list_str, Dl.t_list_list, Dl.t_list_tuple, Dl.t_tuple_none, Dl.t_tuple_bool, Dl.t_tuple_int, Dl.t_tuple_str, Dl.t_tuple_list, Dl.t_tuple_tuple, Dl.ch1, Dl.ch2, Dl.ch3, Dl.ch4, Dl.ch5, Dl.x80, Dl.x81, Dl.x82, Dl.x83, Dl.x84, Dl.x85, Dl.x86, Dl.x87, Dl.x88, Dl.x89, Dl.x90, Dl.x91, Dl.x92, Dl.x93, Dl.x94, Dl.x95, Dl.x96, Dl.x97, Dl.x98, Dl.x99, Dl.x100, Dl.x101, Dl.x102, Dl.x103, Dl.x104, Dl.x105, Dl.x106, Dl.x107, Dl.x108, Dl.x109, Dl.x110, Dl.y1, Dl.y2, Dl.y3, Dl.y4, Dl.y5, Dl.y6, Dl.y7, Dl.y8, Dl.y9, Dl.y10, Dl.y11, Dl.y12, Dl.y13, Dl.y15, Dl.y16, Dl.y22, Dl.y23,
  List.cons_append, List.nil_append, List.append_nil, List.map_cons, List.map_nil, if_true, if_false, Bool.not_true, Bool.not_false, Bool.or_false, Bool.or_self, Bool.false_eq_true, Option.map_some, List.set_cons_zero, List.set_cons_succ, List.length_cons, List.length_nil, reduceIte, decide_true, decide_false, reduceCtorEq, hlen, e1, hwh, hg2, hix, T.ind, T.i0, T.i1, Int.zero_add, hcut, hw1, hz, hm, hw2]
/-! the one letter -/
noncomputable def chkA : Bool := (List.range 13).all fun k => eqStr (out (m_after [.dat (.str "a"), .dat (.str (⟨(List.replicate k 97).toArray⟩ ++ sg 97))])) (.str (⟨(List.replicate k 97).toArray⟩ ++ repS (sg 97) 2))
theorem ca : chkA = true := by kernel_rfl
end K01
end

-- text L6
section
set_option Elab.async false
set_option linter.all false
set_option maxRecDepth 100000
set_option maxHeartbeats 4000000
namespace K01
open PySem Dl
theorem chk_at {L : Str} : ∀ {ws zs : List Dat} {i : Nat} {d : Dat}, chk L ws zs = true → ws[i]? = some d → ∃ a, zs[i]? = some (.str a) ∧ out (m_word_after [.dat (.str L), .dat d]) = .v (.dat (.str a))
  | [], _, _, _, _, h => by simp at h
  | w :: ws, [], _, _, h, _ => by unfold chk at h; cases h
  | w :: ws, z :: zs, i, d, h, hd => by
    unfold chk at h
    rw [Bool.and_eq_true] at h
    cases i with
    | zero =>
      simp at hd
      subst hd
      obtain ⟨a, rfl, e⟩ := eqStr_ok h.1
      exact ⟨a, by simp, after_le e (fun z => nomatch z)⟩
    | succ i =>
      obtain ⟨a, e1, e2⟩ := chk_at (i := i) h.2 (by simpa using hd)
      exact ⟨a, by simpa using e1, e2⟩
structure Lf (L : Str) : Prop where
  l0 : 0 < L.length
  l1 : L.length ≤ 3
  i0 : gIx (.str L) (.int 0) = some (.dat (.str (sg (c0 L))))
  iz : gIx (.str L) (.int (-1)) = some (.dat (.str (sg (cz L))))
  ch : ∀ c ∈ L.cps.toList, c < 16 ^ 8
  most : ∃ m : Nat, L2.atI [PyData.int 8, .int 8, .int 6, .int 5] (L.length : Int) = some (.int m) ∧ 0 < m ∧ m ≤ 8 ∧ ∀ n < m, good L n = true ∧ out (m_words_to [.dat (.str L), .dat (.int n)]) = .v (.cel (.lst (wsD L n)))
  ce : chkE L = true
  last : ∃ cu dd : Str, gCut (.str L) (some 1) (some 2) = some (.dat (.str cu)) ∧ L2.atI [PyData.str (repS (sg (c0 L)) 2), .str cu] (if decide ((L.length : Int) > 1) = true then 1 else 0) = some (.str dd) ∧ dd.length ≤ 2 ∧ (∀ c ∈ dd.cps.toList, c < 16 ^ 8) ∧
    ∀ w : Str, (∀ c ∈ w.cps.toList, c ∈ L.cps.toList) → w.length ≤ 12 → out (m_word_after [.dat (.str L), .dat (.str (w ++ sg (c0 L)))]) = .v (.dat (.str (w ++ dd)))
theorem lf_two {L : Str} (T : Two L) (h : (L.length : Int) > 1) (l1 : L.length ≤ 3) (ch : ∀ c ∈ L.cps.toList, c < 16 ^ 8) (most : ∃ m : Nat, L2.atI [PyData.int 8, .int 8, .int 6, .int 5] (L.length : Int) = some (.int m) ∧ 0 < m ∧ m ≤ 8 ∧ ∀ n < m, good L n = true ∧ out (m_words_to [.dat (.str L), .dat (.int n)]) = .v (.cel (.lst (wsD L n)))) (ce : chkE L = true) (hc : c1 L < 16 ^ 8) : Lf L :=
  ⟨by omega, l1, T.i0, T.iz, ch, most, ce, sg (c1 L), sg (c1 L), T.cut, by rw [if_pos (decide_eq_true h)]; exact Dl.at1, by show 1 ≤ 2; decide, fun c hm => by
    have e : c = c1 L := by simpa [sg] using hm
    rw [e]; exact hc, fun w _ hw => after_two T w hw⟩
theorem lt6 {P : Nat → Prop} (h0 : P 0) (h1 : P 1) (h2 : P 2) (h3 : P 3) (h4 : P 4) (h5 : P 5) : ∀ n < 6, P n := fun n h => by
  match n, h with
  | 0, _ => exact h0
  | 1, _ => exact h1
  | 2, _ => exact h2
  | 3, _ => exact h3
  | 4, _ => exact h4
  | 5, _ => exact h5
theorem lf_ab : Lf "ab" := lf_two two_ab (by decide +kernel) (by decide +kernel) (by decide +kernel) ⟨6, by kernel_rfl, by decide, by decide, lt6 ⟨gd_ab_0, wt_ab_0⟩ ⟨gd_ab_1, wt_ab_1⟩ ⟨gd_ab_2, wt_ab_2⟩ ⟨gd_ab_3, wt_ab_3⟩ ⟨gd_ab_4, wt_ab_4⟩ ⟨gd_ab_5, wt_ab_5⟩⟩ ce_ab (by decide +kernel)
theorem lf_ac : Lf "ac" := lf_two two_ac (by decide +kernel) (by decide +kernel) (by decide +kernel) ⟨6, by kernel_rfl, by decide, by decide, lt6 ⟨gd_ac_0, wt_ac_0⟩ ⟨gd_ac_1, wt_ac_1⟩ ⟨gd_ac_2, wt_ac_2⟩ ⟨gd_ac_3, wt_ac_3⟩ ⟨gd_ac_4, wt_ac_4⟩ ⟨gd_ac_5, wt_ac_5⟩⟩ ce_ac (by decide +kernel)
theorem lf_xz : Lf "xz" := lf_two two_xz (by decide +kernel) (by decide +kernel) (by decide +kernel) ⟨6, by kernel_rfl, by decide, by decide, lt6 ⟨gd_xz_0, wt_xz_0⟩ ⟨gd_xz_1, wt_xz_1⟩ ⟨gd_xz_2, wt_xz_2⟩ ⟨gd_xz_3, wt_xz_3⟩ ⟨gd_xz_4, wt_xz_4⟩ ⟨gd_xz_5, wt_xz_5⟩⟩ ce_xz (by decide +kernel)
theorem lf_abc : Lf "abc" := lf_two two_abc (by decide +kernel) (by decide +kernel) (by decide +kernel) ⟨5, by kernel_rfl, by decide, by decide, fun n h => by
  match n, h with
  | 0, _ => exact ⟨gd_abc_0, wt_abc_0⟩
  | 1, _ => exact ⟨gd_abc_1, wt_abc_1⟩
  | 2, _ => exact ⟨gd_abc_2, wt_abc_2⟩
  | 3, _ => exact ⟨gd_abc_3, wt_abc_3⟩
  | 4, _ => exact ⟨gd_abc_4, wt_abc_4⟩⟩ ce_abc (by decide +kernel)
theorem all_a {w : Str} (h : ∀ c ∈ w.cps.toList, c ∈ ("a" : Str).cps.toList) : w = ⟨(List.replicate w.length 97).toArray⟩ := by
  refine TL.ext_tl ?_
  show w.cps.toList = (List.replicate w.cps.size 97).toArray.toList
  rw [show (List.replicate w.cps.size 97).toArray.toList = List.replicate w.cps.size 97 from rfl]
  rw [List.eq_replicate_iff]
  refine ⟨by simp, fun c hc => ?_⟩
  have := h c hc
  have e : ("a" : Str).cps.toList = [97] := by decide +kernel
  rw [e] at this
  simpa using this
theorem lf_a : Lf "a" := ⟨by decide +kernel, by decide +kernel, by kernel_rfl, by kernel_rfl, by decide +kernel, ⟨8, by kernel_rfl, by decide, by decide, fun n h => by
  match n, h with
  | 0, _ => exact ⟨gd_a_0, wt_a_0⟩
  | 1, _ => exact ⟨gd_a_1, wt_a_1⟩
  | 2, _ => exact ⟨gd_a_2, wt_a_2⟩
  | 3, _ => exact ⟨gd_a_3, wt_a_3⟩
  | 4, _ => exact ⟨gd_a_4, wt_a_4⟩
  | 5, _ => exact ⟨gd_a_5, wt_a_5⟩
  | 6, _ => exact ⟨gd_a_6, wt_a_6⟩
  | 7, _ => exact ⟨gd_a_7, wt_a_7⟩⟩, ce_a, ⟨"", repS (sg 97) 2, by kernel_rfl, by kernel_rfl, by decide +kernel, by decide +kernel, fun w hw hl => by
    have e := ca
    unfold chkA at e
    rw [List.all_eq_true] at e
    obtain ⟨a, e1, e2⟩ := eqStr_ok (e w.length (List.mem_range.mpr (by omega)))
    cases e1
    rw [← all_a hw] at e2
    exact after_le e2 (fun z => nomatch z)⟩⟩
theorem lf_of {L : Str} (h : L ∈ L5) : Lf L := by
  simp only [L5, List.mem_cons, List.not_mem_nil, or_false] at h
  rcases h with rfl | rfl | rfl | rfl | rfl
  · exact lf_ab
  · exact lf_a
  · exact lf_abc
  · exact lf_ac
  · exact lf_xz
end K01
end

-- text L7
section
set_option Elab.async false
set_option linter.all false
set_option maxRecDepth 100000
set_option maxHeartbeats 8000000
namespace K01
open PySem Dl
theorem u_law (a : Slot) : m_law [a] = endF (b_law [a, .un, .un, .un, .un, .un, .un, .un, .un, .un, .un, .un, .un, .un, .un, .un, .un, .un, .un, .un]) := rfl
def isS : Dat → Bool
  | .str _ => true
  | _ => false
theorem good_ok (L : Str) (it : Dat) (h : smallStr it) (a0 a1 a3 a5 a6 a7 a8 a9 b0 b1 b2 b3 b4 b5 b6 b7 b8 : Slot) :
    eAnd (eIsi "str" (eVar 4)) (eAnd (eBin gLt (ePrim gLen [(eVar 4)]) (eC (.int 61))) (ePrim gAll [(eLc (iVal (eVar 4)) (.nm 19) tYesB (eBin gIn (eVar 19) (eVar 2)) [19])])) [a0, a1, .dat (.str L), a3, .dat it, a5, a6, a7, a8, a9, b0, b1, b2, b3, b4, b5, b6, b7, b8, .un]
    = .ok (.dat (.bool (wordOk L it))) [a0, a1, .dat (.str L), a3, .dat it, a5, a6, a7, a8, a9, b0, b1, b2, b3, b4, b5, b6, b7, b8, .un] := by
  cases it with
  | str x =>
    have hx : x.length ≤ 1000 := h
    have hc := lc_chars (f := lcT (.nm 19) tYesB (eBin gIn (eVar 19) (eVar 2)) [19]) (g := fun c => PyData.bool (inStr (sg c) L)) (x := x) (ρ := [a0, a1, .dat (.str L), a3, .dat (.str x), a5, a6, a7, a8, a9, b0, b1, b2, b3, b4, b5, b6, b7, b8, .un]) (fun c => by
      simp only [Dl.e_var, Dl.e_bin, Dl.e_tb, Dl.e_tru, Dl.e_and, Dl.e_or, Dl.e_not, Dl.e_if, Dl.s_if, Dl.e_andV, Dl.e_orV, Dl.e_notV, Dl.e_args, Dl.e_set, Dl.e_setA, Dl.e_rdA, Dl.e_tup, Dl.e_lst, Dl.e_prim, Dl.s_seq, Dl.s_set, Dl.putV_eq, Dl.s_put, Dl.s_aug, Dl.e_call, Dl.e_callR, Dl.refO_d, Dl.refO_c, Dl.e_callS, Dl.e_isi, Dl.e_cut, Dl.e_part, Dl.e_neg, Dl.e_rev, Dl.s_expr, Dl.s_ret, Dl.s_unp, Dl.s_par, Dl.s_for, Dl.e_mut, Dl.e_meth, Dl.at0, Dl.at1, Dl.at2, Dl.at3, Dl.at4, Dl.at5, Dl.at6, Dl.at7, Dl.eq_int, Dl.eq_str, Dl.ne_int, Dl.ne_str, Dl.x113, Dl.s_for, Dl.w1, Dl.w2, Dl.w3, Dl.w4, Dl.w5, Dl.w6, Dl.w7, Dl.w8, Dl.w9, Dl.w10, Dl.w11, Dl.w12, Dl.w13, Dl.w14, Dl.w15, Dl.w16, Dl.w17, Dl.w18, Dl.w19, Dl.w20, Dl.w21, Dl.w22, Dl.w23, Dl.w24, Dl.w25, Dl.w26, Dl.w27, Dl.w28, Dl.w29, Dl.w30, Dl.w31, Dl.w32, Dl.w33, Dl.w34, Dl.w35, Dl.w36, Dl.w37, Dl.w39, Dl.w40, Dl.lit0, Dl.tit0, Dl.lit1, Dl.tit1, Dl.lit2, Dl.tit2, Dl.lit3, Dl.tit3, Dl.lit4, Dl.tit4, Dl.lit5, Dl.tit5, Dl.lit6, Dl.tit6, Dl.lit7, Dl.tit7, Dl.lit8, Dl.tit8, Dl.lit9, Dl.tit9, Dl.lit10, Dl.tit10, Dl.lit11, Dl.tit11, Dl.lit12, Dl.tit12, Dl.lit13, Dl.tit13, Dl.lit14, Dl.tit14, Dl.lit15, Dl.tit15, Dl.lit16, Dl.tit16, Dl.lit17, Dl.tit17, Dl.lit18, Dl.tit18, Dl.lit19, Dl.tit19, Dl.lit20, Dl.tit20, Dl.z0, Dl.z1, Dl.z2, Dl.z3, Dl.z4, Dl.x1, Dl.x2, Dl.x3, Dl.x4, Dl.x5, Dl.x6, Dl.x7, Dl.x8, Dl.x9, Dl.x10, Dl.x11, Dl.x12, Dl.x13, Dl.x14, Dl.x15, Dl.x16, Dl.x17, Dl.x18, Dl.x19, Dl.x20, Dl.x21, Dl.x22, Dl.x23, Dl.x24, Dl.x25, Dl.x26, Dl.x27, Dl.x28, Dl.x29, Dl.x30, Dl.x31, Dl.x32, Dl.x33, Dl.x34, Dl.x35, Dl.x36, Dl.x37, Dl.x38, Dl.x39, Dl.x40, Dl.x41, Dl.x42, Dl.x43, Dl.x44, Dl.x45, Dl.x46, Dl.x47, Dl.x48, Dl.x49, Dl.x50, Dl.x51, Dl.x52, Dl.x53, Dl.x54, Dl.x55, Dl.x56, Dl.x57, Dl.x58, Dl.x59, Dl.x60, Dl.x61, Dl.x62, Dl.x63, Dl.x64, Dl.x65, Dl.x66, Dl.x67, Dl.x68, Dl.x69, Dl.t_int_dict, Dl.t_str_dict, Dl.t_bool_dict, Dl.t_list_dict, Dl.t_tuple_dict, Dl.ln1, Dl.ln2, Dl.ln3, Dl.ln4, Dl.ln5, Dl.ln6, Dl.ln7, Dl.ln8, Dl.ln9, Dl.ln10, Dl.ln11, Dl.ln12, Dl.ln13, Dl.ln14, Dl.ln15, Dl.ln16, Dl.ln17, Dl.ln18, Dl.ln19, Dl.ln20, Dl.u1, Dl.u2, Dl.v1, Dl.v2, Dl.v3, Dl.v4, Dl.v5, Dl.v6, Dl.x72, Dl.x73, Dl.x74, Dl.x75, Dl.x76, Dl.x77, Dl.x78, Dl.t_int_none, Dl.t_int_bool, Dl.t_int_int, Dl.t_int_str, Dl.t_int_list, Dl.t_int_tuple, Dl.t_str_none, Dl.t_str_bool, Dl.t_str_int, Dl.t_str_str, Dl.t_str_list, Dl.t_str_tuple, Dl.t_bool_none, Dl.t_bool_bool, Dl.t_bool_int, Dl.t_bool_str, Dl.t_bool_list, Dl.t_bool_tuple, Dl.t_list_none, Dl.t_list_bool, Dl.t_list_int, Dl.t_list_str, Dl.t_list_list, Dl.t_list_tuple, Dl.t_tuple_none, Dl.t_tuple_bool, Dl.t_tuple_int, Dl.t_tuple_str, Dl.t_tuple_list, Dl.t_tuple_tuple, Dl.ch1, Dl.ch2, Dl.ch3, Dl.ch4, Dl.ch5, Dl.x80, Dl.x81, Dl.x82, Dl.x83, Dl.x84, Dl.x85, Dl.x86, Dl.x87, Dl.x88, Dl.x89, Dl.x90, Dl.x91, Dl.x92, Dl.x93, Dl.x94, Dl.x95, Dl.x96, Dl.x97, Dl.x98, Dl.x99, Dl.x100, Dl.x101, Dl.x102, Dl.x103, Dl.x104, Dl.x105, Dl.x106, Dl.x107, Dl.x108, Dl.x109, Dl.x110, Dl.y1, Dl.y2, Dl.y3, Dl.y4, Dl.y5, Dl.y6, Dl.y7, Dl.y8, Dl.y9, Dl.y10, Dl.y11, Dl.y12, Dl.y13, Dl.y15, Dl.y16, Dl.y22, Dl.y23,
  List.cons_append, List.nil_append, List.append_nil, List.map_cons, List.map_nil, if_true, if_false, Bool.not_true, Bool.not_false, Bool.or_false, Bool.or_self, Bool.false_eq_true, Option.map_some, List.set_cons_zero, List.set_cons_succ, List.length_cons, List.length_nil, reduceIte, decide_true, decide_false, reduceCtorEq, Dl.in_str, Bool.and_true]) hx
    by_cases q : (x.length : Int) < 61
    · have q2 : (x.length : Int) ≤ 60 := by omega
      simp only [Dl.e_var, Dl.e_bin, Dl.e_tb, Dl.e_tru, Dl.e_and, Dl.e_or, Dl.e_not, Dl.e_if, Dl.s_if, Dl.e_andV, Dl.e_orV, Dl.e_notV, Dl.e_args, Dl.e_set, Dl.e_setA, Dl.e_rdA, Dl.e_tup, Dl.e_lst, Dl.e_prim, Dl.s_seq, Dl.s_set, Dl.putV_eq, Dl.s_put, Dl.s_aug, Dl.e_call, Dl.e_callR, Dl.refO_d, Dl.refO_c, Dl.e_callS, Dl.e_isi, Dl.e_cut, Dl.e_part, Dl.e_neg, Dl.e_rev, Dl.s_expr, Dl.s_ret, Dl.s_unp, Dl.s_par, Dl.s_for, Dl.e_mut, Dl.e_meth, Dl.at0, Dl.at1, Dl.at2, Dl.at3, Dl.at4, Dl.at5, Dl.at6, Dl.at7, Dl.eq_int, Dl.eq_str, Dl.ne_int, Dl.ne_str, Dl.x113, Dl.s_for, Dl.w1, Dl.w2, Dl.w3, Dl.w4, Dl.w5, Dl.w6, Dl.w7, Dl.w8, Dl.w9, Dl.w10, Dl.w11, Dl.w12, Dl.w13, Dl.w14, Dl.w15, Dl.w16, Dl.w17, Dl.w18, Dl.w19, Dl.w20, Dl.w21, Dl.w22, Dl.w23, Dl.w24, Dl.w25, Dl.w26, Dl.w27, Dl.w28, Dl.w29, Dl.w30, Dl.w31, Dl.w32, Dl.w33, Dl.w34, Dl.w35, Dl.w36, Dl.w37, Dl.w39, Dl.w40, Dl.lit0, Dl.tit0, Dl.lit1, Dl.tit1, Dl.lit2, Dl.tit2, Dl.lit3, Dl.tit3, Dl.lit4, Dl.tit4, Dl.lit5, Dl.tit5, Dl.lit6, Dl.tit6, Dl.lit7, Dl.tit7, Dl.lit8, Dl.tit8, Dl.lit9, Dl.tit9, Dl.lit10, Dl.tit10, Dl.lit11, Dl.tit11, Dl.lit12, Dl.tit12, Dl.lit13, Dl.tit13, Dl.lit14, Dl.tit14, Dl.lit15, Dl.tit15, Dl.lit16, Dl.tit16, Dl.lit17, Dl.tit17, Dl.lit18, Dl.tit18, Dl.lit19, Dl.tit19, Dl.lit20, Dl.tit20, Dl.z0, Dl.z1, Dl.z2, Dl.z3, Dl.z4, Dl.x1, Dl.x2, Dl.x3, Dl.x4, Dl.x5, Dl.x6, Dl.x7, Dl.x8, Dl.x9, Dl.x10, Dl.x11, Dl.x12, Dl.x13, Dl.x14, Dl.x15, Dl.x16, Dl.x17, Dl.x18, Dl.x19, Dl.x20, Dl.x21, Dl.x22, Dl.x23, Dl.x24, Dl.x25, Dl.x26, Dl.x27, Dl.x28, Dl.x29, Dl.x30, Dl.x31, Dl.x32, Dl.x33, Dl.x34, Dl.x35, Dl.x36, Dl.x37, Dl.x38, Dl.x39, Dl.x40, Dl.x41, Dl.x42, Dl.x43, Dl.x44, Dl.x45, Dl.x46, Dl.x47, Dl.x48, Dl.x49, Dl.x50, Dl.x51, Dl.x52, Dl.x53, Dl.x54, Dl.x55, Dl.x56, Dl.x57, Dl.x58, Dl.x59, Dl.x60, Dl.x61, Dl.x62, Dl.x63, Dl.x64, Dl.x65, Dl.x66, Dl.x67, Dl.x68, Dl.x69, Dl.t_int_dict, Dl.t_str_dict, Dl.t_bool_dict, Dl.t_list_dict, Dl.t_tuple_dict, Dl.ln1, Dl.ln2, Dl.ln3, Dl.ln4, Dl.ln5, Dl.ln6, Dl.ln7, Dl.ln8, Dl.ln9, Dl.ln10, Dl.ln11, Dl.ln12, Dl.ln13, Dl.ln14, Dl.ln15, Dl.ln16, Dl.ln17, Dl.ln18, Dl.ln19, Dl.ln20, Dl.u1, Dl.u2, Dl.v1, Dl.v2, Dl.v3, Dl.v4, Dl.v5, Dl.v6, Dl.x72, Dl.x73, Dl.x74, Dl.x75, Dl.x76, Dl.x77, Dl.x78, Dl.t_int_none, Dl.t_int_bool, Dl.t_int_int, Dl.t_int_str, Dl.t_int_list, Dl.t_int_tuple, Dl.t_str_none, Dl.t_str_bool, Dl.t_str_int, Dl.t_str_str, Dl.t_str_list, Dl.t_str_tuple, Dl.t_bool_none, Dl.t_bool_bool, Dl.t_bool_int, Dl.t_bool_str, Dl.t_bool_list, Dl.t_bool_tuple, Dl.t_list_none, Dl.t_list_bool, Dl.t_list_int, Dl.t_list_str, Dl.t_list_list, Dl.t_list_tuple, Dl.t_tuple_none, Dl.t_tuple_bool, Dl.t_tuple_int, Dl.t_tuple_str, Dl.t_tuple_list, Dl.t_tuple_tuple, Dl.ch1, Dl.ch2, Dl.ch3, Dl.ch4, Dl.ch5, Dl.x80, Dl.x81, Dl.x82, Dl.x83, Dl.x84, Dl.x85, Dl.x86, Dl.x87, Dl.x88, Dl.x89, Dl.x90, Dl.x91, Dl.x92, Dl.x93, Dl.x94, Dl.x95, Dl.x96, Dl.x97, Dl.x98, Dl.x99, Dl.x100, Dl.x101, Dl.x102, Dl.x103, Dl.x104, Dl.x105, Dl.x106, Dl.x107, Dl.x108, Dl.x109, Dl.x110, Dl.y1, Dl.y2, Dl.y3, Dl.y4, Dl.y5, Dl.y6, Dl.y7, Dl.y8, Dl.y9, Dl.y10, Dl.y11, Dl.y12, Dl.y13, Dl.y15, Dl.y16, Dl.y22, Dl.y23,
  List.cons_append, List.nil_append, List.append_nil, List.map_cons, List.map_nil, if_true, if_false, Bool.not_true, Bool.not_false, Bool.or_false, Bool.or_self, Bool.false_eq_true, Option.map_some, List.set_cons_zero, List.set_cons_succ, List.length_cons, List.length_nil, reduceIte, decide_true, decide_false, reduceCtorEq, Dl.y14 (le16 hx), q, q2, hc, Bool.and_true, Dl.gAll_map, wordOk, Bool.true_and]
    · have q2 : ¬ (x.length : Int) ≤ 60 := by omega
      simp only [Dl.e_var, Dl.e_bin, Dl.e_tb, Dl.e_tru, Dl.e_and, Dl.e_or, Dl.e_not, Dl.e_if, Dl.s_if, Dl.e_andV, Dl.e_orV, Dl.e_notV, Dl.e_args, Dl.e_set, Dl.e_setA, Dl.e_rdA, Dl.e_tup, Dl.e_lst, Dl.e_prim, Dl.s_seq, Dl.s_set, Dl.putV_eq, Dl.s_put, Dl.s_aug, Dl.e_call, Dl.e_callR, Dl.refO_d, Dl.refO_c, Dl.e_callS, Dl.e_isi, Dl.e_cut, Dl.e_part, Dl.e_neg, Dl.e_rev, Dl.s_expr, Dl.s_ret, Dl.s_unp, Dl.s_par, Dl.s_for, Dl.e_mut, Dl.e_meth, Dl.at0, Dl.at1, Dl.at2, Dl.at3, Dl.at4, Dl.at5, Dl.at6, Dl.at7, Dl.eq_int, Dl.eq_str, Dl.ne_int, Dl.ne_str, Dl.x113, Dl.s_for, Dl.w1, Dl.w2, Dl.w3, Dl.w4, Dl.w5, Dl.w6, Dl.w7, Dl.w8, Dl.w9, Dl.w10, Dl.w11, Dl.w12, Dl.w13, Dl.w14, Dl.w15, Dl.w16, Dl.w17, Dl.w18, Dl.w19, Dl.w20, Dl.w21, Dl.w22, Dl.w23, Dl.w24, Dl.w25, Dl.w26, Dl.w27, Dl.w28, Dl.w29, Dl.w30, Dl.w31, Dl.w32, Dl.w33, Dl.w34, Dl.w35, Dl.w36, Dl.w37, Dl.w39, Dl.w40, Dl.lit0, Dl.tit0, Dl.lit1, Dl.tit1, Dl.lit2, Dl.tit2, Dl.lit3, Dl.tit3, Dl.lit4, Dl.tit4, Dl.lit5, Dl.tit5, Dl.lit6, Dl.tit6, Dl.lit7, Dl.tit7, Dl.lit8, Dl.tit8, Dl.lit9, Dl.tit9, Dl.lit10, Dl.tit10, Dl.lit11, Dl.tit11, Dl.lit12, Dl.tit12, Dl.lit13, Dl.tit13, Dl.lit14, Dl.tit14, Dl.lit15, Dl.tit15, Dl.lit16, Dl.tit16, Dl.lit17, Dl.tit17, Dl.lit18, Dl.tit18, Dl.lit19, Dl.tit19, Dl.lit20, Dl.tit20, Dl.z0, Dl.z1, Dl.z2, Dl.z3, Dl.z4, Dl.x1, Dl.x2, Dl.x3, Dl.x4, Dl.x5, Dl.x6, Dl.x7, Dl.x8, Dl.x9, Dl.x10, Dl.x11, Dl.x12, Dl.x13, Dl.x14, Dl.x15, Dl.x16, Dl.x17, Dl.x18, Dl.x19, Dl.x20, Dl.x21, Dl.x22, Dl.x23, Dl.x24, Dl.x25, Dl.x26, Dl.x27, Dl.x28, Dl.x29, Dl.x30, Dl.x31, Dl.x32, Dl.x33, Dl.x34, Dl.x35, Dl.x36, Dl.x37, Dl.x38, Dl.x39, Dl.x40, Dl.x41, Dl.x42, Dl.x43, Dl.x44, Dl.x45, Dl.x46, Dl.x47, Dl.x48, Dl.x49, Dl.x50, Dl.x51, Dl.x52, Dl.x53, Dl.x54, Dl.x55, Dl.x56, Dl.x57, Dl.x58, Dl.x59, Dl.x60, Dl.x61, Dl.x62, Dl.x63, Dl.x64, Dl.x65, Dl.x66, Dl.x67, Dl.x68, Dl.x69, Dl.t_int_dict, Dl.t_str_dict, Dl.t_bool_dict, Dl.t_list_dict, Dl.t_tuple_dict, Dl.ln1, Dl.ln2, Dl.ln3, Dl.ln4, Dl.ln5, Dl.ln6, Dl.ln7, Dl.ln8, Dl.ln9, Dl.ln10, Dl.ln11, Dl.ln12, Dl.ln13, Dl.ln14, Dl.ln15, Dl.ln16, Dl.ln17, Dl.ln18, Dl.ln19, Dl.ln20, Dl.u1, Dl.u2, Dl.v1, Dl.v2, Dl.v3, Dl.v4, Dl.v5, Dl.v6, Dl.x72, Dl.x73, Dl.x74, Dl.x75, Dl.x76, Dl.x77, Dl.x78, Dl.t_int_none, Dl.t_int_bool, Dl.t_int_int, Dl.t_int_str, Dl.t_int_list, Dl.t_int_tuple, Dl.t_str_none, Dl.t_str_bool, Dl.t_str_int, Dl.t_str_str, Dl.t_str_list, Dl.t_str_tuple, Dl.t_bool_none, Dl.t_bool_bool, Dl.t_bool_int, Dl.t_bool_str, Dl.t_bool_list, Dl.t_bool_tuple, Dl.t_list_none, Dl.t_list_bool, Dl.t_list_int, Dl.t_list_str, Dl.t_list_list, Dl.t_list_tuple, Dl.t_tuple_none, Dl.t_tuple_bool, Dl.t_tuple_int, Dl.t_tuple_str, Dl.t_tuple_list, Dl.t_tuple_tuple, Dl.ch1, Dl.ch2, Dl.ch3, Dl.ch4, Dl.ch5, Dl.x80, Dl.x81, Dl.x82, Dl.x83, Dl.x84, Dl.x85, Dl.x86, Dl.x87, Dl.x88, Dl.x89, Dl.x90, Dl.x91, Dl.x92, Dl.x93, Dl.x94, Dl.x95, Dl.x96, Dl.x97, Dl.x98, Dl.x99, Dl.x100, Dl.x101, Dl.x102, Dl.x103, Dl.x104, Dl.x105, Dl.x106, Dl.x107, Dl.x108, Dl.x109, Dl.x110, Dl.y1, Dl.y2, Dl.y3, Dl.y4, Dl.y5, Dl.y6, Dl.y7, Dl.y8, Dl.y9, Dl.y10, Dl.y11, Dl.y12, Dl.y13, Dl.y15, Dl.y16, Dl.y22, Dl.y23,
  List.cons_append, List.nil_append, List.append_nil, List.map_cons, List.map_nil, if_true, if_false, Bool.not_true, Bool.not_false, Bool.or_false, Bool.or_self, Bool.false_eq_true, Option.map_some, List.set_cons_zero, List.set_cons_succ, List.length_cons, List.length_nil, reduceIte, decide_true, decide_false, reduceCtorEq, Dl.y14 (le16 hx), q, q2, wordOk, Bool.false_and]
  | _ => simp only [Dl.e_var, Dl.e_bin, Dl.e_tb, Dl.e_tru, Dl.e_and, Dl.e_or, Dl.e_not, Dl.e_if, Dl.s_if, Dl.e_andV, Dl.e_orV, Dl.e_notV, Dl.e_args, Dl.e_set, Dl.e_setA, Dl.e_rdA, Dl.e_tup, Dl.e_lst, Dl.e_prim, Dl.s_seq, Dl.s_set, Dl.putV_eq, Dl.s_put, Dl.s_aug, Dl.e_call, Dl.e_callR, Dl.refO_d, Dl.refO_c, Dl.e_callS, Dl.e_isi, Dl.e_cut, Dl.e_part, Dl.e_neg, Dl.e_rev, Dl.s_expr, Dl.s_ret, Dl.s_unp, Dl.s_par, Dl.s_for, Dl.e_mut, Dl.e_meth, Dl.at0, Dl.at1, Dl.at2, Dl.at3, Dl.at4, Dl.at5, Dl.at6, Dl.at7, Dl.eq_int, Dl.eq_str, Dl.ne_int, Dl.ne_str, Dl.x113, Dl.s_for, Dl.w1, Dl.w2, Dl.w3, Dl.w4, Dl.w5, Dl.w6, Dl.w7, Dl.w8, Dl.w9, Dl.w10, Dl.w11, Dl.w12, Dl.w13, Dl.w14, Dl.w15, Dl.w16, Dl.w17, Dl.w18, Dl.w19, Dl.w20, Dl.w21, Dl.w22, Dl.w23, Dl.w24, Dl.w25, Dl.w26, Dl.w27, Dl.w28, Dl.w29, Dl.w30, Dl.w31, Dl.w32, Dl.w33, Dl.w34, Dl.w35, Dl.w36, Dl.w37, Dl.w39, Dl.w40, Dl.lit0, Dl.tit0, Dl.lit1, Dl.tit1, Dl.lit2, Dl.tit2, Dl.lit3, Dl.tit3, Dl.lit4, Dl.tit4, Dl.lit5, Dl.tit5, Dl.lit6, Dl.tit6, Dl.lit7, Dl.tit7, Dl.lit8, Dl.tit8, Dl.lit9, Dl.tit9, Dl.lit10, Dl.tit10, Dl.lit11, Dl.tit11, Dl.lit12, Dl.tit12, Dl.lit13, Dl.tit13, Dl.lit14, Dl.tit14, Dl.lit15, Dl.tit15, Dl.lit16, Dl.tit16, Dl.lit17, Dl.tit17, Dl.lit18, Dl.tit18, Dl.lit19, Dl.tit19, Dl.lit20, Dl.tit20, Dl.z0, Dl.z1, Dl.z2, Dl.z3, Dl.z4, Dl.x1, Dl.x2, Dl.x3, Dl.x4, Dl.x5, Dl.x6, Dl.x7, Dl.x8, Dl.x9, Dl.x10, Dl.x11, Dl.x12, Dl.x13, Dl.x14, Dl.x15, Dl.x16, Dl.x17, Dl.x18, Dl.x19, Dl.x20, Dl.x21, Dl.x22, Dl.x23, Dl.x24, Dl.x25, Dl.x26, Dl.x27, Dl.x28, Dl.x29, Dl.x30, Dl.x31, Dl.x32, Dl.x33, Dl.x34, Dl.x35, Dl.x36, Dl.x37, Dl.x38, Dl.x39, Dl.x40, Dl.x41, Dl.x42, Dl.x43, Dl.x44, Dl.x45, Dl.x46, Dl.x47, Dl.x48, Dl.x49, Dl.x50, Dl.x51, Dl.x52, Dl.x53, Dl.x54, Dl.x55, Dl.x56, Dl.x57, Dl.x58, Dl.x59, Dl.x60, Dl.x61, Dl.x62, Dl.x63, Dl.x64, Dl.x65, Dl.x66, Dl.x67, Dl.x68, Dl.x69, Dl.t_int_dict, Dl.t_str_dict, Dl.t_bool_dict, Dl.t_list_dict, Dl.t_tuple_dict, Dl.ln1, Dl.ln2, Dl.ln3, Dl.ln4, Dl.ln5, Dl.ln6, Dl.ln7, Dl.ln8, Dl.ln9, Dl.ln10, Dl.ln11, Dl.ln12, Dl.ln13, Dl.ln14, Dl.ln15, Dl.ln16, Dl.ln17, Dl.ln18, Dl.ln19, Dl.ln20, Dl.u1, Dl.u2, Dl.v1, Dl.v2, Dl.v3, Dl.v4, Dl.v5, Dl.v6, Dl.x72, Dl.x73, Dl.x74, Dl.x75, Dl.x76, Dl.x77, Dl.x78, Dl.t_int_none, Dl.t_int_bool, Dl.t_int_int, Dl.t_int_str, Dl.t_int_list, Dl.t_int_tuple, Dl.t_str_none, Dl.t_str_bool, Dl.t_str_int, Dl.t_str_str, Dl.t_str_list, Dl.t_str_tuple, Dl.t_bool_none, Dl.t_bool_bool, Dl.t_bool_int, Dl.t_bool_str, Dl.t_bool_list, Dl.t_bool_tuple, Dl.t_list_none, Dl.t_list_bool, Dl.t_list_int, Dl.t_list_str, Dl.t_list_list, Dl.t_list_tuple, Dl.t_tuple_none, Dl.t_tuple_bool, Dl.t_tuple_int, Dl.t_tuple_str, Dl.t_tuple_list, Dl.t_tuple_tuple, Dl.ch1, Dl.ch2, Dl.ch3, Dl.ch4, Dl.ch5, Dl.x80, Dl.x81, Dl.x82, Dl.x83, Dl.x84, Dl.x85, Dl.x86, Dl.x87, Dl.x88, Dl.x89, Dl.x90, Dl.x91, Dl.x92, Dl.x93, Dl.x94, Dl.x95, Dl.x96, Dl.x97, Dl.x98, Dl.x99, Dl.x100, Dl.x101, Dl.x102, Dl.x103, Dl.x104, Dl.x105, Dl.x106, Dl.x107, Dl.x108, Dl.x109, Dl.x110, Dl.y1, Dl.y2, Dl.y3, Dl.y4, Dl.y5, Dl.y6, Dl.y7, Dl.y8, Dl.y9, Dl.y10, Dl.y11, Dl.y12, Dl.y13, Dl.y15, Dl.y16, Dl.y22, Dl.y23,
  List.cons_append, List.nil_append, List.append_nil, List.map_cons, List.map_nil, if_true, if_false, Bool.not_true, Bool.not_false, Bool.or_false, Bool.or_self, Bool.false_eq_true, Option.map_some, List.set_cons_zero, List.set_cons_succ, List.length_cons, List.length_nil, reduceIte, decide_true, decide_false, reduceCtorEq, wordOk]
theorem st20 {L : Str} {w x y d d2 : Str} {k : Int} (h1 : out (m_word_after [.dat (.str L), .dat (.str x)]) = .v (.dat (.str d)))
    (i0 : gIx (.str L) (.int 0) = some (.dat (.str (sg (c0 L)))))
    (h2 : gAdd (.str w) (.str (sg (c0 L))) = some (.dat (.str y))) (h3 : out (m_word_after [.dat (.str L), .dat (.str y)]) = .v (.dat (.str d2)))
    (h4 : gLen [.str x] = some (.dat (.int k))) (h5 : gMul (.str (sg (c0 L))) (.int (k + 1)) = some (.dat (.str d)))
    (h6 : out (m__law_is [.dat (.list [.str d, .str d2]), .dat (.list [.str d, .str d2])]) = .v (.dat (.bool true)))
    (a0 a1 a3 a4 a5 a6 a7 a8 a9 b1 b2 b3 b4 b5 b6 : Slot) :
    out (endF (b_law_20 [a0, a1, .dat (.str L), a3, a4, a5, a6, a7, a8, a9, .dat (.str w), b1, b2, b3, b4, b5, b6, .dat (.str x), .dat (.str d2), .un])) = .v (.dat (.bool true)) := by
  unfold b_law_20
  simp only [Dl.e_var, Dl.e_bin, Dl.e_tb, Dl.e_tru, Dl.e_and, Dl.e_or, Dl.e_not, Dl.e_if, Dl.s_if, Dl.e_andV, Dl.e_orV, Dl.e_notV, Dl.e_args, Dl.e_set, Dl.e_setA, Dl.e_rdA, Dl.e_tup, Dl.e_lst, Dl.e_prim, Dl.s_seq, Dl.s_set, Dl.putV_eq, Dl.s_put, Dl.s_aug, Dl.e_call, Dl.e_callR, Dl.refO_d, Dl.refO_c, Dl.e_callS, Dl.e_isi, Dl.e_cut, Dl.e_part, Dl.e_neg, Dl.e_rev, Dl.s_expr, Dl.s_ret, Dl.s_unp, Dl.s_par, Dl.s_for, Dl.e_mut, Dl.e_meth, Dl.at0, Dl.at1, Dl.at2, Dl.at3, Dl.at4, Dl.at5, Dl.at6, Dl.at7, Dl.eq_int, Dl.eq_str, Dl.ne_int, Dl.ne_str, Dl.x113, Dl.s_for, Dl.w1, Dl.w2, Dl.w3, Dl.w4, Dl.w5, Dl.w6, Dl.w7, Dl.w8, Dl.w9, Dl.w10, Dl.w11, Dl.w12, Dl.w13, Dl.w14, Dl.w15, Dl.w16, Dl.w17, Dl.w18, Dl.w19, Dl.w20, Dl.w21, Dl.w22, Dl.w23, Dl.w24, Dl.w25, Dl.w26, Dl.w27, Dl.w28, Dl.w29, Dl.w30, Dl.w31, Dl.w32, Dl.w33, Dl.w34, Dl.w35, Dl.w36, Dl.w37, Dl.w39, Dl.w40, Dl.lit0, Dl.tit0, Dl.lit1, Dl.tit1, Dl.lit2, Dl.tit2, Dl.lit3, Dl.tit3, Dl.lit4, Dl.tit4, Dl.lit5, Dl.tit5, Dl.lit6, Dl.tit6, Dl.lit7, Dl.tit7, Dl.lit8, Dl.tit8, Dl.lit9, Dl.tit9, Dl.lit10, Dl.tit10, Dl.lit11, Dl.tit11, Dl.lit12, Dl.tit12, Dl.lit13, Dl.tit13, Dl.lit14, Dl.tit14, Dl.lit15, Dl.tit15, Dl.lit16, Dl.tit16, Dl.lit17, Dl.tit17, Dl.lit18, Dl.tit18, Dl.lit19, Dl.tit19, Dl.lit20, Dl.tit20, Dl.z0, Dl.z1, Dl.z2, Dl.z3, Dl.z4, Dl.x1, Dl.x2, Dl.x3, Dl.x4, Dl.x5, Dl.x6, Dl.x7, Dl.x8, Dl.x9, Dl.x10, Dl.x11, Dl.x12, Dl.x13, Dl.x14, Dl.x15, Dl.x16, Dl.x17, Dl.x18, Dl.x19, Dl.x20, Dl.x21, Dl.x22, Dl.x23, Dl.x24, Dl.x25, Dl.x26, Dl.x27, Dl.x28, Dl.x29, Dl.x30, Dl.x31, Dl.x32, Dl.x33, Dl.x34, Dl.x35, Dl.x36, Dl.x37, Dl.x38, Dl.x39, Dl.x40, Dl.x41, Dl.x42, Dl.x43, Dl.x44, Dl.x45, Dl.x46, Dl.x47, Dl.x48, Dl.x49, Dl.x50, Dl.x51, Dl.x52, Dl.x53, Dl.x54, Dl.x55, Dl.x56, Dl.x57, Dl.x58, Dl.x59, Dl.x60, Dl.x61, Dl.x62, Dl.x63, Dl.x64, Dl.x65, Dl.x66, Dl.x67, Dl.x68, Dl.x69, Dl.t_int_dict, Dl.t_str_dict, Dl.t_bool_dict, Dl.t_list_dict, Dl.t_tuple_dict, Dl.ln1, Dl.ln2, Dl.ln3, Dl.ln4, Dl.ln5, Dl.ln6, Dl.ln7, Dl.ln8, Dl.ln9, Dl.ln10, Dl.ln11, Dl.ln12, Dl.ln13, Dl.ln14, Dl.ln15, Dl.ln16, Dl.ln17, Dl.ln18, Dl.ln19, Dl.ln20, Dl.u1, Dl.u2, Dl.v1, Dl.v2, Dl.v3, Dl.v4, Dl.v5, Dl.v6, Dl.x72, Dl.x73, Dl.x74, Dl.x75, Dl.x76, Dl.x77, Dl.x78, Dl.t_int_none, Dl.t_int_bool, Dl.t_int_int, Dl.t_int_str, Dl.t_int_list, Dl.t_int_tuple, Dl.t_str_none, Dl.t_str_bool, Dl.t_str_int, Dl.t_str_str, Dl.t_str_list, Dl.t_str_tuple, Dl.t_bool_none, Dl.t_bool_bool, Dl.t_bool_int, Dl.t_bool_str, Dl.t_bool_list, Dl.t_bool_tuple, Dl.t_list_none, Dl.t_list_bool, Dl.t_list_int, Dl.t_list_str, Dl.t_list_list, Dl.t_list_tuple, Dl.t_tuple_none, Dl.t_tuple_bool, Dl.t_tuple_int, Dl.t_tuple_str, Dl.t_tuple_list, Dl.t_tuple_tuple, Dl.ch1, Dl.ch2, Dl.ch3, Dl.ch4, Dl.ch5, Dl.x80, Dl.x81, Dl.x82, Dl.x83, Dl.x84, Dl.x85, Dl.x86, Dl.x87, Dl.x88, Dl.x89, Dl.x90, Dl.x91, Dl.x92, Dl.x93, Dl.x94, Dl.x95, Dl.x96, Dl.x97, Dl.x98, Dl.x99, Dl.x100, Dl.x101, Dl.x102, Dl.x103, Dl.x104, Dl.x105, Dl.x106, Dl.x107, Dl.x108, Dl.x109, Dl.x110, Dl.y1, Dl.y2, Dl.y3, Dl.y4, Dl.y5, Dl.y6, Dl.y7, Dl.y8, Dl.y9, Dl.y10, Dl.y11, Dl.y12, Dl.y13, Dl.y15, Dl.y16, Dl.y22, Dl.y23,
  List.cons_append, List.nil_append, List.append_nil, List.map_cons, List.map_nil, if_true, if_false, Bool.not_true, Bool.not_false, Bool.or_false, Bool.or_self, Bool.false_eq_true, Option.map_some, List.set_cons_zero, List.set_cons_succ, List.length_cons, List.length_nil, reduceIte, decide_true, decide_false, reduceCtorEq, h1, i0, h2, h3, h4, h5, h6]
theorem st19 {L : Str} {w cu dd : Str} {b : Dat} (hcu : gCut (.str L) (some 1) (some 2) = some (.dat (.str cu))) (hlen1 : L.length ≤ 1000)
    (i0 : gIx (.str L) (.int 0) = some (.dat (.str (sg (c0 L)))))
    (hm2 : gMul (.str (sg (c0 L))) (.int 2) = some (.dat (.str (repS (sg (c0 L)) 2))))
    (hix : L2.atI [PyData.str (repS (sg (c0 L)) 2), .str cu] (if decide ((L.length : Int) > 1) = true then 1 else 0) = some (.str dd))
    (hd : gAdd (.str w) (.str dd) = some (.dat b))
    (a0 a1 a3 a4 a5 a6 a7 a8 a9 b1 b2 b3 b4 b5 b6 x : Slot)
    (hn : out (endF (b_law_20 [a0, a1, .dat (.str L), a3, a4, a5, a6, a7, a8, a9, .dat (.str w), b1, b2, b3, b4, b5, b6, x, .dat b, .un])) = .v (.dat (.bool true))) :
    out (endF (b_law_19 [a0, a1, .dat (.str L), a3, a4, a5, a6, a7, a8, a9, .dat (.str w), b1, b2, b3, b4, b5, b6, x, .un, .un])) = .v (.dat (.bool true)) := by
  unfold b_law_19
  simp only [Dl.e_var, Dl.e_bin, Dl.e_tb, Dl.e_tru, Dl.e_and, Dl.e_or, Dl.e_not, Dl.e_if, Dl.s_if, Dl.e_andV, Dl.e_orV, Dl.e_notV, Dl.e_args, Dl.e_set, Dl.e_setA, Dl.e_rdA, Dl.e_tup, Dl.e_lst, Dl.e_prim, Dl.s_seq, Dl.s_set, Dl.putV_eq, Dl.s_put, Dl.s_aug, Dl.e_call, Dl.e_callR, Dl.refO_d, Dl.refO_c, Dl.e_callS, Dl.e_isi, Dl.e_cut, Dl.e_part, Dl.e_neg, Dl.e_rev, Dl.s_expr, Dl.s_ret, Dl.s_unp, Dl.s_par, Dl.s_for, Dl.e_mut, Dl.e_meth, Dl.at0, Dl.at1, Dl.at2, Dl.at3, Dl.at4, Dl.at5, Dl.at6, Dl.at7, Dl.eq_int, Dl.eq_str, Dl.ne_int, Dl.ne_str, Dl.x113, Dl.s_for, Dl.w1, Dl.w2, Dl.w3, Dl.w4, Dl.w5, Dl.w6, Dl.w7, Dl.w8, Dl.w9, Dl.w10, Dl.w11, Dl.w12, Dl.w13, Dl.w14, Dl.w15, Dl.w16, Dl.w17, Dl.w18, Dl.w19, Dl.w20, Dl.w21, Dl.w22, Dl.w23, Dl.w24, Dl.w25, Dl.w26, Dl.w27, Dl.w28, Dl.w29, Dl.w30, Dl.w31, Dl.w32, Dl.w33, Dl.w34, Dl.w35, Dl.w36, Dl.w37, Dl.w39, Dl.w40, Dl.lit0, Dl.tit0, Dl.lit1, Dl.tit1, Dl.lit2, Dl.tit2, Dl.lit3, Dl.tit3, Dl.lit4, Dl.tit4, Dl.lit5, Dl.tit5, Dl.lit6, Dl.tit6, Dl.lit7, Dl.tit7, Dl.lit8, Dl.tit8, Dl.lit9, Dl.tit9, Dl.lit10, Dl.tit10, Dl.lit11, Dl.tit11, Dl.lit12, Dl.tit12, Dl.lit13, Dl.tit13, Dl.lit14, Dl.tit14, Dl.lit15, Dl.tit15, Dl.lit16, Dl.tit16, Dl.lit17, Dl.tit17, Dl.lit18, Dl.tit18, Dl.lit19, Dl.tit19, Dl.lit20, Dl.tit20, Dl.z0, Dl.z1, Dl.z2, Dl.z3, Dl.z4, Dl.x1, Dl.x2, Dl.x3, Dl.x4, Dl.x5, Dl.x6, Dl.x7, Dl.x8, Dl.x9, Dl.x10, Dl.x11, Dl.x12, Dl.x13, Dl.x14, Dl.x15, Dl.x16, Dl.x17, Dl.x18, Dl.x19, Dl.x20, Dl.x21, Dl.x22, Dl.x23, Dl.x24, Dl.x25, Dl.x26, Dl.x27, Dl.x28, Dl.x29, Dl.x30, Dl.x31, Dl.x32, Dl.x33, Dl.x34, Dl.x35, Dl.x36, Dl.x37, Dl.x38, Dl.x39, Dl.x40, Dl.x41, Dl.x42, Dl.x43, Dl.x44, Dl.x45, Dl.x46, Dl.x47, Dl.x48, Dl.x49, Dl.x50, Dl.x51, Dl.x52, Dl.x53, Dl.x54, Dl.x55, Dl.x56, Dl.x57, Dl.x58, Dl.x59, Dl.x60, Dl.x61, Dl.x62, Dl.x63, Dl.x64, Dl.x65, Dl.x66, Dl.x67, Dl.x68, Dl.x69, Dl.t_int_dict, Dl.t_str_dict, Dl.t_bool_dict, Dl.t_list_dict, Dl.t_tuple_dict, Dl.ln1, Dl.ln2, Dl.ln3, Dl.ln4, Dl.ln5, Dl.ln6, Dl.ln7, Dl.ln8, Dl.ln9, Dl.ln10, Dl.ln11, Dl.ln12, Dl.ln13, Dl.ln14, Dl.ln15, Dl.ln16, Dl.ln17, Dl.ln18, Dl.ln19, Dl.ln20, Dl.u1, Dl.u2, Dl.v1, Dl.v2, Dl.v3, Dl.v4, Dl.v5, Dl.v6, Dl.x72, Dl.x73, Dl.x74, Dl.x75, Dl.x76, Dl.x77, Dl.x78, Dl.t_int_none, Dl.t_int_bool, Dl.t_int_int, Dl.t_int_str, Dl.t_int_list, Dl.t_int_tuple, Dl.t_str_none, Dl.t_str_bool, Dl.t_str_int, Dl.t_str_str, Dl.t_str_list, Dl.t_str_tuple, Dl.t_bool_none, Dl.t_bool_bool, Dl.t_bool_int, Dl.t_bool_str, Dl.t_bool_list, Dl.t_bool_tuple, Dl.t_list_none, Dl.t_list_bool, Dl.t_list_int, Dl.t_list_str, Dl.t_list_list, Dl.t_list_tuple, Dl.t_tuple_none, Dl.t_tuple_bool, Dl.t_tuple_int, Dl.t_tuple_str, Dl.t_tuple_list, Dl.t_tuple_tuple, Dl.ch1, Dl.ch2, Dl.ch3, Dl.ch4, Dl.ch5, Dl.x80, Dl.x81, Dl.x82, Dl.x83, Dl.x84, Dl.x85, Dl.x86, Dl.x87, Dl.x88, Dl.x89, Dl.x90, Dl.x91, Dl.x92, Dl.x93, Dl.x94, Dl.x95, Dl.x96, Dl.x97, Dl.x98, Dl.x99, Dl.x100, Dl.x101, Dl.x102, Dl.x103, Dl.x104, Dl.x105, Dl.x106, Dl.x107, Dl.x108, Dl.x109, Dl.x110, Dl.y1, Dl.y2, Dl.y3, Dl.y4, Dl.y5, Dl.y6, Dl.y7, Dl.y8, Dl.y9, Dl.y10, Dl.y11, Dl.y12, Dl.y13, Dl.y15, Dl.y16, Dl.y22, Dl.y23,
  List.cons_append, List.nil_append, List.append_nil, List.map_cons, List.map_nil, if_true, if_false, Bool.not_true, Bool.not_false, Bool.or_false, Bool.or_self, Bool.false_eq_true, Option.map_some, List.set_cons_zero, List.set_cons_succ, List.length_cons, List.length_nil, reduceIte, decide_true, decide_false, reduceCtorEq, i0, hm2, hcu, Dl.y14 (le16 hlen1), hix, hd, hn]
theorem st18 {L : Str} {D D1 : Cel} {v : Int} {x : Dat} (iz : gIx (.str L) (.int (-1)) = some (.dat (.str (sg (cz L))))) (e1 : outR (m__law_draw [.cel true D, .dat (.int 20)]) = (.v (.dat (.int v)), some D1))
    (hm1 : gMul (.str (sg (cz L))) (.int v) = some (.dat x))
    (a0 a3 a4 a5 a6 a7 a8 a9 b0 b1 b2 b3 b4 b5 b6 : Slot)
    (hn : out (endF (b_law_19 [a0, .cel false D1, .dat (.str L), a3, a4, a5, a6, a7, a8, a9, b0, b1, b2, b3, b4, b5, b6, .dat x, .un, .un])) = .v (.dat (.bool true))) :
    out (endF (b_law_18 [a0, .cel false D, .dat (.str L), a3, a4, a5, a6, a7, a8, a9, b0, b1, b2, b3, b4, b5, b6, .un, .un, .un])) = .v (.dat (.bool true)) := by
  unfold b_law_18
  simp only [Dl.e_var, Dl.e_bin, Dl.e_tb, Dl.e_tru, Dl.e_and, Dl.e_or, Dl.e_not, Dl.e_if, Dl.s_if, Dl.e_andV, Dl.e_orV, Dl.e_notV, Dl.e_args, Dl.e_set, Dl.e_setA, Dl.e_rdA, Dl.e_tup, Dl.e_lst, Dl.e_prim, Dl.s_seq, Dl.s_set, Dl.putV_eq, Dl.s_put, Dl.s_aug, Dl.e_call, Dl.e_callR, Dl.refO_d, Dl.refO_c, Dl.e_callS, Dl.e_isi, Dl.e_cut, Dl.e_part, Dl.e_neg, Dl.e_rev, Dl.s_expr, Dl.s_ret, Dl.s_unp, Dl.s_par, Dl.s_for, Dl.e_mut, Dl.e_meth, Dl.at0, Dl.at1, Dl.at2, Dl.at3, Dl.at4, Dl.at5, Dl.at6, Dl.at7, Dl.eq_int, Dl.eq_str, Dl.ne_int, Dl.ne_str, Dl.x113, Dl.s_for, Dl.w1, Dl.w2, Dl.w3, Dl.w4, Dl.w5, Dl.w6, Dl.w7, Dl.w8, Dl.w9, Dl.w10, Dl.w11, Dl.w12, Dl.w13, Dl.w14, Dl.w15, Dl.w16, Dl.w17, Dl.w18, Dl.w19, Dl.w20, Dl.w21, Dl.w22, Dl.w23, Dl.w24, Dl.w25, Dl.w26, Dl.w27, Dl.w28, Dl.w29, Dl.w30, Dl.w31, Dl.w32, Dl.w33, Dl.w34, Dl.w35, Dl.w36, Dl.w37, Dl.w39, Dl.w40, Dl.lit0, Dl.tit0, Dl.lit1, Dl.tit1, Dl.lit2, Dl.tit2, Dl.lit3, Dl.tit3, Dl.lit4, Dl.tit4, Dl.lit5, Dl.tit5, Dl.lit6, Dl.tit6, Dl.lit7, Dl.tit7, Dl.lit8, Dl.tit8, Dl.lit9, Dl.tit9, Dl.lit10, Dl.tit10, Dl.lit11, Dl.tit11, Dl.lit12, Dl.tit12, Dl.lit13, Dl.tit13, Dl.lit14, Dl.tit14, Dl.lit15, Dl.tit15, Dl.lit16, Dl.tit16, Dl.lit17, Dl.tit17, Dl.lit18, Dl.tit18, Dl.lit19, Dl.tit19, Dl.lit20, Dl.tit20, Dl.z0, Dl.z1, Dl.z2, Dl.z3, Dl.z4, Dl.x1, Dl.x2, Dl.x3, Dl.x4, Dl.x5, Dl.x6, Dl.x7, Dl.x8, Dl.x9, Dl.x10, Dl.x11, Dl.x12, Dl.x13, Dl.x14, Dl.x15, Dl.x16, Dl.x17, Dl.x18, Dl.x19, Dl.x20, Dl.x21, Dl.x22, Dl.x23, Dl.x24, Dl.x25, Dl.x26, Dl.x27, Dl.x28, Dl.x29, Dl.x30, Dl.x31, Dl.x32, Dl.x33, Dl.x34, Dl.x35, Dl.x36, Dl.x37, Dl.x38, Dl.x39, Dl.x40, Dl.x41, Dl.x42, Dl.x43, Dl.x44, Dl.x45, Dl.x46, Dl.x47, Dl.x48, Dl.x49, Dl.x50, Dl.x51, Dl.x52, Dl.x53, Dl.x54, Dl.x55, Dl.x56, Dl.x57, Dl.x58, Dl.x59, Dl.x60, Dl.x61, Dl.x62, Dl.x63, Dl.x64, Dl.x65, Dl.x66, Dl.x67, Dl.x68, Dl.x69, Dl.t_int_dict, Dl.t_str_dict, Dl.t_bool_dict, Dl.t_list_dict, Dl.t_tuple_dict, Dl.ln1, Dl.ln2, Dl.ln3, Dl.ln4, Dl.ln5, Dl.ln6, Dl.ln7, Dl.ln8, Dl.ln9, Dl.ln10, Dl.ln11, Dl.ln12, Dl.ln13, Dl.ln14, Dl.ln15, Dl.ln16, Dl.ln17, Dl.ln18, Dl.ln19, Dl.ln20, Dl.u1, Dl.u2, Dl.v1, Dl.v2, Dl.v3, Dl.v4, Dl.v5, Dl.v6, Dl.x72, Dl.x73, Dl.x74, Dl.x75, Dl.x76, Dl.x77, Dl.x78, Dl.t_int_none, Dl.t_int_bool, Dl.t_int_int, Dl.t_int_str, Dl.t_int_list, Dl.t_int_tuple, Dl.t_str_none, Dl.t_str_bool, Dl.t_str_int, Dl.t_str_str, Dl.t_str_list, Dl.t_str_tuple, Dl.t_bool_none, Dl.t_bool_bool, Dl.t_bool_int, Dl.t_bool_str, Dl.t_bool_list, Dl.t_bool_tuple, Dl.t_list_none, Dl.t_list_bool, Dl.t_list_int, Dl.t_list_str, Dl.t_list_list, Dl.t_list_tuple, Dl.t_tuple_none, Dl.t_tuple_bool, Dl.t_tuple_int, Dl.t_tuple_str, Dl.t_tuple_list, Dl.t_tuple_tuple, Dl.ch1, Dl.ch2, Dl.ch3, Dl.ch4, Dl.ch5, Dl.x80, Dl.x81, Dl.x82, Dl.x83, Dl.x84, Dl.x85, Dl.x86, Dl.x87, Dl.x88, Dl.x89, Dl.x90, Dl.x91, Dl.x92, Dl.x93, Dl.x94, Dl.x95, Dl.x96, Dl.x97, Dl.x98, Dl.x99, Dl.x100, Dl.x101, Dl.x102, Dl.x103, Dl.x104, Dl.x105, Dl.x106, Dl.x107, Dl.x108, Dl.x109, Dl.x110, Dl.y1, Dl.y2, Dl.y3, Dl.y4, Dl.y5, Dl.y6, Dl.y7, Dl.y8, Dl.y9, Dl.y10, Dl.y11, Dl.y12, Dl.y13, Dl.y15, Dl.y16, Dl.y22, Dl.y23,
  List.cons_append, List.nil_append, List.append_nil, List.map_cons, List.map_nil, if_true, if_false, Bool.not_true, Bool.not_false, Bool.or_false, Bool.or_self, Bool.false_eq_true, Option.map_some, List.set_cons_zero, List.set_cons_succ, List.length_cons, List.length_nil, reduceIte, decide_true, decide_false, reduceCtorEq, e1, iz, hm1, hn]
/-- behind the words: the last rows -/
theorem st17 {L : Str} {D : Cel} {w : Str} {t : Nat} (F : Lf L) (hD : Deck t D) (ht : t < 2 ^ 50) (wc : ∀ c ∈ w.cps.toList, c ∈ L.cps.toList) (wl : w.length ≤ 12) (a0 a3 a4 a5 a6 a7 a8 a9 b1 b2 b3 b4 b5 b6 : Slot) :
    out (endF (b_law_18 [a0, .cel false D, .dat (.str L), a3, a4, a5, a6, a7, a8, a9, .dat (.str w), b1, b2, b3, b4, b5, b6, .un, .un, .un])) = .v (.dat (.bool true)) := by
  obtain ⟨v, D1, e1, v0, v1, hD1⟩ := draw_ok t D 20 hD (by omega) (by decide) (by decide)
  obtain ⟨k, rfl⟩ := Int.eq_ofNat_of_zero_le v0
  obtain ⟨cu, dd, hcu, hix, hdl, hdc, hafter⟩ := F.last
  have hlen1 : (L.length : Nat) ≤ 1000 := by have := F.l1; omega
  have ce := F.ce
  unfold chkE at ce
  rw [List.all_eq_true] at ce
  have ck := ce k (List.mem_range.mpr (by omega))
  rw [Bool.and_eq_true, Bool.and_eq_true, decide_eq_true_eq] at ck
  obtain ⟨ck1, ⟨ck2, ck4⟩, ck3⟩ := ck
  obtain ⟨s, es, ea⟩ := eqStr_ok ck1
  have ea := after_le ea (fun z => nomatch z)
  have hs : repS (sg (c0 L)) (k + 1 : Nat) = s := by injection es
  have hm1 : gMul (.str (sg (cz L))) (.int (k : Int)) = some (.dat (.str (repS (sg (cz L)) k))) := mulS (show (1 : Nat) ≤ 1000 by decide) (by omega) (by omega)
  have hm2 : gMul (.str (sg (c0 L))) (.int 2) = some (.dat (.str (repS (sg (c0 L)) 2))) := mulS (show (1 : Nat) ≤ 1000 by decide) (by decide) (by decide)
  have hm3 : gMul (.str (sg (c0 L))) (.int ((k : Int) + 1)) = some (.dat (.str s)) := by
    rw [← hs]
    exact mulS (show (1 : Nat) ≤ 1000 by decide) (by omega) (by omega)
  have hd : gAdd (.str w) (.str dd) = some (.dat (.str (w ++ dd))) := y17 (le16 (by omega))
  have hw : gAdd (.str w) (.str (sg (c0 L))) = some (.dat (.str (w ++ sg (c0 L)))) := y17 (le16 (by have : (sg (c0 L)).length = 1 := rfl
                                                                                                    omega))
  have ha := hafter w wc wl
  have hle : gLen [.str (repS (sg (cz L)) k)] = some (.dat (.int (k : Int))) := by
    rw [y14 (le16 (by rw [ck2]; omega)), ck2]
  have nice : niceB (.list [.str s, .str (w ++ dd)]) = true := by
    rw [hs] at ck3
    unfold niceB at ck3
    rw [Bool.and_eq_true, Bool.and_eq_true] at ck3
    have l1 := ck3.1.1
    have l2 : PyData.weight (.list [.str s, .str s]) ≤ 1048576 := of_decide_eq_true ck3.1.2
    simp only [PyData.leavesShort, PyData.leavesShortAll, Bool.and_true, Bool.and_self, List.all_eq_true, decide_eq_true_eq] at l1
    refine nice2 l1 (fun c hc => ?_) ?_ ?_
    · have e : (w ++ dd).cps.toList = w.cps.toList ++ dd.cps.toList := TL.tl_append w dd
      rw [e] at hc
      rcases List.mem_append.mp hc with h | h
      · exact F.ch c (wc c h)
      · exact hdc c h
    · rw [← hs]
      exact ck4
    · show (w.cps ++ dd.cps).size ≤ 1000
      rw [Array.size_append]
      have a : w.cps.size ≤ 12 := wl
      have b : dd.cps.size ≤ 2 := hdl
      omega
  have isf := is_ok (reprOk_of nice) (Eq.refl (PyData.list [.str s, .str (w ++ dd)]))
  exact st18 F.iz e1 hm1 _ _ _ _ _ _ _ _ _ _ _ _ _ _ _ (st19 hcu hlen1 F.i0 hm2 hix hd _ _ _ _ _ _ _ _ _ _ _ _ _ _ _ _ (st20 (d := s) ea F.i0 hw ha hle hm3 isf _ _ _ _ _ _ _ _ _ _ _ _ _ _ _))
end K01
end

-- text L8
section
set_option Elab.async false
set_option linter.all false
set_option maxRecDepth 100000
set_option maxHeartbeats 8000000
namespace K01
open PySem Dl
theorem st17w {L : Str} {ws zs : List Dat} {v : Int} {d : Dat} {a : Str}
    (h1 : L2.atI ws v = some d) (h2 : out (m_word_after [.dat (.str L), .dat d]) = .v (.dat (.str a))) (h3 : L2.atI zs (v + 1) = some (.str a))
    (a0 a1 a3 a4 a5 a6 a7 a8 a9 b0 b1 b2 b3 : Slot)
    (hn : out (endF (b_law_18 [a0, a1, .dat (.str L), a3, a4, a5, a6, a7, a8, a9, b0, b1, b2, b3, .dat (.list ws), .dat (.int v), .dat (.list zs), .un, .un, .un])) = .v (.dat (.bool true))) :
    out (endF (b_law_17 [a0, a1, .dat (.str L), a3, a4, a5, a6, a7, a8, a9, b0, b1, b2, b3, .dat (.list ws), .dat (.int v), .dat (.list zs), .un, .un, .un])) = .v (.dat (.bool true)) := by
  unfold b_law_17
  simp only [Dl.e_var, Dl.e_bin, Dl.e_tb, Dl.e_tru, Dl.e_and, Dl.e_or, Dl.e_not, Dl.e_if, Dl.s_if, Dl.e_andV, Dl.e_orV, Dl.e_notV, Dl.e_args, Dl.e_set, Dl.e_setA, Dl.e_rdA, Dl.e_tup, Dl.e_lst, Dl.e_prim, Dl.s_seq, Dl.s_set, Dl.putV_eq, Dl.s_put, Dl.s_aug, Dl.e_call, Dl.e_callR, Dl.refO_d, Dl.refO_c, Dl.e_callS, Dl.e_isi, Dl.e_cut, Dl.e_part, Dl.e_neg, Dl.e_rev, Dl.s_expr, Dl.s_ret, Dl.s_unp, Dl.s_par, Dl.s_for, Dl.e_mut, Dl.e_meth, Dl.at0, Dl.at1, Dl.at2, Dl.at3, Dl.at4, Dl.at5, Dl.at6, Dl.at7, Dl.eq_int, Dl.eq_str, Dl.ne_int, Dl.ne_str, Dl.x113, Dl.s_for, Dl.w1, Dl.w2, Dl.w3, Dl.w4, Dl.w5, Dl.w6, Dl.w7, Dl.w8, Dl.w9, Dl.w10, Dl.w11, Dl.w12, Dl.w13, Dl.w14, Dl.w15, Dl.w16, Dl.w17, Dl.w18, Dl.w19, Dl.w20, Dl.w21, Dl.w22, Dl.w23, Dl.w24, Dl.w25, Dl.w26, Dl.w27, Dl.w28, Dl.w29, Dl.w30, Dl.w31, Dl.w32, Dl.w33, Dl.w34, Dl.w35, Dl.w36, Dl.w37, Dl.w39, Dl.w40, Dl.lit0, Dl.tit0, Dl.lit1, Dl.tit1, Dl.lit2, Dl.tit2, Dl.lit3, Dl.tit3, Dl.lit4, Dl.tit4, Dl.lit5, Dl.tit5, Dl.lit6, Dl.tit6, Dl.lit7, Dl.tit7, Dl.lit8, Dl.tit8, Dl.lit9, Dl.tit9, Dl.lit10, Dl.tit10, Dl.lit11, Dl.tit11, Dl.lit12, Dl.tit12, Dl.lit13, Dl.tit13, Dl.lit14, Dl.tit14, Dl.lit15, Dl.tit15, Dl.lit16, Dl.tit16, Dl.lit17, Dl.tit17, Dl.lit18, Dl.tit18, Dl.lit19, Dl.tit19, Dl.lit20, Dl.tit20, Dl.z0, Dl.z1, Dl.z2, Dl.z3, Dl.z4, Dl.x1, Dl.x2, Dl.x3, Dl.x4, Dl.x5, Dl.x6, Dl.x7, Dl.x8, Dl.x9, Dl.x10, Dl.x11, Dl.x12, Dl.x13, Dl.x14, Dl.x15, Dl.x16, Dl.x17, Dl.x18, Dl.x19, Dl.x20, Dl.x21, Dl.x22, Dl.x23, Dl.x24, Dl.x25, Dl.x26, Dl.x27, Dl.x28, Dl.x29, Dl.x30, Dl.x31, Dl.x32, Dl.x33, Dl.x34, Dl.x35, Dl.x36, Dl.x37, Dl.x38, Dl.x39, Dl.x40, Dl.x41, Dl.x42, Dl.x43, Dl.x44, Dl.x45, Dl.x46, Dl.x47, Dl.x48, Dl.x49, Dl.x50, Dl.x51, Dl.x52, Dl.x53, Dl.x54, Dl.x55, Dl.x56, Dl.x57, Dl.x58, Dl.x59, Dl.x60, Dl.x61, Dl.x62, Dl.x63, Dl.x64, Dl.x65, Dl.x66, Dl.x67, Dl.x68, Dl.x69, Dl.t_int_dict, Dl.t_str_dict, Dl.t_bool_dict, Dl.t_list_dict, Dl.t_tuple_dict, Dl.ln1, Dl.ln2, Dl.ln3, Dl.ln4, Dl.ln5, Dl.ln6, Dl.ln7, Dl.ln8, Dl.ln9, Dl.ln10, Dl.ln11, Dl.ln12, Dl.ln13, Dl.ln14, Dl.ln15, Dl.ln16, Dl.ln17, Dl.ln18, Dl.ln19, Dl.ln20, Dl.u1, Dl.u2, Dl.v1, Dl.v2, Dl.v3, Dl.v4, Dl.v5, Dl.v6, Dl.x72, Dl.x73, Dl.x74, Dl.x75, Dl.x76, Dl.x77, Dl.x78, Dl.t_int_none, Dl.t_int_bool, Dl.t_int_int, Dl.t_int_str, Dl.t_int_list, Dl.t_int_tuple, Dl.t_str_none, Dl.t_str_bool, Dl.t_str_int, Dl.t_str_str, Dl.t_str_list, Dl.t_str_tuple, Dl.t_bool_none, Dl.t_bool_bool, Dl.t_bool_int, Dl.t_bool_str, Dl.t_bool_list, Dl.t_bool_tuple, Dl.t_list_none, Dl.t_list_bool, Dl.t_list_int, Dl.t_list_str, Dl.t_list_list, Dl.t_list_tuple, Dl.t_tuple_none, Dl.t_tuple_bool, Dl.t_tuple_int, Dl.t_tuple_str, Dl.t_tuple_list, Dl.t_tuple_tuple, Dl.ch1, Dl.ch2, Dl.ch3, Dl.ch4, Dl.ch5, Dl.x80, Dl.x81, Dl.x82, Dl.x83, Dl.x84, Dl.x85, Dl.x86, Dl.x87, Dl.x88, Dl.x89, Dl.x90, Dl.x91, Dl.x92, Dl.x93, Dl.x94, Dl.x95, Dl.x96, Dl.x97, Dl.x98, Dl.x99, Dl.x100, Dl.x101, Dl.x102, Dl.x103, Dl.x104, Dl.x105, Dl.x106, Dl.x107, Dl.x108, Dl.x109, Dl.x110, Dl.y1, Dl.y2, Dl.y3, Dl.y4, Dl.y5, Dl.y6, Dl.y7, Dl.y8, Dl.y9, Dl.y10, Dl.y11, Dl.y12, Dl.y13, Dl.y15, Dl.y16, Dl.y22, Dl.y23,
  List.cons_append, List.nil_append, List.append_nil, List.map_cons, List.map_nil, if_true, if_false, Bool.not_true, Bool.not_false, Bool.or_false, Bool.or_self, Bool.false_eq_true, Option.map_some, List.set_cons_zero, List.set_cons_succ, List.length_cons, List.length_nil, reduceIte, decide_true, decide_false, reduceCtorEq, h1, h2, h3, beq_self_eq_true, Bool.not_true, hn]
theorem st16 {L : Str} {n : Int} {zs : List Dat} (h1 : out (m__law_words [.dat (.str L), .dat (.int (n + 1))]) = .v (.dat (.list zs)))
    (a0 a1 a3 a4 a5 a6 a7 a8 a9 b0 b1 b2 b4 b5 : Slot)
    (hn : out (endF (b_law_17 [a0, a1, .dat (.str L), a3, a4, a5, a6, a7, a8, a9, b0, b1, b2, .dat (.int n), b4, b5, .dat (.list zs), .un, .un, .un])) = .v (.dat (.bool true))) :
    out (endF (b_law_16 [a0, a1, .dat (.str L), a3, a4, a5, a6, a7, a8, a9, b0, b1, b2, .dat (.int n), b4, b5, .un, .un, .un, .un])) = .v (.dat (.bool true)) := by
  unfold b_law_16
  simp only [Dl.e_var, Dl.e_bin, Dl.e_tb, Dl.e_tru, Dl.e_and, Dl.e_or, Dl.e_not, Dl.e_if, Dl.s_if, Dl.e_andV, Dl.e_orV, Dl.e_notV, Dl.e_args, Dl.e_set, Dl.e_setA, Dl.e_rdA, Dl.e_tup, Dl.e_lst, Dl.e_prim, Dl.s_seq, Dl.s_set, Dl.putV_eq, Dl.s_put, Dl.s_aug, Dl.e_call, Dl.e_callR, Dl.refO_d, Dl.refO_c, Dl.e_callS, Dl.e_isi, Dl.e_cut, Dl.e_part, Dl.e_neg, Dl.e_rev, Dl.s_expr, Dl.s_ret, Dl.s_unp, Dl.s_par, Dl.s_for, Dl.e_mut, Dl.e_meth, Dl.at0, Dl.at1, Dl.at2, Dl.at3, Dl.at4, Dl.at5, Dl.at6, Dl.at7, Dl.eq_int, Dl.eq_str, Dl.ne_int, Dl.ne_str, Dl.x113, Dl.s_for, Dl.w1, Dl.w2, Dl.w3, Dl.w4, Dl.w5, Dl.w6, Dl.w7, Dl.w8, Dl.w9, Dl.w10, Dl.w11, Dl.w12, Dl.w13, Dl.w14, Dl.w15, Dl.w16, Dl.w17, Dl.w18, Dl.w19, Dl.w20, Dl.w21, Dl.w22, Dl.w23, Dl.w24, Dl.w25, Dl.w26, Dl.w27, Dl.w28, Dl.w29, Dl.w30, Dl.w31, Dl.w32, Dl.w33, Dl.w34, Dl.w35, Dl.w36, Dl.w37, Dl.w39, Dl.w40, Dl.lit0, Dl.tit0, Dl.lit1, Dl.tit1, Dl.lit2, Dl.tit2, Dl.lit3, Dl.tit3, Dl.lit4, Dl.tit4, Dl.lit5, Dl.tit5, Dl.lit6, Dl.tit6, Dl.lit7, Dl.tit7, Dl.lit8, Dl.tit8, Dl.lit9, Dl.tit9, Dl.lit10, Dl.tit10, Dl.lit11, Dl.tit11, Dl.lit12, Dl.tit12, Dl.lit13, Dl.tit13, Dl.lit14, Dl.tit14, Dl.lit15, Dl.tit15, Dl.lit16, Dl.tit16, Dl.lit17, Dl.tit17, Dl.lit18, Dl.tit18, Dl.lit19, Dl.tit19, Dl.lit20, Dl.tit20, Dl.z0, Dl.z1, Dl.z2, Dl.z3, Dl.z4, Dl.x1, Dl.x2, Dl.x3, Dl.x4, Dl.x5, Dl.x6, Dl.x7, Dl.x8, Dl.x9, Dl.x10, Dl.x11, Dl.x12, Dl.x13, Dl.x14, Dl.x15, Dl.x16, Dl.x17, Dl.x18, Dl.x19, Dl.x20, Dl.x21, Dl.x22, Dl.x23, Dl.x24, Dl.x25, Dl.x26, Dl.x27, Dl.x28, Dl.x29, Dl.x30, Dl.x31, Dl.x32, Dl.x33, Dl.x34, Dl.x35, Dl.x36, Dl.x37, Dl.x38, Dl.x39, Dl.x40, Dl.x41, Dl.x42, Dl.x43, Dl.x44, Dl.x45, Dl.x46, Dl.x47, Dl.x48, Dl.x49, Dl.x50, Dl.x51, Dl.x52, Dl.x53, Dl.x54, Dl.x55, Dl.x56, Dl.x57, Dl.x58, Dl.x59, Dl.x60, Dl.x61, Dl.x62, Dl.x63, Dl.x64, Dl.x65, Dl.x66, Dl.x67, Dl.x68, Dl.x69, Dl.t_int_dict, Dl.t_str_dict, Dl.t_bool_dict, Dl.t_list_dict, Dl.t_tuple_dict, Dl.ln1, Dl.ln2, Dl.ln3, Dl.ln4, Dl.ln5, Dl.ln6, Dl.ln7, Dl.ln8, Dl.ln9, Dl.ln10, Dl.ln11, Dl.ln12, Dl.ln13, Dl.ln14, Dl.ln15, Dl.ln16, Dl.ln17, Dl.ln18, Dl.ln19, Dl.ln20, Dl.u1, Dl.u2, Dl.v1, Dl.v2, Dl.v3, Dl.v4, Dl.v5, Dl.v6, Dl.x72, Dl.x73, Dl.x74, Dl.x75, Dl.x76, Dl.x77, Dl.x78, Dl.t_int_none, Dl.t_int_bool, Dl.t_int_int, Dl.t_int_str, Dl.t_int_list, Dl.t_int_tuple, Dl.t_str_none, Dl.t_str_bool, Dl.t_str_int, Dl.t_str_str, Dl.t_str_list, Dl.t_str_tuple, Dl.t_bool_none, Dl.t_bool_bool, Dl.t_bool_int, Dl.t_bool_str, Dl.t_bool_list, Dl.t_bool_tuple, Dl.t_list_none, Dl.t_list_bool, Dl.t_list_int, Dl.t_list_str, Dl.t_list_list, Dl.t_list_tuple, Dl.t_tuple_none, Dl.t_tuple_bool, Dl.t_tuple_int, Dl.t_tuple_str, Dl.t_tuple_list, Dl.t_tuple_tuple, Dl.ch1, Dl.ch2, Dl.ch3, Dl.ch4, Dl.ch5, Dl.x80, Dl.x81, Dl.x82, Dl.x83, Dl.x84, Dl.x85, Dl.x86, Dl.x87, Dl.x88, Dl.x89, Dl.x90, Dl.x91, Dl.x92, Dl.x93, Dl.x94, Dl.x95, Dl.x96, Dl.x97, Dl.x98, Dl.x99, Dl.x100, Dl.x101, Dl.x102, Dl.x103, Dl.x104, Dl.x105, Dl.x106, Dl.x107, Dl.x108, Dl.x109, Dl.x110, Dl.y1, Dl.y2, Dl.y3, Dl.y4, Dl.y5, Dl.y6, Dl.y7, Dl.y8, Dl.y9, Dl.y10, Dl.y11, Dl.y12, Dl.y13, Dl.y15, Dl.y16, Dl.y22, Dl.y23,
  List.cons_append, List.nil_append, List.append_nil, List.map_cons, List.map_nil, if_true, if_false, Bool.not_true, Bool.not_false, Bool.or_false, Bool.or_self, Bool.false_eq_true, Option.map_some, List.set_cons_zero, List.set_cons_succ, List.length_cons, List.length_nil, reduceIte, decide_true, decide_false, reduceCtorEq, h1, hn]
theorem st15 {D D1 : Cel} {ws : List Dat} {v : Int} (e1 : outR (m__law_draw [.cel true D, .dat (.int ws.length)]) = (.v (.dat (.int v)), some D1))
    (a0 a2 a3 a4 a5 a6 a7 a8 a9 b0 b1 b2 b3 : Slot)
    (hn : out (endF (b_law_16 [a0, .cel false D1, a2, a3, a4, a5, a6, a7, a8, a9, b0, b1, b2, b3, .dat (.list ws), .dat (.int v), .un, .un, .un, .un])) = .v (.dat (.bool true))) :
    out (endF (b_law_15 [a0, .cel false D, a2, a3, a4, a5, a6, a7, a8, a9, b0, b1, b2, b3, .dat (.list ws), .un, .un, .un, .un, .un])) = .v (.dat (.bool true)) := by
  unfold b_law_15
  simp only [Dl.e_var, Dl.e_bin, Dl.e_tb, Dl.e_tru, Dl.e_and, Dl.e_or, Dl.e_not, Dl.e_if, Dl.s_if, Dl.e_andV, Dl.e_orV, Dl.e_notV, Dl.e_args, Dl.e_set, Dl.e_setA, Dl.e_rdA, Dl.e_tup, Dl.e_lst, Dl.e_prim, Dl.s_seq, Dl.s_set, Dl.putV_eq, Dl.s_put, Dl.s_aug, Dl.e_call, Dl.e_callR, Dl.refO_d, Dl.refO_c, Dl.e_callS, Dl.e_isi, Dl.e_cut, Dl.e_part, Dl.e_neg, Dl.e_rev, Dl.s_expr, Dl.s_ret, Dl.s_unp, Dl.s_par, Dl.s_for, Dl.e_mut, Dl.e_meth, Dl.at0, Dl.at1, Dl.at2, Dl.at3, Dl.at4, Dl.at5, Dl.at6, Dl.at7, Dl.eq_int, Dl.eq_str, Dl.ne_int, Dl.ne_str, Dl.x113, Dl.s_for, Dl.w1, Dl.w2, Dl.w3, Dl.w4, Dl.w5, Dl.w6, Dl.w7, Dl.w8, Dl.w9, Dl.w10, Dl.w11, Dl.w12, Dl.w13, Dl.w14, Dl.w15, Dl.w16, Dl.w17, Dl.w18, Dl.w19, Dl.w20, Dl.w21, Dl.w22, Dl.w23, Dl.w24, Dl.w25, Dl.w26, Dl.w27, Dl.w28, Dl.w29, Dl.w30, Dl.w31, Dl.w32, Dl.w33, Dl.w34, Dl.w35, Dl.w36, Dl.w37, Dl.w39, Dl.w40, Dl.lit0, Dl.tit0, Dl.lit1, Dl.tit1, Dl.lit2, Dl.tit2, Dl.lit3, Dl.tit3, Dl.lit4, Dl.tit4, Dl.lit5, Dl.tit5, Dl.lit6, Dl.tit6, Dl.lit7, Dl.tit7, Dl.lit8, Dl.tit8, Dl.lit9, Dl.tit9, Dl.lit10, Dl.tit10, Dl.lit11, Dl.tit11, Dl.lit12, Dl.tit12, Dl.lit13, Dl.tit13, Dl.lit14, Dl.tit14, Dl.lit15, Dl.tit15, Dl.lit16, Dl.tit16, Dl.lit17, Dl.tit17, Dl.lit18, Dl.tit18, Dl.lit19, Dl.tit19, Dl.lit20, Dl.tit20, Dl.z0, Dl.z1, Dl.z2, Dl.z3, Dl.z4, Dl.x1, Dl.x2, Dl.x3, Dl.x4, Dl.x5, Dl.x6, Dl.x7, Dl.x8, Dl.x9, Dl.x10, Dl.x11, Dl.x12, Dl.x13, Dl.x14, Dl.x15, Dl.x16, Dl.x17, Dl.x18, Dl.x19, Dl.x20, Dl.x21, Dl.x22, Dl.x23, Dl.x24, Dl.x25, Dl.x26, Dl.x27, Dl.x28, Dl.x29, Dl.x30, Dl.x31, Dl.x32, Dl.x33, Dl.x34, Dl.x35, Dl.x36, Dl.x37, Dl.x38, Dl.x39, Dl.x40, Dl.x41, Dl.x42, Dl.x43, Dl.x44, Dl.x45, Dl.x46, Dl.x47, Dl.x48, Dl.x49, Dl.x50, Dl.x51, Dl.x52, Dl.x53, Dl.x54, Dl.x55, Dl.x56, Dl.x57, Dl.x58, Dl.x59, Dl.x60, Dl.x61, Dl.x62, Dl.x63, Dl.x64, Dl.x65, Dl.x66, Dl.x67, Dl.x68, Dl.x69, Dl.t_int_dict, Dl.t_str_dict, Dl.t_bool_dict, Dl.t_list_dict, Dl.t_tuple_dict, Dl.ln1, Dl.ln2, Dl.ln3, Dl.ln4, Dl.ln5, Dl.ln6, Dl.ln7, Dl.ln8, Dl.ln9, Dl.ln10, Dl.ln11, Dl.ln12, Dl.ln13, Dl.ln14, Dl.ln15, Dl.ln16, Dl.ln17, Dl.ln18, Dl.ln19, Dl.ln20, Dl.u1, Dl.u2, Dl.v1, Dl.v2, Dl.v3, Dl.v4, Dl.v5, Dl.v6, Dl.x72, Dl.x73, Dl.x74, Dl.x75, Dl.x76, Dl.x77, Dl.x78, Dl.t_int_none, Dl.t_int_bool, Dl.t_int_int, Dl.t_int_str, Dl.t_int_list, Dl.t_int_tuple, Dl.t_str_none, Dl.t_str_bool, Dl.t_str_int, Dl.t_str_str, Dl.t_str_list, Dl.t_str_tuple, Dl.t_bool_none, Dl.t_bool_bool, Dl.t_bool_int, Dl.t_bool_str, Dl.t_bool_list, Dl.t_bool_tuple, Dl.t_list_none, Dl.t_list_bool, Dl.t_list_int, Dl.t_list_str, Dl.t_list_list, Dl.t_list_tuple, Dl.t_tuple_none, Dl.t_tuple_bool, Dl.t_tuple_int, Dl.t_tuple_str, Dl.t_tuple_list, Dl.t_tuple_tuple, Dl.ch1, Dl.ch2, Dl.ch3, Dl.ch4, Dl.ch5, Dl.x80, Dl.x81, Dl.x82, Dl.x83, Dl.x84, Dl.x85, Dl.x86, Dl.x87, Dl.x88, Dl.x89, Dl.x90, Dl.x91, Dl.x92, Dl.x93, Dl.x94, Dl.x95, Dl.x96, Dl.x97, Dl.x98, Dl.x99, Dl.x100, Dl.x101, Dl.x102, Dl.x103, Dl.x104, Dl.x105, Dl.x106, Dl.x107, Dl.x108, Dl.x109, Dl.x110, Dl.y1, Dl.y2, Dl.y3, Dl.y4, Dl.y5, Dl.y6, Dl.y7, Dl.y8, Dl.y9, Dl.y10, Dl.y11, Dl.y12, Dl.y13, Dl.y15, Dl.y16, Dl.y22, Dl.y23,
  List.cons_append, List.nil_append, List.append_nil, List.map_cons, List.map_nil, if_true, if_false, Bool.not_true, Bool.not_false, Bool.or_false, Bool.or_self, Bool.false_eq_true, Option.map_some, List.set_cons_zero, List.set_cons_succ, List.length_cons, List.length_nil, reduceIte, decide_true, decide_false, reduceCtorEq, e1, hn]
theorem st14 {L : Str} {n : Int} {ws : List Dat} (h1 : out (m_words_to [.dat (.str L), .dat (.int n)]) = .v (.cel (.lst ws)))
    (h2 : out (m__law_is [.dat (.list ws), .dat (.list ws)]) = .v (.dat (.bool true)))
    (a0 a1 a3 a4 a5 a6 a7 a8 a9 b0 b1 b2 : Slot)
    (hn : out (endF (b_law_15 [a0, a1, .dat (.str L), a3, a4, a5, a6, a7, a8, a9, b0, b1, b2, .dat (.int n), .dat (.list ws), .un, .un, .un, .un, .un])) = .v (.dat (.bool true))) :
    out (endF (b_law_14 [a0, a1, .dat (.str L), a3, a4, a5, a6, a7, a8, a9, b0, b1, b2, .dat (.int n), .dat (.list ws), .un, .un, .un, .un, .un])) = .v (.dat (.bool true)) := by
  unfold b_law_14
  simp only [Dl.e_var, Dl.e_bin, Dl.e_tb, Dl.e_tru, Dl.e_and, Dl.e_or, Dl.e_not, Dl.e_if, Dl.s_if, Dl.e_andV, Dl.e_orV, Dl.e_notV, Dl.e_args, Dl.e_set, Dl.e_setA, Dl.e_rdA, Dl.e_tup, Dl.e_lst, Dl.e_prim, Dl.s_seq, Dl.s_set, Dl.putV_eq, Dl.s_put, Dl.s_aug, Dl.e_call, Dl.e_callR, Dl.refO_d, Dl.refO_c, Dl.e_callS, Dl.e_isi, Dl.e_cut, Dl.e_part, Dl.e_neg, Dl.e_rev, Dl.s_expr, Dl.s_ret, Dl.s_unp, Dl.s_par, Dl.s_for, Dl.e_mut, Dl.e_meth, Dl.at0, Dl.at1, Dl.at2, Dl.at3, Dl.at4, Dl.at5, Dl.at6, Dl.at7, Dl.eq_int, Dl.eq_str, Dl.ne_int, Dl.ne_str, Dl.x113, Dl.s_for, Dl.w1, Dl.w2, Dl.w3, Dl.w4, Dl.w5, Dl.w6, Dl.w7, Dl.w8, Dl.w9, Dl.w10, Dl.w11, Dl.w12, Dl.w13, Dl.w14, Dl.w15, Dl.w16, Dl.w17, Dl.w18, Dl.w19, Dl.w20, Dl.w21, Dl.w22, Dl.w23, Dl.w24, Dl.w25, Dl.w26, Dl.w27, Dl.w28, Dl.w29, Dl.w30, Dl.w31, Dl.w32, Dl.w33, Dl.w34, Dl.w35, Dl.w36, Dl.w37, Dl.w39, Dl.w40, Dl.lit0, Dl.tit0, Dl.lit1, Dl.tit1, Dl.lit2, Dl.tit2, Dl.lit3, Dl.tit3, Dl.lit4, Dl.tit4, Dl.lit5, Dl.tit5, Dl.lit6, Dl.tit6, Dl.lit7, Dl.tit7, Dl.lit8, Dl.tit8, Dl.lit9, Dl.tit9, Dl.lit10, Dl.tit10, Dl.lit11, Dl.tit11, Dl.lit12, Dl.tit12, Dl.lit13, Dl.tit13, Dl.lit14, Dl.tit14, Dl.lit15, Dl.tit15, Dl.lit16, Dl.tit16, Dl.lit17, Dl.tit17, Dl.lit18, Dl.tit18, Dl.lit19, Dl.tit19, Dl.lit20, Dl.tit20, Dl.z0, Dl.z1, Dl.z2, Dl.z3, Dl.z4, Dl.x1, Dl.x2, Dl.x3, Dl.x4, Dl.x5, Dl.x6, Dl.x7, Dl.x8, Dl.x9, Dl.x10, Dl.x11, Dl.x12, Dl.x13, Dl.x14, Dl.x15, Dl.x16, Dl.x17, Dl.x18, Dl.x19, Dl.x20, Dl.x21, Dl.x22, Dl.x23, Dl.x24, Dl.x25, Dl.x26, Dl.x27, Dl.x28, Dl.x29, Dl.x30, Dl.x31, Dl.x32, Dl.x33, Dl.x34, Dl.x35, Dl.x36, Dl.x37, Dl.x38, Dl.x39, Dl.x40, Dl.x41, Dl.x42, Dl.x43, Dl.x44, Dl.x45, Dl.x46, Dl.x47, Dl.x48, Dl.x49, Dl.x50, Dl.x51, Dl.x52, Dl.x53, Dl.x54, Dl.x55, Dl.x56, Dl.x57, Dl.x58, Dl.x59, Dl.x60, Dl.x61, Dl.x62, Dl.x63, Dl.x64, Dl.x65, Dl.x66, Dl.x67, Dl.x68, Dl.x69, Dl.t_int_dict, Dl.t_str_dict, Dl.t_bool_dict, Dl.t_list_dict, Dl.t_tuple_dict, Dl.ln1, Dl.ln2, Dl.ln3, Dl.ln4, Dl.ln5, Dl.ln6, Dl.ln7, Dl.ln8, Dl.ln9, Dl.ln10, Dl.ln11, Dl.ln12, Dl.ln13, Dl.ln14, Dl.ln15, Dl.ln16, Dl.ln17, Dl.ln18, Dl.ln19, Dl.ln20, Dl.u1, Dl.u2, Dl.v1, Dl.v2, Dl.v3, Dl.v4, Dl.v5, Dl.v6, Dl.x72, Dl.x73, Dl.x74, Dl.x75, Dl.x76, Dl.x77, Dl.x78, Dl.t_int_none, Dl.t_int_bool, Dl.t_int_int, Dl.t_int_str, Dl.t_int_list, Dl.t_int_tuple, Dl.t_str_none, Dl.t_str_bool, Dl.t_str_int, Dl.t_str_str, Dl.t_str_list, Dl.t_str_tuple, Dl.t_bool_none, Dl.t_bool_bool, Dl.t_bool_int, Dl.t_bool_str, Dl.t_bool_list, Dl.t_bool_tuple, Dl.t_list_none, Dl.t_list_bool, Dl.t_list_int, Dl.t_list_str, Dl.t_list_list, Dl.t_list_tuple, Dl.t_tuple_none, Dl.t_tuple_bool, Dl.t_tuple_int, Dl.t_tuple_str, Dl.t_tuple_list, Dl.t_tuple_tuple, Dl.ch1, Dl.ch2, Dl.ch3, Dl.ch4, Dl.ch5, Dl.x80, Dl.x81, Dl.x82, Dl.x83, Dl.x84, Dl.x85, Dl.x86, Dl.x87, Dl.x88, Dl.x89, Dl.x90, Dl.x91, Dl.x92, Dl.x93, Dl.x94, Dl.x95, Dl.x96, Dl.x97, Dl.x98, Dl.x99, Dl.x100, Dl.x101, Dl.x102, Dl.x103, Dl.x104, Dl.x105, Dl.x106, Dl.x107, Dl.x108, Dl.x109, Dl.x110, Dl.y1, Dl.y2, Dl.y3, Dl.y4, Dl.y5, Dl.y6, Dl.y7, Dl.y8, Dl.y9, Dl.y10, Dl.y11, Dl.y12, Dl.y13, Dl.y15, Dl.y16, Dl.y22, Dl.y23,
  List.cons_append, List.nil_append, List.append_nil, List.map_cons, List.map_nil, if_true, if_false, Bool.not_true, Bool.not_false, Bool.or_false, Bool.or_self, Bool.false_eq_true, Option.map_some, List.set_cons_zero, List.set_cons_succ, List.length_cons, List.length_nil, reduceIte, decide_true, decide_false, reduceCtorEq, h1, h2, hn]
theorem st13 {L : Str} {n : Int} {ws : List Dat} (h1 : out (m__law_words [.dat (.str L), .dat (.int n)]) = .v (.dat (.list ws)))
    (a0 a1 a3 a4 a5 a6 a7 a8 a9 b0 b1 b2 : Slot)
    (hn : out (endF (b_law_14 [a0, a1, .dat (.str L), a3, a4, a5, a6, a7, a8, a9, b0, b1, b2, .dat (.int n), .dat (.list ws), .un, .un, .un, .un, .un])) = .v (.dat (.bool true))) :
    out (endF (b_law_13 [a0, a1, .dat (.str L), a3, a4, a5, a6, a7, a8, a9, b0, b1, b2, .dat (.int n), .un, .un, .un, .un, .un, .un])) = .v (.dat (.bool true)) := by
  unfold b_law_13
  simp only [Dl.e_var, Dl.e_bin, Dl.e_tb, Dl.e_tru, Dl.e_and, Dl.e_or, Dl.e_not, Dl.e_if, Dl.s_if, Dl.e_andV, Dl.e_orV, Dl.e_notV, Dl.e_args, Dl.e_set, Dl.e_setA, Dl.e_rdA, Dl.e_tup, Dl.e_lst, Dl.e_prim, Dl.s_seq, Dl.s_set, Dl.putV_eq, Dl.s_put, Dl.s_aug, Dl.e_call, Dl.e_callR, Dl.refO_d, Dl.refO_c, Dl.e_callS, Dl.e_isi, Dl.e_cut, Dl.e_part, Dl.e_neg, Dl.e_rev, Dl.s_expr, Dl.s_ret, Dl.s_unp, Dl.s_par, Dl.s_for, Dl.e_mut, Dl.e_meth, Dl.at0, Dl.at1, Dl.at2, Dl.at3, Dl.at4, Dl.at5, Dl.at6, Dl.at7, Dl.eq_int, Dl.eq_str, Dl.ne_int, Dl.ne_str, Dl.x113, Dl.s_for, Dl.w1, Dl.w2, Dl.w3, Dl.w4, Dl.w5, Dl.w6, Dl.w7, Dl.w8, Dl.w9, Dl.w10, Dl.w11, Dl.w12, Dl.w13, Dl.w14, Dl.w15, Dl.w16, Dl.w17, Dl.w18, Dl.w19, Dl.w20, Dl.w21, Dl.w22, Dl.w23, Dl.w24, Dl.w25, Dl.w26, Dl.w27, Dl.w28, Dl.w29, Dl.w30, Dl.w31, Dl.w32, Dl.w33, Dl.w34, Dl.w35, Dl.w36, Dl.w37, Dl.w39, Dl.w40, Dl.lit0, Dl.tit0, Dl.lit1, Dl.tit1, Dl.lit2, Dl.tit2, Dl.lit3, Dl.tit3, Dl.lit4, Dl.tit4, Dl.lit5, Dl.tit5, Dl.lit6, Dl.tit6, Dl.lit7, Dl.tit7, Dl.lit8, Dl.tit8, Dl.lit9, Dl.tit9, Dl.lit10, Dl.tit10, Dl.lit11, Dl.tit11, Dl.lit12, Dl.tit12, Dl.lit13, Dl.tit13, Dl.lit14, Dl.tit14, Dl.lit15, Dl.tit15, Dl.lit16, Dl.tit16, Dl.lit17, Dl.tit17, Dl.lit18, Dl.tit18, Dl.lit19, Dl.tit19, Dl.lit20, Dl.tit20, Dl.z0, Dl.z1, Dl.z2, Dl.z3, Dl.z4, Dl.x1, Dl.x2, Dl.x3, Dl.x4, Dl.x5, Dl.x6, Dl.x7, Dl.x8, Dl.x9, Dl.x10, Dl.x11, Dl.x12, Dl.x13, Dl.x14, Dl.x15, Dl.x16, Dl.x17, Dl.x18, Dl.x19, Dl.x20, Dl.x21, Dl.x22, Dl.x23, Dl.x24, Dl.x25, Dl.x26, Dl.x27, Dl.x28, Dl.x29, Dl.x30, Dl.x31, Dl.x32, Dl.x33, Dl.x34, Dl.x35, Dl.x36, Dl.x37, Dl.x38, Dl.x39, Dl.x40, Dl.x41, Dl.x42, Dl.x43, Dl.x44, Dl.x45, Dl.x46, Dl.x47, Dl.x48, Dl.x49, Dl.x50, Dl.x51, Dl.x52, Dl.x53, Dl.x54, Dl.x55, Dl.x56, Dl.x57, Dl.x58, Dl.x59, Dl.x60, Dl.x61, Dl.x62, Dl.x63, Dl.x64, Dl.x65, Dl.x66, Dl.x67, Dl.x68, Dl.x69, Dl.t_int_dict, Dl.t_str_dict, Dl.t_bool_dict, Dl.t_list_dict, Dl.t_tuple_dict, Dl.ln1, Dl.ln2, Dl.ln3, Dl.ln4, Dl.ln5, Dl.ln6, Dl.ln7, Dl.ln8, Dl.ln9, Dl.ln10, Dl.ln11, Dl.ln12, Dl.ln13, Dl.ln14, Dl.ln15, Dl.ln16, Dl.ln17, Dl.ln18, Dl.ln19, Dl.ln20, Dl.u1, Dl.u2, Dl.v1, Dl.v2, Dl.v3, Dl.v4, Dl.v5, Dl.v6, Dl.x72, Dl.x73, Dl.x74, Dl.x75, Dl.x76, Dl.x77, Dl.x78, Dl.t_int_none, Dl.t_int_bool, Dl.t_int_int, Dl.t_int_str, Dl.t_int_list, Dl.t_int_tuple, Dl.t_str_none, Dl.t_str_bool, Dl.t_str_int, Dl.t_str_str, Dl.t_str_list, Dl.t_str_tuple, Dl.t_bool_none, Dl.t_bool_bool, Dl.t_bool_int, Dl.t_bool_str, Dl.t_bool_list, Dl.t_bool_tuple, Dl.t_list_none, Dl.t_list_bool, Dl.t_list_int, Dl.t_list_str, Dl.t_list_list, Dl.t_list_tuple, Dl.t_tuple_none, Dl.t_tuple_bool, Dl.t_tuple_int, Dl.t_tuple_str, Dl.t_tuple_list, Dl.t_tuple_tuple, Dl.ch1, Dl.ch2, Dl.ch3, Dl.ch4, Dl.ch5, Dl.x80, Dl.x81, Dl.x82, Dl.x83, Dl.x84, Dl.x85, Dl.x86, Dl.x87, Dl.x88, Dl.x89, Dl.x90, Dl.x91, Dl.x92, Dl.x93, Dl.x94, Dl.x95, Dl.x96, Dl.x97, Dl.x98, Dl.x99, Dl.x100, Dl.x101, Dl.x102, Dl.x103, Dl.x104, Dl.x105, Dl.x106, Dl.x107, Dl.x108, Dl.x109, Dl.x110, Dl.y1, Dl.y2, Dl.y3, Dl.y4, Dl.y5, Dl.y6, Dl.y7, Dl.y8, Dl.y9, Dl.y10, Dl.y11, Dl.y12, Dl.y13, Dl.y15, Dl.y16, Dl.y22, Dl.y23,
  List.cons_append, List.nil_append, List.append_nil, List.map_cons, List.map_nil, if_true, if_false, Bool.not_true, Bool.not_false, Bool.or_false, Bool.or_self, Bool.false_eq_true, Option.map_some, List.set_cons_zero, List.set_cons_succ, List.length_cons, List.length_nil, reduceIte, decide_true, decide_false, reduceCtorEq, h1, hn]
theorem st12 {D D1 : Cel} {m v : Int} (e1 : outR (m__law_draw [.cel true D, .dat (.int m)]) = (.v (.dat (.int v)), some D1))
    (a0 a2 a3 a4 a5 a6 a8 a9 b0 b1 b2 : Slot)
    (hn : out (endF (b_law_13 [a0, .cel false D1, a2, a3, a4, a5, a6, .dat (.int m), a8, a9, b0, b1, b2, .dat (.int v), .un, .un, .un, .un, .un, .un])) = .v (.dat (.bool true))) :
    out (endF (b_law_12 [a0, .cel false D, a2, a3, a4, a5, a6, .dat (.int m), a8, a9, b0, b1, b2, .un, .un, .un, .un, .un, .un, .un])) = .v (.dat (.bool true)) := by
  unfold b_law_12
  simp only [Dl.e_var, Dl.e_bin, Dl.e_tb, Dl.e_tru, Dl.e_and, Dl.e_or, Dl.e_not, Dl.e_if, Dl.s_if, Dl.e_andV, Dl.e_orV, Dl.e_notV, Dl.e_args, Dl.e_set, Dl.e_setA, Dl.e_rdA, Dl.e_tup, Dl.e_lst, Dl.e_prim, Dl.s_seq, Dl.s_set, Dl.putV_eq, Dl.s_put, Dl.s_aug, Dl.e_call, Dl.e_callR, Dl.refO_d, Dl.refO_c, Dl.e_callS, Dl.e_isi, Dl.e_cut, Dl.e_part, Dl.e_neg, Dl.e_rev, Dl.s_expr, Dl.s_ret, Dl.s_unp, Dl.s_par, Dl.s_for, Dl.e_mut, Dl.e_meth, Dl.at0, Dl.at1, Dl.at2, Dl.at3, Dl.at4, Dl.at5, Dl.at6, Dl.at7, Dl.eq_int, Dl.eq_str, Dl.ne_int, Dl.ne_str, Dl.x113, Dl.s_for, Dl.w1, Dl.w2, Dl.w3, Dl.w4, Dl.w5, Dl.w6, Dl.w7, Dl.w8, Dl.w9, Dl.w10, Dl.w11, Dl.w12, Dl.w13, Dl.w14, Dl.w15, Dl.w16, Dl.w17, Dl.w18, Dl.w19, Dl.w20, Dl.w21, Dl.w22, Dl.w23, Dl.w24, Dl.w25, Dl.w26, Dl.w27, Dl.w28, Dl.w29, Dl.w30, Dl.w31, Dl.w32, Dl.w33, Dl.w34, Dl.w35, Dl.w36, Dl.w37, Dl.w39, Dl.w40, Dl.lit0, Dl.tit0, Dl.lit1, Dl.tit1, Dl.lit2, Dl.tit2, Dl.lit3, Dl.tit3, Dl.lit4, Dl.tit4, Dl.lit5, Dl.tit5, Dl.lit6, Dl.tit6, Dl.lit7, Dl.tit7, Dl.lit8, Dl.tit8, Dl.lit9, Dl.tit9, Dl.lit10, Dl.tit10, Dl.lit11, Dl.tit11, Dl.lit12, Dl.tit12, Dl.lit13, Dl.tit13, Dl.lit14, Dl.tit14, Dl.lit15, Dl.tit15, Dl.lit16, Dl.tit16, Dl.lit17, Dl.tit17, Dl.lit18, Dl.tit18, Dl.lit19, Dl.tit19, Dl.lit20, Dl.tit20, Dl.z0, Dl.z1, Dl.z2, Dl.z3, Dl.z4, Dl.x1, Dl.x2, Dl.x3, Dl.x4, Dl.x5, Dl.x6, Dl.x7, Dl.x8, Dl.x9, Dl.x10, Dl.x11, Dl.x12, Dl.x13, Dl.x14, Dl.x15, Dl.x16, Dl.x17, Dl.x18, Dl.x19, Dl.x20, Dl.x21, Dl.x22, Dl.x23, Dl.x24, Dl.x25, Dl.x26, Dl.x27, Dl.x28, Dl.x29, Dl.x30, Dl.x31, Dl.x32, Dl.x33, Dl.x34, Dl.x35, Dl.x36, Dl.x37, Dl.x38, Dl.x39, Dl.x40, Dl.x41, Dl.x42, Dl.x43, Dl.x44, Dl.x45, Dl.x46, Dl.x47, Dl.x48, Dl.x49, Dl.x50, Dl.x51, Dl.x52, Dl.x53, Dl.x54, Dl.x55, Dl.x56, Dl.x57, Dl.x58, Dl.x59, Dl.x60, Dl.x61, Dl.x62, Dl.x63, Dl.x64, Dl.x65, Dl.x66, Dl.x67, Dl.x68, Dl.x69, Dl.t_int_dict, Dl.t_str_dict, Dl.t_bool_dict, Dl.t_list_dict, Dl.t_tuple_dict, Dl.ln1, Dl.ln2, Dl.ln3, Dl.ln4, Dl.ln5, Dl.ln6, Dl.ln7, Dl.ln8, Dl.ln9, Dl.ln10, Dl.ln11, Dl.ln12, Dl.ln13, Dl.ln14, Dl.ln15, Dl.ln16, Dl.ln17, Dl.ln18, Dl.ln19, Dl.ln20, Dl.u1, Dl.u2, Dl.v1, Dl.v2, Dl.v3, Dl.v4, Dl.v5, Dl.v6, Dl.x72, Dl.x73, Dl.x74, Dl.x75, Dl.x76, Dl.x77, Dl.x78, Dl.t_int_none, Dl.t_int_bool, Dl.t_int_int, Dl.t_int_str, Dl.t_int_list, Dl.t_int_tuple, Dl.t_str_none, Dl.t_str_bool, Dl.t_str_int, Dl.t_str_str, Dl.t_str_list, Dl.t_str_tuple, Dl.t_bool_none, Dl.t_bool_bool, Dl.t_bool_int, Dl.t_bool_str, Dl.t_bool_list, Dl.t_bool_tuple, Dl.t_list_none, Dl.t_list_bool, Dl.t_list_int, Dl.t_list_str, Dl.t_list_list, Dl.t_list_tuple, Dl.t_tuple_none, Dl.t_tuple_bool, Dl.t_tuple_int, Dl.t_tuple_str, Dl.t_tuple_list, Dl.t_tuple_tuple, Dl.ch1, Dl.ch2, Dl.ch3, Dl.ch4, Dl.ch5, Dl.x80, Dl.x81, Dl.x82, Dl.x83, Dl.x84, Dl.x85, Dl.x86, Dl.x87, Dl.x88, Dl.x89, Dl.x90, Dl.x91, Dl.x92, Dl.x93, Dl.x94, Dl.x95, Dl.x96, Dl.x97, Dl.x98, Dl.x99, Dl.x100, Dl.x101, Dl.x102, Dl.x103, Dl.x104, Dl.x105, Dl.x106, Dl.x107, Dl.x108, Dl.x109, Dl.x110, Dl.y1, Dl.y2, Dl.y3, Dl.y4, Dl.y5, Dl.y6, Dl.y7, Dl.y8, Dl.y9, Dl.y10, Dl.y11, Dl.y12, Dl.y13, Dl.y15, Dl.y16, Dl.y22, Dl.y23,
  List.cons_append, List.nil_append, List.append_nil, List.map_cons, List.map_nil, if_true, if_false, Bool.not_true, Bool.not_false, Bool.or_false, Bool.or_self, Bool.false_eq_true, Option.map_some, List.set_cons_zero, List.set_cons_succ, List.length_cons, List.length_nil, reduceIte, decide_true, decide_false, reduceCtorEq, e1, hn]
theorem st11 {L : Str} {m : Int} (hl : L.length ≤ 1000) (hm : L2.atI [PyData.int 8, .int 8, .int 6, .int 5] (L.length : Int) = some (.int m))
    (a0 a1 a3 a4 a5 a6 a7 a8 a9 b0 b1 b2 : Slot) (h7 : lkS a7 = false)
    (hn : out (endF (b_law_12 [a0, a1, .dat (.str L), a3, a4, a5, a6, .dat (.int m), a8, a9, b0, b1, b2, .un, .un, .un, .un, .un, .un, .un])) = .v (.dat (.bool true))) :
    out (endF (b_law_11 [a0, a1, .dat (.str L), a3, a4, a5, a6, a7, a8, a9, b0, b1, b2, .un, .un, .un, .un, .un, .un, .un])) = .v (.dat (.bool true)) := by
  unfold b_law_11
  simp only [Dl.e_var, Dl.e_bin, Dl.e_tb, Dl.e_tru, Dl.e_and, Dl.e_or, Dl.e_not, Dl.e_if, Dl.s_if, Dl.e_andV, Dl.e_orV, Dl.e_notV, Dl.e_args, Dl.e_set, Dl.e_setA, Dl.e_rdA, Dl.e_tup, Dl.e_lst, Dl.e_prim, Dl.s_seq, Dl.s_set, Dl.putV_eq, Dl.s_put, Dl.s_aug, Dl.e_call, Dl.e_callR, Dl.refO_d, Dl.refO_c, Dl.e_callS, Dl.e_isi, Dl.e_cut, Dl.e_part, Dl.e_neg, Dl.e_rev, Dl.s_expr, Dl.s_ret, Dl.s_unp, Dl.s_par, Dl.s_for, Dl.e_mut, Dl.e_meth, Dl.at0, Dl.at1, Dl.at2, Dl.at3, Dl.at4, Dl.at5, Dl.at6, Dl.at7, Dl.eq_int, Dl.eq_str, Dl.ne_int, Dl.ne_str, Dl.x113, Dl.s_for, Dl.w1, Dl.w2, Dl.w3, Dl.w4, Dl.w5, Dl.w6, Dl.w7, Dl.w8, Dl.w9, Dl.w10, Dl.w11, Dl.w12, Dl.w13, Dl.w14, Dl.w15, Dl.w16, Dl.w17, Dl.w18, Dl.w19, Dl.w20, Dl.w21, Dl.w22, Dl.w23, Dl.w24, Dl.w25, Dl.w26, Dl.w27, Dl.w28, Dl.w29, Dl.w30, Dl.w31, Dl.w32, Dl.w33, Dl.w34, Dl.w35, Dl.w36, Dl.w37, Dl.w39, Dl.w40, Dl.lit0, Dl.tit0, Dl.lit1, Dl.tit1, Dl.lit2, Dl.tit2, Dl.lit3, Dl.tit3, Dl.lit4, Dl.tit4, Dl.lit5, Dl.tit5, Dl.lit6, Dl.tit6, Dl.lit7, Dl.tit7, Dl.lit8, Dl.tit8, Dl.lit9, Dl.tit9, Dl.lit10, Dl.tit10, Dl.lit11, Dl.tit11, Dl.lit12, Dl.tit12, Dl.lit13, Dl.tit13, Dl.lit14, Dl.tit14, Dl.lit15, Dl.tit15, Dl.lit16, Dl.tit16, Dl.lit17, Dl.tit17, Dl.lit18, Dl.tit18, Dl.lit19, Dl.tit19, Dl.lit20, Dl.tit20, Dl.z0, Dl.z1, Dl.z2, Dl.z3, Dl.z4, Dl.x1, Dl.x2, Dl.x3, Dl.x4, Dl.x5, Dl.x6, Dl.x7, Dl.x8, Dl.x9, Dl.x10, Dl.x11, Dl.x12, Dl.x13, Dl.x14, Dl.x15, Dl.x16, Dl.x17, Dl.x18, Dl.x19, Dl.x20, Dl.x21, Dl.x22, Dl.x23, Dl.x24, Dl.x25, Dl.x26, Dl.x27, Dl.x28, Dl.x29, Dl.x30, Dl.x31, Dl.x32, Dl.x33, Dl.x34, Dl.x35, Dl.x36, Dl.x37, Dl.x38, Dl.x39, Dl.x40, Dl.x41, Dl.x42, Dl.x43, Dl.x44, Dl.x45, Dl.x46, Dl.x47, Dl.x48, Dl.x49, Dl.x50, Dl.x51, Dl.x52, Dl.x53, Dl.x54, Dl.x55, Dl.x56, Dl.x57, Dl.x58, Dl.x59, Dl.x60, Dl.x61, Dl.x62, Dl.x63, Dl.x64, Dl.x65, Dl.x66, Dl.x67, Dl.x68, Dl.x69, Dl.t_int_dict, Dl.t_str_dict, Dl.t_bool_dict, Dl.t_list_dict, Dl.t_tuple_dict, Dl.ln1, Dl.ln2, Dl.ln3, Dl.ln4, Dl.ln5, Dl.ln6, Dl.ln7, Dl.ln8, Dl.ln9, Dl.ln10, Dl.ln11, Dl.ln12, Dl.ln13, Dl.ln14, Dl.ln15, Dl.ln16, Dl.ln17, Dl.ln18, Dl.ln19, Dl.ln20, Dl.u1, Dl.u2, Dl.v1, Dl.v2, Dl.v3, Dl.v4, Dl.v5, Dl.v6, Dl.x72, Dl.x73, Dl.x74, Dl.x75, Dl.x76, Dl.x77, Dl.x78, Dl.t_int_none, Dl.t_int_bool, Dl.t_int_int, Dl.t_int_str, Dl.t_int_list, Dl.t_int_tuple, Dl.t_str_none, Dl.t_str_bool, Dl.t_str_int, Dl.t_str_str, Dl.t_str_list, Dl.t_str_tuple, Dl.t_bool_none, Dl.t_bool_bool, Dl.t_bool_int, Dl.t_bool_str, Dl.t_bool_list, Dl.t_bool_tuple, Dl.t_list_none, Dl.t_list_bool, Dl.t_list_int, Dl.t_list_str, Dl.t_list_list, Dl.t_list_tuple, Dl.t_tuple_none, Dl.t_tuple_bool, Dl.t_tuple_int, Dl.t_tuple_str, Dl.t_tuple_list, Dl.t_tuple_tuple, Dl.ch1, Dl.ch2, Dl.ch3, Dl.ch4, Dl.ch5, Dl.x80, Dl.x81, Dl.x82, Dl.x83, Dl.x84, Dl.x85, Dl.x86, Dl.x87, Dl.x88, Dl.x89, Dl.x90, Dl.x91, Dl.x92, Dl.x93, Dl.x94, Dl.x95, Dl.x96, Dl.x97, Dl.x98, Dl.x99, Dl.x100, Dl.x101, Dl.x102, Dl.x103, Dl.x104, Dl.x105, Dl.x106, Dl.x107, Dl.x108, Dl.x109, Dl.x110, Dl.y1, Dl.y2, Dl.y3, Dl.y4, Dl.y5, Dl.y6, Dl.y7, Dl.y8, Dl.y9, Dl.y10, Dl.y11, Dl.y12, Dl.y13, Dl.y15, Dl.y16, Dl.y22, Dl.y23,
  List.cons_append, List.nil_append, List.append_nil, List.map_cons, List.map_nil, if_true, if_false, Bool.not_true, Bool.not_false, Bool.or_false, Bool.or_self, Bool.false_eq_true, Option.map_some, List.set_cons_zero, List.set_cons_succ, List.length_cons, List.length_nil, reduceIte, decide_true, decide_false, reduceCtorEq, Dl.y14 (le16 hl), hm, putO_lk h7, hn]
theorem st10 {L : Str} {it : Dat} {g : Bool} (h1 : out (m_is_word [.dat (.str L), .dat it]) = .v (.dat (.bool g))) 
    (a0 a1 a3 a5 a6 a7 a8 a9 b0 b1 : Slot)
    (hn : out (endF (b_law_11 [a0, a1, .dat (.str L), a3, .dat it, a5, a6, a7, a8, a9, b0, b1, .dat (.bool g), .un, .un, .un, .un, .un, .un, .un])) = .v (.dat (.bool true))) :
    out (endF (b_law_10 [a0, a1, .dat (.str L), a3, .dat it, a5, a6, a7, a8, a9, b0, b1, .dat (.bool g), .un, .un, .un, .un, .un, .un, .un])) = .v (.dat (.bool true)) := by
  unfold b_law_10
  simp only [Dl.e_var, Dl.e_bin, Dl.e_tb, Dl.e_tru, Dl.e_and, Dl.e_or, Dl.e_not, Dl.e_if, Dl.s_if, Dl.e_andV, Dl.e_orV, Dl.e_notV, Dl.e_args, Dl.e_set, Dl.e_setA, Dl.e_rdA, Dl.e_tup, Dl.e_lst, Dl.e_prim, Dl.s_seq, Dl.s_set, Dl.putV_eq, Dl.s_put, Dl.s_aug, Dl.e_call, Dl.e_callR, Dl.refO_d, Dl.refO_c, Dl.e_callS, Dl.e_isi, Dl.e_cut, Dl.e_part, Dl.e_neg, Dl.e_rev, Dl.s_expr, Dl.s_ret, Dl.s_unp, Dl.s_par, Dl.s_for, Dl.e_mut, Dl.e_meth, Dl.at0, Dl.at1, Dl.at2, Dl.at3, Dl.at4, Dl.at5, Dl.at6, Dl.at7, Dl.eq_int, Dl.eq_str, Dl.ne_int, Dl.ne_str, Dl.x113, Dl.s_for, Dl.w1, Dl.w2, Dl.w3, Dl.w4, Dl.w5, Dl.w6, Dl.w7, Dl.w8, Dl.w9, Dl.w10, Dl.w11, Dl.w12, Dl.w13, Dl.w14, Dl.w15, Dl.w16, Dl.w17, Dl.w18, Dl.w19, Dl.w20, Dl.w21, Dl.w22, Dl.w23, Dl.w24, Dl.w25, Dl.w26, Dl.w27, Dl.w28, Dl.w29, Dl.w30, Dl.w31, Dl.w32, Dl.w33, Dl.w34, Dl.w35, Dl.w36, Dl.w37, Dl.w39, Dl.w40, Dl.lit0, Dl.tit0, Dl.lit1, Dl.tit1, Dl.lit2, Dl.tit2, Dl.lit3, Dl.tit3, Dl.lit4, Dl.tit4, Dl.lit5, Dl.tit5, Dl.lit6, Dl.tit6, Dl.lit7, Dl.tit7, Dl.lit8, Dl.tit8, Dl.lit9, Dl.tit9, Dl.lit10, Dl.tit10, Dl.lit11, Dl.tit11, Dl.lit12, Dl.tit12, Dl.lit13, Dl.tit13, Dl.lit14, Dl.tit14, Dl.lit15, Dl.tit15, Dl.lit16, Dl.tit16, Dl.lit17, Dl.tit17, Dl.lit18, Dl.tit18, Dl.lit19, Dl.tit19, Dl.lit20, Dl.tit20, Dl.z0, Dl.z1, Dl.z2, Dl.z3, Dl.z4, Dl.x1, Dl.x2, Dl.x3, Dl.x4, Dl.x5, Dl.x6, Dl.x7, Dl.x8, Dl.x9, Dl.x10, Dl.x11, Dl.x12, Dl.x13, Dl.x14, Dl.x15, Dl.x16, Dl.x17, Dl.x18, Dl.x19, Dl.x20, Dl.x21, Dl.x22, Dl.x23, Dl.x24, Dl.x25, Dl.x26, Dl.x27, Dl.x28, Dl.x29, Dl.x30, Dl.x31, Dl.x32, Dl.x33, Dl.x34, Dl.x35, Dl.x36, Dl.x37, Dl.x38, Dl.x39, Dl.x40, Dl.x41, Dl.x42, Dl.x43, Dl.x44, Dl.x45, Dl.x46, Dl.x47, Dl.x48, Dl.x49, Dl.x50, Dl.x51, Dl.x52, Dl.x53, Dl.x54, Dl.x55, Dl.x56, Dl.x57, Dl.x58, Dl.x59, Dl.x60, Dl.x61, Dl.x62, Dl.x63, Dl.x64, Dl.x65, Dl.x66, Dl.x67, Dl.x68, Dl.x69, Dl.t_int_dict, Dl.t_str_dict, Dl.t_bool_dict, Dl.t_list_dict, Dl.t_tuple_dict, Dl.ln1, Dl.ln2, Dl.ln3, Dl.ln4, Dl.ln5, Dl.ln6, Dl.ln7, Dl.ln8, Dl.ln9, Dl.ln10, Dl.ln11, Dl.ln12, Dl.ln13, Dl.ln14, Dl.ln15, Dl.ln16, Dl.ln17, Dl.ln18, Dl.ln19, Dl.ln20, Dl.u1, Dl.u2, Dl.v1, Dl.v2, Dl.v3, Dl.v4, Dl.v5, Dl.v6, Dl.x72, Dl.x73, Dl.x74, Dl.x75, Dl.x76, Dl.x77, Dl.x78, Dl.t_int_none, Dl.t_int_bool, Dl.t_int_int, Dl.t_int_str, Dl.t_int_list, Dl.t_int_tuple, Dl.t_str_none, Dl.t_str_bool, Dl.t_str_int, Dl.t_str_str, Dl.t_str_list, Dl.t_str_tuple, Dl.t_bool_none, Dl.t_bool_bool, Dl.t_bool_int, Dl.t_bool_str, Dl.t_bool_list, Dl.t_bool_tuple, Dl.t_list_none, Dl.t_list_bool, Dl.t_list_int, Dl.t_list_str, Dl.t_list_list, Dl.t_list_tuple, Dl.t_tuple_none, Dl.t_tuple_bool, Dl.t_tuple_int, Dl.t_tuple_str, Dl.t_tuple_list, Dl.t_tuple_tuple, Dl.ch1, Dl.ch2, Dl.ch3, Dl.ch4, Dl.ch5, Dl.x80, Dl.x81, Dl.x82, Dl.x83, Dl.x84, Dl.x85, Dl.x86, Dl.x87, Dl.x88, Dl.x89, Dl.x90, Dl.x91, Dl.x92, Dl.x93, Dl.x94, Dl.x95, Dl.x96, Dl.x97, Dl.x98, Dl.x99, Dl.x100, Dl.x101, Dl.x102, Dl.x103, Dl.x104, Dl.x105, Dl.x106, Dl.x107, Dl.x108, Dl.x109, Dl.x110, Dl.y1, Dl.y2, Dl.y3, Dl.y4, Dl.y5, Dl.y6, Dl.y7, Dl.y8, Dl.y9, Dl.y10, Dl.y11, Dl.y12, Dl.y13, Dl.y15, Dl.y16, Dl.y22, Dl.y23,
  List.cons_append, List.nil_append, List.append_nil, List.map_cons, List.map_nil, if_true, if_false, Bool.not_true, Bool.not_false, Bool.or_false, Bool.or_self, Bool.false_eq_true, Option.map_some, List.set_cons_zero, List.set_cons_succ, List.length_cons, List.length_nil, reduceIte, decide_true, decide_false, reduceCtorEq, h1, is_bl, hn]
theorem st9 {L : Str} {it : Dat} (hs : smallStr it)
    (a0 a1 a3 a5 a6 a7 a8 a9 b0 b1 : Slot)
    (hn : out (endF (b_law_10 [a0, a1, .dat (.str L), a3, .dat it, a5, a6, a7, a8, a9, b0, b1, .dat (.bool (wordOk L it)), .un, .un, .un, .un, .un, .un, .un])) = .v (.dat (.bool true))) :
    out (endF (b_law_9 [a0, a1, .dat (.str L), a3, .dat it, a5, a6, a7, a8, a9, b0, b1, .un, .un, .un, .un, .un, .un, .un, .un])) = .v (.dat (.bool true)) := by
  unfold b_law_9
  rw [Dl.s_seq, Dl.s_set, good_ok L it hs]
  simp only [Dl.e_var, Dl.e_bin, Dl.e_tb, Dl.e_tru, Dl.e_and, Dl.e_or, Dl.e_not, Dl.e_if, Dl.s_if, Dl.e_andV, Dl.e_orV, Dl.e_notV, Dl.e_args, Dl.e_set, Dl.e_setA, Dl.e_rdA, Dl.e_tup, Dl.e_lst, Dl.e_prim, Dl.s_seq, Dl.s_set, Dl.putV_eq, Dl.s_put, Dl.s_aug, Dl.e_call, Dl.e_callR, Dl.refO_d, Dl.refO_c, Dl.e_callS, Dl.e_isi, Dl.e_cut, Dl.e_part, Dl.e_neg, Dl.e_rev, Dl.s_expr, Dl.s_ret, Dl.s_unp, Dl.s_par, Dl.s_for, Dl.e_mut, Dl.e_meth, Dl.at0, Dl.at1, Dl.at2, Dl.at3, Dl.at4, Dl.at5, Dl.at6, Dl.at7, Dl.eq_int, Dl.eq_str, Dl.ne_int, Dl.ne_str, Dl.x113, Dl.s_for, Dl.w1, Dl.w2, Dl.w3, Dl.w4, Dl.w5, Dl.w6, Dl.w7, Dl.w8, Dl.w9, Dl.w10, Dl.w11, Dl.w12, Dl.w13, Dl.w14, Dl.w15, Dl.w16, Dl.w17, Dl.w18, Dl.w19, Dl.w20, Dl.w21, Dl.w22, Dl.w23, Dl.w24, Dl.w25, Dl.w26, Dl.w27, Dl.w28, Dl.w29, Dl.w30, Dl.w31, Dl.w32, Dl.w33, Dl.w34, Dl.w35, Dl.w36, Dl.w37, Dl.w39, Dl.w40, Dl.lit0, Dl.tit0, Dl.lit1, Dl.tit1, Dl.lit2, Dl.tit2, Dl.lit3, Dl.tit3, Dl.lit4, Dl.tit4, Dl.lit5, Dl.tit5, Dl.lit6, Dl.tit6, Dl.lit7, Dl.tit7, Dl.lit8, Dl.tit8, Dl.lit9, Dl.tit9, Dl.lit10, Dl.tit10, Dl.lit11, Dl.tit11, Dl.lit12, Dl.tit12, Dl.lit13, Dl.tit13, Dl.lit14, Dl.tit14, Dl.lit15, Dl.tit15, Dl.lit16, Dl.tit16, Dl.lit17, Dl.tit17, Dl.lit18, Dl.tit18, Dl.lit19, Dl.tit19, Dl.lit20, Dl.tit20, Dl.z0, Dl.z1, Dl.z2, Dl.z3, Dl.z4, Dl.x1, Dl.x2, Dl.x3, Dl.x4, Dl.x5, Dl.x6, Dl.x7, Dl.x8, Dl.x9, Dl.x10, Dl.x11, Dl.x12, Dl.x13, Dl.x14, Dl.x15, Dl.x16, Dl.x17, Dl.x18, Dl.x19, Dl.x20, Dl.x21, Dl.x22, Dl.x23, Dl.x24, Dl.x25, Dl.x26, Dl.x27, Dl.x28, Dl.x29, Dl.x30, Dl.x31, Dl.x32, Dl.x33, Dl.x34, Dl.x35, Dl.x36, Dl.x37, Dl.x38, Dl.x39, Dl.x40, Dl.x41, Dl.x42, Dl.x43, Dl.x44, Dl.x45, Dl.x46, Dl.x47, Dl.x48, Dl.x49, Dl.x50, Dl.x51, Dl.x52, Dl.x53, Dl.x54, Dl.x55, Dl.x56, Dl.x57, Dl.x58, Dl.x59, Dl.x60, Dl.x61, Dl.x62, Dl.x63, Dl.x64, Dl.x65, Dl.x66, Dl.x67, Dl.x68, Dl.x69, Dl.t_int_dict, Dl.t_str_dict, Dl.t_bool_dict, Dl.t_list_dict, Dl.t_tuple_dict, Dl.ln1, Dl.ln2, Dl.ln3, Dl.ln4, Dl.ln5, Dl.ln6, Dl.ln7, Dl.ln8, Dl.ln9, Dl.ln10, Dl.ln11, Dl.ln12, Dl.ln13, Dl.ln14, Dl.ln15, Dl.ln16, Dl.ln17, Dl.ln18, Dl.ln19, Dl.ln20, Dl.u1, Dl.u2, Dl.v1, Dl.v2, Dl.v3, Dl.v4, Dl.v5, Dl.v6, Dl.x72, Dl.x73, Dl.x74, Dl.x75, Dl.x76, Dl.x77, Dl.x78, Dl.t_int_none, Dl.t_int_bool, Dl.t_int_int, Dl.t_int_str, Dl.t_int_list, Dl.t_int_tuple, Dl.t_str_none, Dl.t_str_bool, Dl.t_str_int, Dl.t_str_str, Dl.t_str_list, Dl.t_str_tuple, Dl.t_bool_none, Dl.t_bool_bool, Dl.t_bool_int, Dl.t_bool_str, Dl.t_bool_list, Dl.t_bool_tuple, Dl.t_list_none, Dl.t_list_bool, Dl.t_list_int, Dl.t_list_str, Dl.t_list_list, Dl.t_list_tuple, Dl.t_tuple_none, Dl.t_tuple_bool, Dl.t_tuple_int, Dl.t_tuple_str, Dl.t_tuple_list, Dl.t_tuple_tuple, Dl.ch1, Dl.ch2, Dl.ch3, Dl.ch4, Dl.ch5, Dl.x80, Dl.x81, Dl.x82, Dl.x83, Dl.x84, Dl.x85, Dl.x86, Dl.x87, Dl.x88, Dl.x89, Dl.x90, Dl.x91, Dl.x92, Dl.x93, Dl.x94, Dl.x95, Dl.x96, Dl.x97, Dl.x98, Dl.x99, Dl.x100, Dl.x101, Dl.x102, Dl.x103, Dl.x104, Dl.x105, Dl.x106, Dl.x107, Dl.x108, Dl.x109, Dl.x110, Dl.y1, Dl.y2, Dl.y3, Dl.y4, Dl.y5, Dl.y6, Dl.y7, Dl.y8, Dl.y9, Dl.y10, Dl.y11, Dl.y12, Dl.y13, Dl.y15, Dl.y16, Dl.y22, Dl.y23,
  List.cons_append, List.nil_append, List.append_nil, List.map_cons, List.map_nil, if_true, if_false, Bool.not_true, Bool.not_false, Bool.or_false, Bool.or_self, Bool.false_eq_true, Option.map_some, List.set_cons_zero, List.set_cons_succ, List.length_cons, List.length_nil, reduceIte, decide_true, decide_false, reduceCtorEq, hn]
theorem st8 {D D1 : Cel} {its : List Dat} {it : Dat} {v : Int} (e1 : outR (m__law_draw [.cel true D, .dat (.int 7)]) = (.v (.dat (.int v)), some D1)) (h : L2.atI its v = some it)
    (a0 a2 a3 a4 a5 a6 a7 a8 a9 b0 : Slot) (h4 : lkS a4 = false)
    (hn : out (endF (b_law_9 [a0, .cel false D1, a2, a3, .dat it, a5, a6, a7, a8, a9, b0, .cel false (.lst its), .un, .un, .un, .un, .un, .un, .un, .un])) = .v (.dat (.bool true))) :
    out (endF (b_law_8 [a0, .cel false D, a2, a3, a4, a5, a6, a7, a8, a9, b0, .cel false (.lst its), .un, .un, .un, .un, .un, .un, .un, .un])) = .v (.dat (.bool true)) := by
  unfold b_law_8
  simp only [Dl.e_var, Dl.e_bin, Dl.e_tb, Dl.e_tru, Dl.e_and, Dl.e_or, Dl.e_not, Dl.e_if, Dl.s_if, Dl.e_andV, Dl.e_orV, Dl.e_notV, Dl.e_args, Dl.e_set, Dl.e_setA, Dl.e_rdA, Dl.e_tup, Dl.e_lst, Dl.e_prim, Dl.s_seq, Dl.s_set, Dl.putV_eq, Dl.s_put, Dl.s_aug, Dl.e_call, Dl.e_callR, Dl.refO_d, Dl.refO_c, Dl.e_callS, Dl.e_isi, Dl.e_cut, Dl.e_part, Dl.e_neg, Dl.e_rev, Dl.s_expr, Dl.s_ret, Dl.s_unp, Dl.s_par, Dl.s_for, Dl.e_mut, Dl.e_meth, Dl.at0, Dl.at1, Dl.at2, Dl.at3, Dl.at4, Dl.at5, Dl.at6, Dl.at7, Dl.eq_int, Dl.eq_str, Dl.ne_int, Dl.ne_str, Dl.x113, Dl.s_for, Dl.w1, Dl.w2, Dl.w3, Dl.w4, Dl.w5, Dl.w6, Dl.w7, Dl.w8, Dl.w9, Dl.w10, Dl.w11, Dl.w12, Dl.w13, Dl.w14, Dl.w15, Dl.w16, Dl.w17, Dl.w18, Dl.w19, Dl.w20, Dl.w21, Dl.w22, Dl.w23, Dl.w24, Dl.w25, Dl.w26, Dl.w27, Dl.w28, Dl.w29, Dl.w30, Dl.w31, Dl.w32, Dl.w33, Dl.w34, Dl.w35, Dl.w36, Dl.w37, Dl.w39, Dl.w40, Dl.lit0, Dl.tit0, Dl.lit1, Dl.tit1, Dl.lit2, Dl.tit2, Dl.lit3, Dl.tit3, Dl.lit4, Dl.tit4, Dl.lit5, Dl.tit5, Dl.lit6, Dl.tit6, Dl.lit7, Dl.tit7, Dl.lit8, Dl.tit8, Dl.lit9, Dl.tit9, Dl.lit10, Dl.tit10, Dl.lit11, Dl.tit11, Dl.lit12, Dl.tit12, Dl.lit13, Dl.tit13, Dl.lit14, Dl.tit14, Dl.lit15, Dl.tit15, Dl.lit16, Dl.tit16, Dl.lit17, Dl.tit17, Dl.lit18, Dl.tit18, Dl.lit19, Dl.tit19, Dl.lit20, Dl.tit20, Dl.z0, Dl.z1, Dl.z2, Dl.z3, Dl.z4, Dl.x1, Dl.x2, Dl.x3, Dl.x4, Dl.x5, Dl.x6, Dl.x7, Dl.x8, Dl.x9, Dl.x10, Dl.x11, Dl.x12, Dl.x13, Dl.x14, Dl.x15, Dl.x16, Dl.x17, Dl.x18, Dl.x19, Dl.x20, Dl.x21, Dl.x22, Dl.x23, Dl.x24, Dl.x25, Dl.x26, Dl.x27, Dl.x28, Dl.x29, Dl.x30, Dl.x31, Dl.x32, Dl.x33, Dl.x34, Dl.x35, Dl.x36, Dl.x37, Dl.x38, Dl.x39, Dl.x40, Dl.x41, Dl.x42, Dl.x43, Dl.x44, Dl.x45, Dl.x46, Dl.x47, Dl.x48, Dl.x49, Dl.x50, Dl.x51, Dl.x52, Dl.x53, Dl.x54, Dl.x55, Dl.x56, Dl.x57, Dl.x58, Dl.x59, Dl.x60, Dl.x61, Dl.x62, Dl.x63, Dl.x64, Dl.x65, Dl.x66, Dl.x67, Dl.x68, Dl.x69, Dl.t_int_dict, Dl.t_str_dict, Dl.t_bool_dict, Dl.t_list_dict, Dl.t_tuple_dict, Dl.ln1, Dl.ln2, Dl.ln3, Dl.ln4, Dl.ln5, Dl.ln6, Dl.ln7, Dl.ln8, Dl.ln9, Dl.ln10, Dl.ln11, Dl.ln12, Dl.ln13, Dl.ln14, Dl.ln15, Dl.ln16, Dl.ln17, Dl.ln18, Dl.ln19, Dl.ln20, Dl.u1, Dl.u2, Dl.v1, Dl.v2, Dl.v3, Dl.v4, Dl.v5, Dl.v6, Dl.x72, Dl.x73, Dl.x74, Dl.x75, Dl.x76, Dl.x77, Dl.x78, Dl.t_int_none, Dl.t_int_bool, Dl.t_int_int, Dl.t_int_str, Dl.t_int_list, Dl.t_int_tuple, Dl.t_str_none, Dl.t_str_bool, Dl.t_str_int, Dl.t_str_str, Dl.t_str_list, Dl.t_str_tuple, Dl.t_bool_none, Dl.t_bool_bool, Dl.t_bool_int, Dl.t_bool_str, Dl.t_bool_list, Dl.t_bool_tuple, Dl.t_list_none, Dl.t_list_bool, Dl.t_list_int, Dl.t_list_str, Dl.t_list_list, Dl.t_list_tuple, Dl.t_tuple_none, Dl.t_tuple_bool, Dl.t_tuple_int, Dl.t_tuple_str, Dl.t_tuple_list, Dl.t_tuple_tuple, Dl.ch1, Dl.ch2, Dl.ch3, Dl.ch4, Dl.ch5, Dl.x80, Dl.x81, Dl.x82, Dl.x83, Dl.x84, Dl.x85, Dl.x86, Dl.x87, Dl.x88, Dl.x89, Dl.x90, Dl.x91, Dl.x92, Dl.x93, Dl.x94, Dl.x95, Dl.x96, Dl.x97, Dl.x98, Dl.x99, Dl.x100, Dl.x101, Dl.x102, Dl.x103, Dl.x104, Dl.x105, Dl.x106, Dl.x107, Dl.x108, Dl.x109, Dl.x110, Dl.y1, Dl.y2, Dl.y3, Dl.y4, Dl.y5, Dl.y6, Dl.y7, Dl.y8, Dl.y9, Dl.y10, Dl.y11, Dl.y12, Dl.y13, Dl.y15, Dl.y16, Dl.y22, Dl.y23,
  List.cons_append, List.nil_append, List.append_nil, List.map_cons, List.map_nil, if_true, if_false, Bool.not_true, Bool.not_false, Bool.or_false, Bool.or_self, Bool.false_eq_true, Option.map_some, List.set_cons_zero, List.set_cons_succ, List.length_cons, List.length_nil, reduceIte, decide_true, decide_false, reduceCtorEq, e1, h, putO_lk h4, hn]
theorem st7 {D D1 : Cel} {w wb w1 x : Str} {v : Int} {L : Str} (e1 : outR (m__law_draw [.cel true D, .dat (.int 5)]) = (.v (.dat (.int v)), some D1))
    (i0 : gIx (.str L) (.int 0) = some (.dat (.str (sg (c0 L))))) (hb : gAdd (.str w) (.str "b") = some (.dat (.str wb))) (h1 : gAdd (.str w) (.str "1") = some (.dat (.str w1))) (hm : gMul (.str (sg (c0 L))) (.int (58 + v)) = some (.dat (.str x)))
    (a0 a3 a4 a5 a6 a7 a8 a9 : Slot)
    (hn : out (endF (b_law_8 [a0, .cel false D1, .dat (.str L), a3, a4, a5, a6, a7, a8, a9, .dat (.str w), .cel false (.lst [.str w, .str wb, .str w1, .none, .list [.str w], .str x, .str ""]), .un, .un, .un, .un, .un, .un, .un, .un])) = .v (.dat (.bool true))) :
    out (endF (b_law_7 [a0, .cel false D, .dat (.str L), a3, a4, a5, a6, a7, a8, a9, .dat (.str w), .un, .un, .un, .un, .un, .un, .un, .un, .un])) = .v (.dat (.bool true)) := by
  unfold b_law_7
  simp only [Dl.e_var, Dl.e_bin, Dl.e_tb, Dl.e_tru, Dl.e_and, Dl.e_or, Dl.e_not, Dl.e_if, Dl.s_if, Dl.e_andV, Dl.e_orV, Dl.e_notV, Dl.e_args, Dl.e_set, Dl.e_setA, Dl.e_rdA, Dl.e_tup, Dl.e_lst, Dl.e_prim, Dl.s_seq, Dl.s_set, Dl.putV_eq, Dl.s_put, Dl.s_aug, Dl.e_call, Dl.e_callR, Dl.refO_d, Dl.refO_c, Dl.e_callS, Dl.e_isi, Dl.e_cut, Dl.e_part, Dl.e_neg, Dl.e_rev, Dl.s_expr, Dl.s_ret, Dl.s_unp, Dl.s_par, Dl.s_for, Dl.e_mut, Dl.e_meth, Dl.at0, Dl.at1, Dl.at2, Dl.at3, Dl.at4, Dl.at5, Dl.at6, Dl.at7, Dl.eq_int, Dl.eq_str, Dl.ne_int, Dl.ne_str, Dl.x113, Dl.s_for, Dl.w1, Dl.w2, Dl.w3, Dl.w4, Dl.w5, Dl.w6, Dl.w7, Dl.w8, Dl.w9, Dl.w10, Dl.w11, Dl.w12, Dl.w13, Dl.w14, Dl.w15, Dl.w16, Dl.w17, Dl.w18, Dl.w19, Dl.w20, Dl.w21, Dl.w22, Dl.w23, Dl.w24, Dl.w25, Dl.w26, Dl.w27, Dl.w28, Dl.w29, Dl.w30, Dl.w31, Dl.w32, Dl.w33, Dl.w34, Dl.w35, Dl.w36, Dl.w37, Dl.w39, Dl.w40, Dl.lit0, Dl.tit0, Dl.lit1, Dl.tit1, Dl.lit2, Dl.tit2, Dl.lit3, Dl.tit3, Dl.lit4, Dl.tit4, Dl.lit5, Dl.tit5, Dl.lit6, Dl.tit6, Dl.lit7, Dl.tit7, Dl.lit8, Dl.tit8, Dl.lit9, Dl.tit9, Dl.lit10, Dl.tit10, Dl.lit11, Dl.tit11, Dl.lit12, Dl.tit12, Dl.lit13, Dl.tit13, Dl.lit14, Dl.tit14, Dl.lit15, Dl.tit15, Dl.lit16, Dl.tit16, Dl.lit17, Dl.tit17, Dl.lit18, Dl.tit18, Dl.lit19, Dl.tit19, Dl.lit20, Dl.tit20, Dl.z0, Dl.z1, Dl.z2, Dl.z3, Dl.z4, Dl.x1, Dl.x2, Dl.x3, Dl.x4, Dl.x5, Dl.x6, Dl.x7, Dl.x8, Dl.x9, Dl.x10, Dl.x11, Dl.x12, Dl.x13, Dl.x14, Dl.x15, Dl.x16, Dl.x17, Dl.x18, Dl.x19, Dl.x20, Dl.x21, Dl.x22, Dl.x23, Dl.x24, Dl.x25, Dl.x26, Dl.x27, Dl.x28, Dl.x29, Dl.x30, Dl.x31, Dl.x32, Dl.x33, Dl.x34, Dl.x35, Dl.x36, Dl.x37, Dl.x38, Dl.x39, Dl.x40, Dl.x41, Dl.x42, Dl.x43, Dl.x44, Dl.x45, Dl.x46, Dl.x47, Dl.x48, Dl.x49, Dl.x50, Dl.x51, Dl.x52, Dl.x53, Dl.x54, Dl.x55, Dl.x56, Dl.x57, Dl.x58, Dl.x59, Dl.x60, Dl.x61, Dl.x62, Dl.x63, Dl.x64, Dl.x65, Dl.x66, Dl.x67, Dl.x68, Dl.x69, Dl.t_int_dict, Dl.t_str_dict, Dl.t_bool_dict, Dl.t_list_dict, Dl.t_tuple_dict, Dl.ln1, Dl.ln2, Dl.ln3, Dl.ln4, Dl.ln5, Dl.ln6, Dl.ln7, Dl.ln8, Dl.ln9, Dl.ln10, Dl.ln11, Dl.ln12, Dl.ln13, Dl.ln14, Dl.ln15, Dl.ln16, Dl.ln17, Dl.ln18, Dl.ln19, Dl.ln20, Dl.u1, Dl.u2, Dl.v1, Dl.v2, Dl.v3, Dl.v4, Dl.v5, Dl.v6, Dl.x72, Dl.x73, Dl.x74, Dl.x75, Dl.x76, Dl.x77, Dl.x78, Dl.t_int_none, Dl.t_int_bool, Dl.t_int_int, Dl.t_int_str, Dl.t_int_list, Dl.t_int_tuple, Dl.t_str_none, Dl.t_str_bool, Dl.t_str_int, Dl.t_str_str, Dl.t_str_list, Dl.t_str_tuple, Dl.t_bool_none, Dl.t_bool_bool, Dl.t_bool_int, Dl.t_bool_str, Dl.t_bool_list, Dl.t_bool_tuple, Dl.t_list_none, Dl.t_list_bool, Dl.t_list_int, Dl.t_list_str, Dl.t_list_list, Dl.t_list_tuple, Dl.t_tuple_none, Dl.t_tuple_bool, Dl.t_tuple_int, Dl.t_tuple_str, Dl.t_tuple_list, Dl.t_tuple_tuple, Dl.ch1, Dl.ch2, Dl.ch3, Dl.ch4, Dl.ch5, Dl.x80, Dl.x81, Dl.x82, Dl.x83, Dl.x84, Dl.x85, Dl.x86, Dl.x87, Dl.x88, Dl.x89, Dl.x90, Dl.x91, Dl.x92, Dl.x93, Dl.x94, Dl.x95, Dl.x96, Dl.x97, Dl.x98, Dl.x99, Dl.x100, Dl.x101, Dl.x102, Dl.x103, Dl.x104, Dl.x105, Dl.x106, Dl.x107, Dl.x108, Dl.x109, Dl.x110, Dl.y1, Dl.y2, Dl.y3, Dl.y4, Dl.y5, Dl.y6, Dl.y7, Dl.y8, Dl.y9, Dl.y10, Dl.y11, Dl.y12, Dl.y13, Dl.y15, Dl.y16, Dl.y22, Dl.y23,
  List.cons_append, List.nil_append, List.append_nil, List.map_cons, List.map_nil, if_true, if_false, Bool.not_true, Bool.not_false, Bool.or_false, Bool.or_self, Bool.false_eq_true, Option.map_some, List.set_cons_zero, List.set_cons_succ, List.length_cons, List.length_nil, reduceIte, decide_true, decide_false, reduceCtorEq, e1, i0, hb, h1, hm, hn]
theorem st6 {D D1 : Cel} {w L : Str} (e1 : outR (m__law_word [.cel true D, .dat (.str L), .dat (.int 12)]) = (.v (.dat (.str w)), some D1))
    (a0 a3 a4 a5 a6 a7 a8 a9 : Slot)
    (hn : out (endF (b_law_7 [a0, .cel false D1, .dat (.str L), a3, a4, a5, a6, a7, a8, a9, .dat (.str w), .un, .un, .un, .un, .un, .un, .un, .un, .un])) = .v (.dat (.bool true))) :
    out (endF (b_law_6 [a0, .cel false D, .dat (.str L), a3, a4, a5, a6, a7, a8, a9, .un, .un, .un, .un, .un, .un, .un, .un, .un, .un])) = .v (.dat (.bool true)) := by
  unfold b_law_6
  simp only [Dl.e_var, Dl.e_bin, Dl.e_tb, Dl.e_tru, Dl.e_and, Dl.e_or, Dl.e_not, Dl.e_if, Dl.s_if, Dl.e_andV, Dl.e_orV, Dl.e_notV, Dl.e_args, Dl.e_set, Dl.e_setA, Dl.e_rdA, Dl.e_tup, Dl.e_lst, Dl.e_prim, Dl.s_seq, Dl.s_set, Dl.putV_eq, Dl.s_put, Dl.s_aug, Dl.e_call, Dl.e_callR, Dl.refO_d, Dl.refO_c, Dl.e_callS, Dl.e_isi, Dl.e_cut, Dl.e_part, Dl.e_neg, Dl.e_rev, Dl.s_expr, Dl.s_ret, Dl.s_unp, Dl.s_par, Dl.s_for, Dl.e_mut, Dl.e_meth, Dl.at0, Dl.at1, Dl.at2, Dl.at3, Dl.at4, Dl.at5, Dl.at6, Dl.at7, Dl.eq_int, Dl.eq_str, Dl.ne_int, Dl.ne_str, Dl.x113, Dl.s_for, Dl.w1, Dl.w2, Dl.w3, Dl.w4, Dl.w5, Dl.w6, Dl.w7, Dl.w8, Dl.w9, Dl.w10, Dl.w11, Dl.w12, Dl.w13, Dl.w14, Dl.w15, Dl.w16, Dl.w17, Dl.w18, Dl.w19, Dl.w20, Dl.w21, Dl.w22, Dl.w23, Dl.w24, Dl.w25, Dl.w26, Dl.w27, Dl.w28, Dl.w29, Dl.w30, Dl.w31, Dl.w32, Dl.w33, Dl.w34, Dl.w35, Dl.w36, Dl.w37, Dl.w39, Dl.w40, Dl.lit0, Dl.tit0, Dl.lit1, Dl.tit1, Dl.lit2, Dl.tit2, Dl.lit3, Dl.tit3, Dl.lit4, Dl.tit4, Dl.lit5, Dl.tit5, Dl.lit6, Dl.tit6, Dl.lit7, Dl.tit7, Dl.lit8, Dl.tit8, Dl.lit9, Dl.tit9, Dl.lit10, Dl.tit10, Dl.lit11, Dl.tit11, Dl.lit12, Dl.tit12, Dl.lit13, Dl.tit13, Dl.lit14, Dl.tit14, Dl.lit15, Dl.tit15, Dl.lit16, Dl.tit16, Dl.lit17, Dl.tit17, Dl.lit18, Dl.tit18, Dl.lit19, Dl.tit19, Dl.lit20, Dl.tit20, Dl.z0, Dl.z1, Dl.z2, Dl.z3, Dl.z4, Dl.x1, Dl.x2, Dl.x3, Dl.x4, Dl.x5, Dl.x6, Dl.x7, Dl.x8, Dl.x9, Dl.x10, Dl.x11, Dl.x12, Dl.x13, Dl.x14, Dl.x15, Dl.x16, Dl.x17, Dl.x18, Dl.x19, Dl.x20, Dl.x21, Dl.x22, Dl.x23, Dl.x24, Dl.x25, Dl.x26, Dl.x27, Dl.x28, Dl.x29, Dl.x30, Dl.x31, Dl.x32, Dl.x33, Dl.x34, Dl.x35, Dl.x36, Dl.x37, Dl.x38, Dl.x39, Dl.x40, Dl.x41, Dl.x42, Dl.x43, Dl.x44, Dl.x45, Dl.x46, Dl.x47, Dl.x48, Dl.x49, Dl.x50, Dl.x51, Dl.x52, Dl.x53, Dl.x54, Dl.x55, Dl.x56, Dl.x57, Dl.x58, Dl.x59, Dl.x60, Dl.x61, Dl.x62, Dl.x63, Dl.x64, Dl.x65, Dl.x66, Dl.x67, Dl.x68, Dl.x69, Dl.t_int_dict, Dl.t_str_dict, Dl.t_bool_dict, Dl.t_list_dict, Dl.t_tuple_dict, Dl.ln1, Dl.ln2, Dl.ln3, Dl.ln4, Dl.ln5, Dl.ln6, Dl.ln7, Dl.ln8, Dl.ln9, Dl.ln10, Dl.ln11, Dl.ln12, Dl.ln13, Dl.ln14, Dl.ln15, Dl.ln16, Dl.ln17, Dl.ln18, Dl.ln19, Dl.ln20, Dl.u1, Dl.u2, Dl.v1, Dl.v2, Dl.v3, Dl.v4, Dl.v5, Dl.v6, Dl.x72, Dl.x73, Dl.x74, Dl.x75, Dl.x76, Dl.x77, Dl.x78, Dl.t_int_none, Dl.t_int_bool, Dl.t_int_int, Dl.t_int_str, Dl.t_int_list, Dl.t_int_tuple, Dl.t_str_none, Dl.t_str_bool, Dl.t_str_int, Dl.t_str_str, Dl.t_str_list, Dl.t_str_tuple, Dl.t_bool_none, Dl.t_bool_bool, Dl.t_bool_int, Dl.t_bool_str, Dl.t_bool_list, Dl.t_bool_tuple, Dl.t_list_none, Dl.t_list_bool, Dl.t_list_int, Dl.t_list_str, Dl.t_list_list, Dl.t_list_tuple, Dl.t_tuple_none, Dl.t_tuple_bool, Dl.t_tuple_int, Dl.t_tuple_str, Dl.t_tuple_list, Dl.t_tuple_tuple, Dl.ch1, Dl.ch2, Dl.ch3, Dl.ch4, Dl.ch5, Dl.x80, Dl.x81, Dl.x82, Dl.x83, Dl.x84, Dl.x85, Dl.x86, Dl.x87, Dl.x88, Dl.x89, Dl.x90, Dl.x91, Dl.x92, Dl.x93, Dl.x94, Dl.x95, Dl.x96, Dl.x97, Dl.x98, Dl.x99, Dl.x100, Dl.x101, Dl.x102, Dl.x103, Dl.x104, Dl.x105, Dl.x106, Dl.x107, Dl.x108, Dl.x109, Dl.x110, Dl.y1, Dl.y2, Dl.y3, Dl.y4, Dl.y5, Dl.y6, Dl.y7, Dl.y8, Dl.y9, Dl.y10, Dl.y11, Dl.y12, Dl.y13, Dl.y15, Dl.y16, Dl.y22, Dl.y23,
  List.cons_append, List.nil_append, List.append_nil, List.map_cons, List.map_nil, if_true, if_false, Bool.not_true, Bool.not_false, Bool.or_false, Bool.or_self, Bool.false_eq_true, Option.map_some, List.set_cons_zero, List.set_cons_succ, List.length_cons, List.length_nil, reduceIte, decide_true, decide_false, reduceCtorEq, e1, hn]
theorem st5 {d : Dat} {b : Bool} (il : out (m_is_letters [.dat d]) = .v (.dat (.bool b))) (iin : gIn d (.list [.str "ab", .str "a", .str "xyz", .str "az"]) = some (.dat (.bool b)))
    (a0 a1 a2 a3 a5 a6 a7 a8 a9 : Slot)
    (hn : out (endF (b_law_6 [a0, a1, a2, a3, .dat d, a5, a6, a7, a8, a9, .un, .un, .un, .un, .un, .un, .un, .un, .un, .un])) = .v (.dat (.bool true))) :
    out (endF (b_law_5 [a0, a1, a2, a3, .dat d, a5, a6, a7, a8, a9, .un, .un, .un, .un, .un, .un, .un, .un, .un, .un])) = .v (.dat (.bool true)) := by
  unfold b_law_5
  simp only [Dl.e_var, Dl.e_bin, Dl.e_tb, Dl.e_tru, Dl.e_and, Dl.e_or, Dl.e_not, Dl.e_if, Dl.s_if, Dl.e_andV, Dl.e_orV, Dl.e_notV, Dl.e_args, Dl.e_set, Dl.e_setA, Dl.e_rdA, Dl.e_tup, Dl.e_lst, Dl.e_prim, Dl.s_seq, Dl.s_set, Dl.putV_eq, Dl.s_put, Dl.s_aug, Dl.e_call, Dl.e_callR, Dl.refO_d, Dl.refO_c, Dl.e_callS, Dl.e_isi, Dl.e_cut, Dl.e_part, Dl.e_neg, Dl.e_rev, Dl.s_expr, Dl.s_ret, Dl.s_unp, Dl.s_par, Dl.s_for, Dl.e_mut, Dl.e_meth, Dl.at0, Dl.at1, Dl.at2, Dl.at3, Dl.at4, Dl.at5, Dl.at6, Dl.at7, Dl.eq_int, Dl.eq_str, Dl.ne_int, Dl.ne_str, Dl.x113, Dl.s_for, Dl.w1, Dl.w2, Dl.w3, Dl.w4, Dl.w5, Dl.w6, Dl.w7, Dl.w8, Dl.w9, Dl.w10, Dl.w11, Dl.w12, Dl.w13, Dl.w14, Dl.w15, Dl.w16, Dl.w17, Dl.w18, Dl.w19, Dl.w20, Dl.w21, Dl.w22, Dl.w23, Dl.w24, Dl.w25, Dl.w26, Dl.w27, Dl.w28, Dl.w29, Dl.w30, Dl.w31, Dl.w32, Dl.w33, Dl.w34, Dl.w35, Dl.w36, Dl.w37, Dl.w39, Dl.w40, Dl.lit0, Dl.tit0, Dl.lit1, Dl.tit1, Dl.lit2, Dl.tit2, Dl.lit3, Dl.tit3, Dl.lit4, Dl.tit4, Dl.lit5, Dl.tit5, Dl.lit6, Dl.tit6, Dl.lit7, Dl.tit7, Dl.lit8, Dl.tit8, Dl.lit9, Dl.tit9, Dl.lit10, Dl.tit10, Dl.lit11, Dl.tit11, Dl.lit12, Dl.tit12, Dl.lit13, Dl.tit13, Dl.lit14, Dl.tit14, Dl.lit15, Dl.tit15, Dl.lit16, Dl.tit16, Dl.lit17, Dl.tit17, Dl.lit18, Dl.tit18, Dl.lit19, Dl.tit19, Dl.lit20, Dl.tit20, Dl.z0, Dl.z1, Dl.z2, Dl.z3, Dl.z4, Dl.x1, Dl.x2, Dl.x3, Dl.x4, Dl.x5, Dl.x6, Dl.x7, Dl.x8, Dl.x9, Dl.x10, Dl.x11, Dl.x12, Dl.x13, Dl.x14, Dl.x15, Dl.x16, Dl.x17, Dl.x18, Dl.x19, Dl.x20, Dl.x21, Dl.x22, Dl.x23, Dl.x24, Dl.x25, Dl.x26, Dl.x27, Dl.x28, Dl.x29, Dl.x30, Dl.x31, Dl.x32, Dl.x33, Dl.x34, Dl.x35, Dl.x36, Dl.x37, Dl.x38, Dl.x39, Dl.x40, Dl.x41, Dl.x42, Dl.x43, Dl.x44, Dl.x45, Dl.x46, Dl.x47, Dl.x48, Dl.x49, Dl.x50, Dl.x51, Dl.x52, Dl.x53, Dl.x54, Dl.x55, Dl.x56, Dl.x57, Dl.x58, Dl.x59, Dl.x60, Dl.x61, Dl.x62, Dl.x63, Dl.x64, Dl.x65, Dl.x66, Dl.x67, Dl.x68, Dl.x69, Dl.t_int_dict, Dl.t_str_dict, Dl.t_bool_dict, Dl.t_list_dict, Dl.t_tuple_dict, Dl.ln1, Dl.ln2, Dl.ln3, Dl.ln4, Dl.ln5, Dl.ln6, Dl.ln7, Dl.ln8, Dl.ln9, Dl.ln10, Dl.ln11, Dl.ln12, Dl.ln13, Dl.ln14, Dl.ln15, Dl.ln16, Dl.ln17, Dl.ln18, Dl.ln19, Dl.ln20, Dl.u1, Dl.u2, Dl.v1, Dl.v2, Dl.v3, Dl.v4, Dl.v5, Dl.v6, Dl.x72, Dl.x73, Dl.x74, Dl.x75, Dl.x76, Dl.x77, Dl.x78, Dl.t_int_none, Dl.t_int_bool, Dl.t_int_int, Dl.t_int_str, Dl.t_int_list, Dl.t_int_tuple, Dl.t_str_none, Dl.t_str_bool, Dl.t_str_int, Dl.t_str_str, Dl.t_str_list, Dl.t_str_tuple, Dl.t_bool_none, Dl.t_bool_bool, Dl.t_bool_int, Dl.t_bool_str, Dl.t_bool_list, Dl.t_bool_tuple, Dl.t_list_none, Dl.t_list_bool, Dl.t_list_int, Dl.t_list_str, Dl.t_list_list, Dl.t_list_tuple, Dl.t_tuple_none, Dl.t_tuple_bool, Dl.t_tuple_int, Dl.t_tuple_str, Dl.t_tuple_list, Dl.t_tuple_tuple, Dl.ch1, Dl.ch2, Dl.ch3, Dl.ch4, Dl.ch5, Dl.x80, Dl.x81, Dl.x82, Dl.x83, Dl.x84, Dl.x85, Dl.x86, Dl.x87, Dl.x88, Dl.x89, Dl.x90, Dl.x91, Dl.x92, Dl.x93, Dl.x94, Dl.x95, Dl.x96, Dl.x97, Dl.x98, Dl.x99, Dl.x100, Dl.x101, Dl.x102, Dl.x103, Dl.x104, Dl.x105, Dl.x106, Dl.x107, Dl.x108, Dl.x109, Dl.x110, Dl.y1, Dl.y2, Dl.y3, Dl.y4, Dl.y5, Dl.y6, Dl.y7, Dl.y8, Dl.y9, Dl.y10, Dl.y11, Dl.y12, Dl.y13, Dl.y15, Dl.y16, Dl.y22, Dl.y23,
  List.cons_append, List.nil_append, List.append_nil, List.map_cons, List.map_nil, if_true, if_false, Bool.not_true, Bool.not_false, Bool.or_false, Bool.or_self, Bool.false_eq_true, Option.map_some, List.set_cons_zero, List.set_cons_succ, List.length_cons, List.length_nil, reduceIte, decide_true, decide_false, reduceCtorEq, il, iin, is_bl, hn]
theorem st3 {D D1 : Cel} {d : Dat} {v : Int} (e1 : outR (m__law_draw [.cel true D, .dat (.int 15)]) = (.v (.dat (.int v)), some D1)) (hd : L2.atI R15 v = some d)
    (a0 a2 a3 a4 a5 a6 a7 a8 : Slot) (h4 : lkS a4 = false)
    (hn : out (endF (b_law_5 [a0, .cel false D1, a2, a3, .dat d, a5, a6, a7, a8, .cel false (.lst R15), .un, .un, .un, .un, .un, .un, .un, .un, .un, .un])) = .v (.dat (.bool true))) :
    out (endF (b_law_3 [a0, .cel false D, a2, a3, a4, a5, a6, a7, a8, .un, .un, .un, .un, .un, .un, .un, .un, .un, .un, .un])) = .v (.dat (.bool true)) := by
  unfold b_law_3 b_law_4
  unfold R15 at hd hn
  simp only [Dl.e_var, Dl.e_bin, Dl.e_tb, Dl.e_tru, Dl.e_and, Dl.e_or, Dl.e_not, Dl.e_if, Dl.s_if, Dl.e_andV, Dl.e_orV, Dl.e_notV, Dl.e_args, Dl.e_set, Dl.e_setA, Dl.e_rdA, Dl.e_tup, Dl.e_lst, Dl.e_prim, Dl.s_seq, Dl.s_set, Dl.putV_eq, Dl.s_put, Dl.s_aug, Dl.e_call, Dl.e_callR, Dl.refO_d, Dl.refO_c, Dl.e_callS, Dl.e_isi, Dl.e_cut, Dl.e_part, Dl.e_neg, Dl.e_rev, Dl.s_expr, Dl.s_ret, Dl.s_unp, Dl.s_par, Dl.s_for, Dl.e_mut, Dl.e_meth, Dl.at0, Dl.at1, Dl.at2, Dl.at3, Dl.at4, Dl.at5, Dl.at6, Dl.at7, Dl.eq_int, Dl.eq_str, Dl.ne_int, Dl.ne_str, Dl.x113, Dl.s_for, Dl.w1, Dl.w2, Dl.w3, Dl.w4, Dl.w5, Dl.w6, Dl.w7, Dl.w8, Dl.w9, Dl.w10, Dl.w11, Dl.w12, Dl.w13, Dl.w14, Dl.w15, Dl.w16, Dl.w17, Dl.w18, Dl.w19, Dl.w20, Dl.w21, Dl.w22, Dl.w23, Dl.w24, Dl.w25, Dl.w26, Dl.w27, Dl.w28, Dl.w29, Dl.w30, Dl.w31, Dl.w32, Dl.w33, Dl.w34, Dl.w35, Dl.w36, Dl.w37, Dl.w39, Dl.w40, Dl.lit0, Dl.tit0, Dl.lit1, Dl.tit1, Dl.lit2, Dl.tit2, Dl.lit3, Dl.tit3, Dl.lit4, Dl.tit4, Dl.lit5, Dl.tit5, Dl.lit6, Dl.tit6, Dl.lit7, Dl.tit7, Dl.lit8, Dl.tit8, Dl.lit9, Dl.tit9, Dl.lit10, Dl.tit10, Dl.lit11, Dl.tit11, Dl.lit12, Dl.tit12, Dl.lit13, Dl.tit13, Dl.lit14, Dl.tit14, Dl.lit15, Dl.tit15, Dl.lit16, Dl.tit16, Dl.lit17, Dl.tit17, Dl.lit18, Dl.tit18, Dl.lit19, Dl.tit19, Dl.lit20, Dl.tit20, Dl.z0, Dl.z1, Dl.z2, Dl.z3, Dl.z4, Dl.x1, Dl.x2, Dl.x3, Dl.x4, Dl.x5, Dl.x6, Dl.x7, Dl.x8, Dl.x9, Dl.x10, Dl.x11, Dl.x12, Dl.x13, Dl.x14, Dl.x15, Dl.x16, Dl.x17, Dl.x18, Dl.x19, Dl.x20, Dl.x21, Dl.x22, Dl.x23, Dl.x24, Dl.x25, Dl.x26, Dl.x27, Dl.x28, Dl.x29, Dl.x30, Dl.x31, Dl.x32, Dl.x33, Dl.x34, Dl.x35, Dl.x36, Dl.x37, Dl.x38, Dl.x39, Dl.x40, Dl.x41, Dl.x42, Dl.x43, Dl.x44, Dl.x45, Dl.x46, Dl.x47, Dl.x48, Dl.x49, Dl.x50, Dl.x51, Dl.x52, Dl.x53, Dl.x54, Dl.x55, Dl.x56, Dl.x57, Dl.x58, Dl.x59, Dl.x60, Dl.x61, Dl.x62, Dl.x63, Dl.x64, Dl.x65, Dl.x66, Dl.x67, Dl.x68, Dl.x69, Dl.t_int_dict, Dl.t_str_dict, Dl.t_bool_dict, Dl.t_list_dict, Dl.t_tuple_dict, Dl.ln1, Dl.ln2, Dl.ln3, Dl.ln4, Dl.ln5, Dl.ln6, Dl.ln7, Dl.ln8, Dl.ln9, Dl.ln10, Dl.ln11, Dl.ln12, Dl.ln13, Dl.ln14, Dl.ln15, Dl.ln16, Dl.ln17, Dl.ln18, Dl.ln19, Dl.ln20, Dl.u1, Dl.u2, Dl.v1, Dl.v2, Dl.v3, Dl.v4, Dl.v5, Dl.v6, Dl.x72, Dl.x73, Dl.x74, Dl.x75, Dl.x76, Dl.x77, Dl.x78, Dl.t_int_none, Dl.t_int_bool, Dl.t_int_int, Dl.t_int_str, Dl.t_int_list, Dl.t_int_tuple, Dl.t_str_none, Dl.t_str_bool, Dl.t_str_int, Dl.t_str_str, Dl.t_str_list, Dl.t_str_tuple, Dl.t_bool_none, Dl.t_bool_bool, Dl.t_bool_int, Dl.t_bool_str, Dl.t_bool_list, Dl.t_bool_tuple, Dl.t_list_none, Dl.t_list_bool, Dl.t_list_int, Dl.t_list_str, Dl.t_list_list, Dl.t_list_tuple, Dl.t_tuple_none, Dl.t_tuple_bool, Dl.t_tuple_int, Dl.t_tuple_str, Dl.t_tuple_list, Dl.t_tuple_tuple, Dl.ch1, Dl.ch2, Dl.ch3, Dl.ch4, Dl.ch5, Dl.x80, Dl.x81, Dl.x82, Dl.x83, Dl.x84, Dl.x85, Dl.x86, Dl.x87, Dl.x88, Dl.x89, Dl.x90, Dl.x91, Dl.x92, Dl.x93, Dl.x94, Dl.x95, Dl.x96, Dl.x97, Dl.x98, Dl.x99, Dl.x100, Dl.x101, Dl.x102, Dl.x103, Dl.x104, Dl.x105, Dl.x106, Dl.x107, Dl.x108, Dl.x109, Dl.x110, Dl.y1, Dl.y2, Dl.y3, Dl.y4, Dl.y5, Dl.y6, Dl.y7, Dl.y8, Dl.y9, Dl.y10, Dl.y11, Dl.y12, Dl.y13, Dl.y15, Dl.y16, Dl.y22, Dl.y23,
  List.cons_append, List.nil_append, List.append_nil, List.map_cons, List.map_nil, if_true, if_false, Bool.not_true, Bool.not_false, Bool.or_false, Bool.or_self, Bool.false_eq_true, Option.map_some, List.set_cons_zero, List.set_cons_succ, List.length_cons, List.length_nil, reduceIte, decide_true, decide_false, reduceCtorEq, e1, hd, putO_lk h4, hn]
theorem st0 {D0 D1 D2 : Cel} {L : Str} {s3 s4 s5 s6 s7 s8 : Slot} {ns : List Int} (e0 : out (m__law_deck [.scr ns]) = .v (.cel D0)) (e1 : outR (m__law_letters [.cel true D0]) = (.v (.dat (.str L)), some D1))
    (e2 : forD (.nm 3) turnB (rgD 0 (4 : Int).toNat) [.scr ns, .cel false D1, .dat (.str L), .un, .un, .un, .un, .un, .un, .un, .un, .un, .un, .un, .un, .un, .un, .un, .un, .un] = .ok .nx [.scr ns, .cel false D2, .dat (.str L), s3, s4, s5, s6, s7, s8, .un, .un, .un, .un, .un, .un, .un, .un, .un, .un, .un])
    (hn : out (endF (b_law_3 [.scr ns, .cel false D2, .dat (.str L), s3, s4, s5, s6, s7, s8, .un, .un, .un, .un, .un, .un, .un, .un, .un, .un, .un])) = .v (.dat (.bool true))) :
    out (m_law [.scr ns]) = .v (.dat (.bool true)) := by
  have sm4 : sml 4 = true := by decide
  rw [u_law]
  unfold b_law b_law_1 b_law_2
  unfold turnB at e2
  simp only [Dl.e_var, Dl.e_bin, Dl.e_tb, Dl.e_tru, Dl.e_and, Dl.e_or, Dl.e_not, Dl.e_if, Dl.s_if, Dl.e_andV, Dl.e_orV, Dl.e_notV, Dl.e_args, Dl.e_set, Dl.e_setA, Dl.e_rdA, Dl.e_tup, Dl.e_lst, Dl.e_prim, Dl.s_seq, Dl.s_set, Dl.putV_eq, Dl.s_put, Dl.s_aug, Dl.e_call, Dl.e_callR, Dl.refO_d, Dl.refO_c, Dl.e_callS, Dl.e_isi, Dl.e_cut, Dl.e_part, Dl.e_neg, Dl.e_rev, Dl.s_expr, Dl.s_ret, Dl.s_unp, Dl.s_par, Dl.s_for, Dl.e_mut, Dl.e_meth, Dl.at0, Dl.at1, Dl.at2, Dl.at3, Dl.at4, Dl.at5, Dl.at6, Dl.at7, Dl.eq_int, Dl.eq_str, Dl.ne_int, Dl.ne_str, Dl.x113, Dl.s_for, Dl.w1, Dl.w2, Dl.w3, Dl.w4, Dl.w5, Dl.w6, Dl.w7, Dl.w8, Dl.w9, Dl.w10, Dl.w11, Dl.w12, Dl.w13, Dl.w14, Dl.w15, Dl.w16, Dl.w17, Dl.w18, Dl.w19, Dl.w20, Dl.w21, Dl.w22, Dl.w23, Dl.w24, Dl.w25, Dl.w26, Dl.w27, Dl.w28, Dl.w29, Dl.w30, Dl.w31, Dl.w32, Dl.w33, Dl.w34, Dl.w35, Dl.w36, Dl.w37, Dl.w39, Dl.w40, Dl.lit0, Dl.tit0, Dl.lit1, Dl.tit1, Dl.lit2, Dl.tit2, Dl.lit3, Dl.tit3, Dl.lit4, Dl.tit4, Dl.lit5, Dl.tit5, Dl.lit6, Dl.tit6, Dl.lit7, Dl.tit7, Dl.lit8, Dl.tit8, Dl.lit9, Dl.tit9, Dl.lit10, Dl.tit10, Dl.lit11, Dl.tit11, Dl.lit12, Dl.tit12, Dl.lit13, Dl.tit13, Dl.lit14, Dl.tit14, Dl.lit15, Dl.tit15, Dl.lit16, Dl.tit16, Dl.lit17, Dl.tit17, Dl.lit18, Dl.tit18, Dl.lit19, Dl.tit19, Dl.lit20, Dl.tit20, Dl.z0, Dl.z1, Dl.z2, Dl.z3, Dl.z4, Dl.x1, Dl.x2, Dl.x3, Dl.x4, Dl.x5, Dl.x6, Dl.x7, Dl.x8, Dl.x9, Dl.x10, Dl.x11, Dl.x12, Dl.x13, Dl.x14, Dl.x15, Dl.x16, Dl.x17, Dl.x18, Dl.x19, Dl.x20, Dl.x21, Dl.x22, Dl.x23, Dl.x24, Dl.x25, Dl.x26, Dl.x27, Dl.x28, Dl.x29, Dl.x30, Dl.x31, Dl.x32, Dl.x33, Dl.x34, Dl.x35, Dl.x36, Dl.x37, Dl.x38, Dl.x39, Dl.x40, Dl.x41, Dl.x42, Dl.x43, Dl.x44, Dl.x45, Dl.x46, Dl.x47, Dl.x48, Dl.x49, Dl.x50, Dl.x51, Dl.x52, Dl.x53, Dl.x54, Dl.x55, Dl.x56, Dl.x57, Dl.x58, Dl.x59, Dl.x60, Dl.x61, Dl.x62, Dl.x63, Dl.x64, Dl.x65, Dl.x66, Dl.x67, Dl.x68, Dl.x69, Dl.t_int_dict, Dl.t_str_dict, Dl.t_bool_dict, Dl.t_list_dict, Dl.t_tuple_dict, Dl.ln1, Dl.ln2, Dl.ln3, Dl.ln4, Dl.ln5, Dl.ln6, Dl.ln7, Dl.ln8, Dl.ln9, Dl.ln10, Dl.ln11, Dl.ln12, Dl.ln13, Dl.ln14, Dl.ln15, Dl.ln16, Dl.ln17, Dl.ln18, Dl.ln19, Dl.ln20, Dl.u1, Dl.u2, Dl.v1, Dl.v2, Dl.v3, Dl.v4, Dl.v5, Dl.v6, Dl.x72, Dl.x73, Dl.x74, Dl.x75, Dl.x76, Dl.x77, Dl.x78, Dl.t_int_none, Dl.t_int_bool, Dl.t_int_int, Dl.t_int_str, Dl.t_int_list, Dl.t_int_tuple, Dl.t_str_none, Dl.t_str_bool, Dl.t_str_int, Dl.t_str_str, Dl.t_str_list, Dl.t_str_tuple, Dl.t_bool_none, Dl.t_bool_bool, Dl.t_bool_int, Dl.t_bool_str, Dl.t_bool_list, Dl.t_bool_tuple, Dl.t_list_none, Dl.t_list_bool, Dl.t_list_int, Dl.t_list_str, Dl.t_list_list, Dl.t_list_tuple, Dl.t_tuple_none, Dl.t_tuple_bool, Dl.t_tuple_int, Dl.t_tuple_str, Dl.t_tuple_list, Dl.t_tuple_tuple, Dl.ch1, Dl.ch2, Dl.ch3, Dl.ch4, Dl.ch5, Dl.x80, Dl.x81, Dl.x82, Dl.x83, Dl.x84, Dl.x85, Dl.x86, Dl.x87, Dl.x88, Dl.x89, Dl.x90, Dl.x91, Dl.x92, Dl.x93, Dl.x94, Dl.x95, Dl.x96, Dl.x97, Dl.x98, Dl.x99, Dl.x100, Dl.x101, Dl.x102, Dl.x103, Dl.x104, Dl.x105, Dl.x106, Dl.x107, Dl.x108, Dl.x109, Dl.x110, Dl.y1, Dl.y2, Dl.y3, Dl.y4, Dl.y5, Dl.y6, Dl.y7, Dl.y8, Dl.y9, Dl.y10, Dl.y11, Dl.y12, Dl.y13, Dl.y15, Dl.y16, Dl.y22, Dl.y23,
  List.cons_append, List.nil_append, List.append_nil, List.map_cons, List.map_nil, if_true, if_false, Bool.not_true, Bool.not_false, Bool.or_false, Bool.or_self, Bool.false_eq_true, Option.map_some, List.set_cons_zero, List.set_cons_succ, List.length_cons, List.length_nil, reduceIte, decide_true, decide_false, reduceCtorEq, e0, e1, Dl.rg1 sm4, e2, hn]
end K01
end

-- text L9
section
set_option Elab.async false
set_option linter.all false
set_option maxRecDepth 100000
set_option maxHeartbeats 8000000
namespace K01
open PySem Dl
theorem rep_len : ((List.range 63).all fun k => (["ab", "a", "abc", "ac", "xz"] : List Str).all fun L => decide ((repS (sg (c0 L)) (k : Nat)).length ≤ 1000)) = true := by decide +kernel
theorem rep_len2 {L : Str} (h : L ∈ L5) {v : Int} (h0 : 0 ≤ v) (h1 : v < 5) : (repS (sg (c0 L)) (58 + v)).length ≤ 1000 := by
  obtain ⟨k, rfl⟩ := Int.eq_ofNat_of_zero_le h0
  have a := List.all_eq_true.mp rep_len (58 + k) (List.mem_range.mpr (by omega))
  have b := List.all_eq_true.mp a L h
  have c := of_decide_eq_true b
  have e : ((58 + k : Nat) : Int) = 58 + (k : Int) := by omega
  rw [e] at c
  exact c
theorem law_ok (ns : List Int) (hl : ns.length ≤ 63) : ∃ ρ, m_law [.scr ns] = .ok (.dat (.bool true)) ρ := by
  refine out_ok ?_
  obtain ⟨D0, e0, hD0⟩ := deck_ok ns hl
  obtain ⟨L, D1, e1, hL, hD1⟩ := s_letters hD0 (by decide)
  have F := lf_of hL
  have hloop := for_ind (ds := rgD 0 (4 : Int).toNat) (b := .nm 3) (body := turnB) (ρ := [.scr ns, .cel false D1, .dat (.str L), .un, .un, .un, .un, .un, .un, .un, .un, .un, .un, .un, .un, .un, .un, .un, .un, .un])
    (fun i ρ => ∃ D s3 s4 s5 s6 s7 s8, ρ = [.scr ns, .cel false D, .dat (.str L), s3, s4, s5, s6, s7, s8, .un, .un, .un, .un, .un, .un, .un, .un, .un, .un, .un] ∧ Deck (1 + 4 * i) D ∧ lkS s3 = false ∧ lkS s4 = false ∧ lkS s5 = false ∧ lkS s6 = false ∧ lkS s7 = false ∧ lkS s8 = false)
    (fun i d ρ hd hp => by
      obtain ⟨D, s3, s4, s5, s6, s7, s8, rfl, hD, h3, h4, h5, h6, h7, h8⟩ := hp
      obtain ⟨hi, rfl⟩ := rgD_at hd
      have hi : i < 4 := hi
      obtain ⟨D', d4, d5, d6, d7, d8, e, hd8, hD'⟩ := turn_ok (s0 := .scr ns) (s2 := .dat (.str L)) (s3 := .dat (.int (0 + (i : Nat)))) (r9 := [.un, .un, .un, .un, .un, .un, .un, .un, .un, .un, .un]) hD (by omega) h4 h5 h6 h7 h8
      exact ⟨_, _, bndN_lk h3, .inl e, D', _, _, _, _, _, _, rfl, by have : 1 + 4 * (i + 1) = 1 + 4 * i + 4 := by omega
                                                                     rw [this]; exact hD', rfl, rfl, rfl, rfl, rfl, hd8⟩)
    ⟨D1, _, _, _, _, _, _, rfl, hD1, rfl, rfl, rfl, rfl, rfl, rfl⟩
  obtain ⟨_, e2, D2, s3, s4, s5, s6, s7, s8, rfl, hD2, h3, h4, h5, h6, h7, h8⟩ := hloop
  rw [rgD_len] at hD2
  have hD2 : Deck 17 D2 := hD2
  -- rows
  obtain ⟨v1, D3, e3, v10, v11, hD3⟩ := draw_ok 17 D2 15 hD2 (by decide) (by decide) (by decide)
  obtain ⟨d, hd, hdm⟩ := atI_some (xs := R15) v10 v11
  obtain ⟨b1, il, iin⟩ := s_rows d hdm
  -- the word
  have hlen1 : (L.length : Nat) ≤ 1000 := by have := F.l1; omega
  obtain ⟨w, D4, e4, wc, wl, hD4⟩ := s_word (n := 12) hD3 (by decide) F.l0 hlen1 (by decide) (by decide)
  have wl : w.length ≤ 12 := by omega
  -- the items
  obtain ⟨v2, D5, e5, v20, v21, hD5⟩ := draw_ok _ D4 5 hD4 (by decide) (by decide) (by decide)
  obtain ⟨v3, D6, e6, v30, v31, hD6⟩ := draw_ok _ D5 7 hD5 (by decide) (by decide) (by decide)
  have lb : ("b" : Str).length = 1 := by decide +kernel
  have l1 : ("1" : Str).length = 1 := by decide +kernel
  have wb : gAdd (.str w) (.str "b") = some (.dat (.str (w ++ ("b" : Str)))) := y17 (le16 (by omega))
  have w1 : gAdd (.str w) (.str "1") = some (.dat (.str (w ++ ("1" : Str)))) := y17 (le16 (by omega))
  have wm : gMul (.str (sg (c0 L))) (.int (58 + v2)) = some (.dat (.str (repS (sg (c0 L)) (58 + v2)))) := mulS (show (1 : Nat) ≤ 1000 by decide) (by omega) (by omega)
  obtain ⟨it, hit, hitm⟩ := atI_some (xs := [PyData.str w, .str (w ++ ("b" : Str)), .str (w ++ ("1" : Str)), .none, .list [.str w], .str (repS (sg (c0 L)) (58 + v2)), .str ""]) v30 v31
  have hsm : smallStr it := by
    have al : ∀ x : Str, (w ++ x).length = w.length + x.length := fun x => Array.size_append
    simp only [List.mem_cons, List.not_mem_nil, or_false] at hitm
    rcases hitm with rfl | rfl | rfl | rfl | rfl | rfl | rfl
    · exact (by omega : w.length ≤ 1000)
    · exact (by rw [al]; omega : (w ++ ("b" : Str)).length ≤ 1000)
    · exact (by rw [al]; omega : (w ++ ("1" : Str)).length ≤ 1000)
    · trivial
    · trivial
    · exact rep_len2 hL v20 v21
    · exact (by decide +kernel : (("" : Str)).length ≤ 1000)
  obtain ⟨m, hm, hm0, hm8, hg⟩ := F.most
  obtain ⟨v4, D7, e7, v40, v41, hD7⟩ := draw_ok _ D6 m hD6 (by decide) (by omega) (by omega)
  obtain ⟨n, rfl⟩ := Int.eq_ofNat_of_zero_le v40
  obtain ⟨g, wt⟩ := hg n (by omega)
  unfold good at g
  rw [Bool.and_eq_true, Bool.and_eq_true, Bool.and_eq_true, Bool.and_eq_true, decide_eq_true_eq] at g
  obtain ⟨g1, g2, g3, g4, g5, g6⟩ := g
  have lw := wsD_ok g1
  have lw2 := wsD_ok g2
  have en : ((n + 1 : Nat) : Int) = (n : Int) + 1 := by omega
  rw [en] at lw2
  have isw := is_ok (reprOk_of g3) (Eq.refl (PyData.list (wsD L n)))
  obtain ⟨v5, D8, e8, v50, v51, hD8⟩ := draw_ok _ D7 (wsD L n).length hD7 (by decide) (by omega) (by omega)
  obtain ⟨j, rfl⟩ := Int.eq_ofNat_of_zero_le v50
  obtain ⟨x, hx, _⟩ := atI_some (xs := wsD L n) v50 v51
  have hx2 := hx
  rw [Dl.atI_nat] at hx2
  obtain ⟨a, ha1, ha2⟩ := chk_at g4 hx2
  have ha3 : L2.atI (wsD L (n + 1)) ((j : Int) + 1) = some (.str a) := by
    rw [show (j : Int) + 1 = ((j + 1 : Nat) : Int) by omega, Dl.atI_nat]
    rw [List.getElem?_tail] at ha1
    exact ha1
  exact st0 e0 e1 e2 (st3 e3 hd _ _ _ _ _ _ _ _ h4 (st5 il iin _ _ _ _ _ _ _ _ _ (st6 e4 _ _ _ _ _ _ _ _ (st7 e5 F.i0 wb w1 wm _ _ _ _ _ _ _ _ (st8 e6 hit _ _ _ _ _ _ _ _ _ _ rfl (st9 hsm _ _ _ _ _ _ _ _ _ _ (st10 (s_is_word L it hsm) _ _ _ _ _ _ _ _ _ _ (st11 hlen1 hm _ _ _ _ _ _ _ _ _ _ _ _ h7 (st12 e7 _ _ _ _ _ _ _ _ _ _ _ (st13 lw _ _ _ _ _ _ _ _ _ _ _ _ (st14 wt isw _ _ _ _ _ _ _ _ _ _ _ _ (st15 e8 _ _ _ _ _ _ _ _ _ _ _ _ _ (st16 lw2 _ _ _ _ _ _ _ _ _ _ _ _ _ _ (st17w hx ha2 ha3 _ _ _ _ _ _ _ _ _ _ _ _ _ (st17 F hD8 (by decide) wc wl _ _ _ _ _ _ _ _ _ _ _ _ _ _)))))))))))))))
theorem holds : PySem.Challenge.rw_wordsaid_k01_letters_and_words.Holds := holds_of law_ok
end K01
end
theorem PySem.Challenge.cw_wordsaid_k01_letters_and_words_holds : PySem.Challenge.rw_wordsaid_k01_letters_and_words.Holds :=
  K01.holds
