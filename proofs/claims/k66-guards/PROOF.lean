import PyProof.Rows.All
import Wide.All
import OpenK.AllK
import Wide.FinOn
import HandS.ForMost
import HandS.Wide
import HandS.Flow
import HandS.IsInst
import HandS.TupAny
import KE.DataMinMax
import HandS.EndBits
import PySem.Challenge.RW_steadyhands_k66_guards_of_both_sides
set_option Elab.async false
set_option linter.all false
set_option maxRecDepth 100000
set_option maxHeartbeats 4000000
/-! Dn, part A: a deterministic semantics over trees and a store of lists, sound over the hand layer's readings. -/
namespace Dn
open PySem PySem.Spec PyProof.Rows L2

inductive T where
  | non | bl (b : Bool) | int (i : Int) | str (x : Str) | ty (n : String)
  | tup (xs : List T) | lst (xs : List T) | ref (n : Nat)

inductive Ob where
  | lst (xs : List T) | fz (xs : List T)
abbrev Sto := List Ob
abbrev Ev := List (Option T)

inductive Out (α : Type) where
  | no | ok (a : α) (st : Sto) | ex (c : Str) (x : T) (st : Sto)
def Out.bind {α β : Type} (o : Out α) (f : α → Sto → Out β) : Out β := match o with
  | .no => .no
  | .ok a st => f a st
  | .ex c x st => .ex c x st
@[simp] theorem bind_ok {α β : Type} {a : α} {st : Sto} {f : α → Sto → Out β} : (Out.ok a st).bind f = f a st := rfl
@[simp] theorem bind_no {α β : Type} {f : α → Sto → Out β} : (Out.no : Out α).bind f = .no := rfl
@[simp] theorem bind_ex {α β : Type} {c : Str} {x : T} {st : Sto} {f : α → Sto → Out β} : (Out.ex c x st : Out α).bind f = .ex c x st := rfl

inductive Fl where
  | nx (e : Ev) | rt (t : T) | bk (e : Ev) | ct (e : Ev)
abbrev Sx := Ev → Sto → Out T
abbrev Sa := Ev → Sto → Out (List T)
abbrev Tst := Ev → Sto → Out Bool
abbrev Ss := Ev → Sto → Out Fl
abbrev Fn := List T → Sto → Out T

/-! ### which refs a value bears -/
mutual
def T.bel (n : Nat) : T → Bool
  | .non => true
  | .bl _ => true
  | .int _ => true
  | .str _ => true
  | .ty _ => true
  | .tup xs => T.bels n xs
  | .lst xs => T.bels n xs
  | .ref m => decide (m < n)
def T.bels (n : Nat) : List T → Bool
  | [] => true
  | x :: r => T.bel n x && T.bels n r
end
@[simp] theorem bel_non {n : Nat} : T.bel n .non = true := rfl
@[simp] theorem bel_bl {n : Nat} {b : Bool} : T.bel n (.bl b) = true := rfl
@[simp] theorem bel_int {n : Nat} {i : Int} : T.bel n (.int i) = true := rfl
@[simp] theorem bel_str {n : Nat} {x : Str} : T.bel n (.str x) = true := rfl
@[simp] theorem bel_ty {n : Nat} {x : String} : T.bel n (.ty x) = true := rfl
@[simp] theorem bel_tup {n : Nat} {xs : List T} : T.bel n (.tup xs) = T.bels n xs := rfl
@[simp] theorem bel_lst {n : Nat} {xs : List T} : T.bel n (.lst xs) = T.bels n xs := rfl
@[simp] theorem bel_ref {n m : Nat} : T.bel n (.ref m) = decide (m < n) := rfl
@[simp] theorem bels_nil {n : Nat} : T.bels n [] = true := rfl
@[simp] theorem bels_cons {n : Nat} {x : T} {r : List T} : T.bels n (x :: r) = (T.bel n x && T.bels n r) := rfl
theorem bels_iff {n : Nat} : ∀ {xs : List T}, T.bels n xs = true ↔ ∀ x ∈ xs, T.bel n x = true
  | [] => by simp
  | x :: r => by simp [bels_iff (xs := r)]
@[simp] theorem bels_app {n : Nat} {xs ys : List T} : T.bels n (xs ++ ys) = (T.bels n xs && T.bels n ys) := by
  induction xs with
  | nil => simp
  | cons x r ih => simp [ih, Bool.and_assoc]
theorem bels_map {n : Nat} {α : Type} {f : α → T} {l : List α} (h : ∀ x ∈ l, T.bel n (f x) = true) : T.bels n (l.map f) = true := by
  rw [bels_iff]
  intro x hx
  obtain ⟨y, hy, rfl⟩ := List.mem_map.mp hx
  exact h y hy
mutual
theorem bel_mono {n m : Nat} (h : n ≤ m) : ∀ t : T, T.bel n t = true → T.bel m t = true
  | .non, _ => rfl
  | .bl _, _ => rfl
  | .int _, _ => rfl
  | .str _, _ => rfl
  | .ty _, _ => rfl
  | .tup xs, q => bels_mono h xs q
  | .lst xs, q => bels_mono h xs q
  | .ref k, q => by
    have := of_decide_eq_true (show decide (k < n) = true from q)
    exact decide_eq_true (by omega)
theorem bels_mono {n m : Nat} (h : n ≤ m) : ∀ xs : List T, T.bels n xs = true → T.bels m xs = true
  | [], _ => rfl
  | x :: r, q => by
    have q' : (T.bel n x && T.bels n r) = true := q
    rw [Bool.and_eq_true] at q'
    show (T.bel m x && T.bels m r) = true
    rw [Bool.and_eq_true]
    exact ⟨bel_mono h x q'.1, bels_mono h r q'.2⟩
end

/-! ### what a tree is in the abstract heap -/
structure Wd where
  as : List Addr
  F : Hp
mutual
def Rep (K : PySem.W.Frag) (W : Wd) : T → V → Prop
  | .non, v => v = .non
  | .bl b, v => v = .bl b
  | .int i, v => v = .int i
  | .str x, v => v = .str x
  | .ty n, v => v = .ty n
  | .tup xs, v => ∃ a vs, v = .ref a ∧ SqT K W.F a vs ∧ vs.length ≤ sizeLine ∧ Reps K W xs vs
  | .lst xs, v => ∃ a vs, v = .ref a ∧ SqL K W.F a vs ∧ vs.length ≤ sizeLine ∧ Reps K W xs vs
  | .ref n, v => ∃ a, v = .ref a ∧ W.as[n]? = some a
def Reps (K : PySem.W.Frag) (W : Wd) : List T → List V → Prop
  | [], vs => vs = []
  | x :: xs, vs => ∃ v r, vs = v :: r ∧ Rep K W x v ∧ Reps K W xs r
end
section
variable {K : PySem.W.Frag} {W W' : Wd} {F H H' : Hp}
theorem sqT_mono {a : Addr} {xs : List V} (e : Same F H) (h : SqT K F a xs) : SqT K H a xs := by
  rcases h with (h | ⟨o, h⟩) | h
  · exact .inl (.inl (e _ _ h))
  · exact .inl (.inr ⟨o, e _ _ h⟩)
  · exact .inr h
structure Le (W W' : Wd) : Prop where
  as : ∃ m, W'.as = W.as ++ m
  fz : Same W.F W'.F
theorem Le.refl (W : Wd) : Le W W := ⟨⟨[], by simp⟩, Same.refl _⟩
theorem Le.trans {W1 W2 W3 : Wd} (a : Le W1 W2) (b : Le W2 W3) : Le W1 W3 := by
  obtain ⟨m, e⟩ := a.as
  obtain ⟨m', e'⟩ := b.as
  exact ⟨⟨m ++ m', by rw [e', e, List.append_assoc]⟩, a.fz.trans b.fz⟩
theorem Le.at {n : Nat} {a : Addr} (h : Le W W') (e : W.as[n]? = some a) : W'.as[n]? = some a := by
  obtain ⟨m, q⟩ := h.as
  rw [q, List.getElem?_append_left (List.getElem?_eq_some_iff.mp e).1]
  exact e
mutual
theorem Rep.mono (h : Le W W') : ∀ (t : T) (v : V), Rep K W t v → Rep K W' t v
  | .non, _, e => e
  | .bl _, _, e => e
  | .int _, _, e => e
  | .str _, _, e => e
  | .ty _, _, e => e
  | .tup xs, _, e => by
    obtain ⟨a, vs, e1, e2, e3, e4⟩ := e
    exact ⟨a, vs, e1, sqT_mono h.fz e2, e3, Reps.mono h xs vs e4⟩
  | .lst xs, _, e => by
    obtain ⟨a, vs, e1, e2, e3, e4⟩ := e
    exact ⟨a, vs, e1, h.fz.seq e2, e3, Reps.mono h xs vs e4⟩
  | .ref n, _, e => by
    obtain ⟨a, e1, e2⟩ := e
    exact ⟨a, e1, h.at e2⟩
theorem Reps.mono (h : Le W W') : ∀ (ts : List T) (vs : List V), Reps K W ts vs → Reps K W' ts vs
  | [], _, e => e
  | x :: xs, _, e => by
    obtain ⟨v, r, e1, e2, e3⟩ := e
    exact ⟨v, r, e1, Rep.mono h x v e2, Reps.mono h xs r e3⟩
end
/-- back to the first n objects -/
def Wd.cut (W : Wd) (n : Nat) : Wd := ⟨W.as.take n, W.F⟩
mutual
theorem Rep.cut {n : Nat} : ∀ (t : T) (v : V), T.bel n t = true → Rep K W t v → Rep K (W.cut n) t v
  | .non, _, _, e => e
  | .bl _, _, _, e => e
  | .int _, _, _, e => e
  | .str _, _, _, e => e
  | .ty _, _, _, e => e
  | .tup xs, _, b, e => by
    obtain ⟨a, vs, e1, e2, e3, e4⟩ := e
    exact ⟨a, vs, e1, e2, e3, Reps.cut xs vs b e4⟩
  | .lst xs, _, b, e => by
    obtain ⟨a, vs, e1, e2, e3, e4⟩ := e
    exact ⟨a, vs, e1, e2, e3, Reps.cut xs vs b e4⟩
  | .ref k, _, b, e => by
    obtain ⟨a, e1, e2⟩ := e
    have hk : k < n := of_decide_eq_true b
    refine ⟨a, e1, ?_⟩
    show (W.as.take n)[k]? = some a
    rw [List.getElem?_take_of_lt hk]
    exact e2
theorem Reps.cut {n : Nat} : ∀ (ts : List T) (vs : List V), T.bels n ts = true → Reps K W ts vs → Reps K (W.cut n) ts vs
  | [], _, _, e => e
  | x :: xs, _, b, e => by
    obtain ⟨v, r, e1, e2, e3⟩ := e
    have b' : (T.bel n x && T.bels n xs) = true := b
    rw [Bool.and_eq_true] at b'
    exact ⟨v, r, e1, Rep.cut x v b'.1 e2, Reps.cut xs r b'.2 e3⟩
end
theorem Reps.length : ∀ {ts : List T} {vs : List V}, Reps K W ts vs → ts.length = vs.length
  | [], _, e => by
    have e : _ = [] := e
    rw [e]
    rfl
  | x :: xs, _, e => by
    obtain ⟨v, r, e1, _, e3⟩ := e
    rw [e1, List.length_cons, List.length_cons, Reps.length e3]
theorem Reps.get : ∀ {ts : List T} {vs : List V} {i : Nat} {t : T}, Reps K W ts vs → ts[i]? = some t → ∃ v, vs[i]? = some v ∧ Rep K W t v
  | [], _, _, _, _, q => by simp at q
  | x :: xs, _, 0, t, e, q => by
    obtain ⟨v, r, e1, e2, _⟩ := e
    have q' : x = t := by simpa using q
    subst q'
    exact ⟨v, by rw [e1]; rfl, e2⟩
  | x :: xs, _, i + 1, t, e, q => by
    obtain ⟨v, r, e1, _, e3⟩ := e
    obtain ⟨v', h1, h2⟩ := Reps.get (i := i) e3 (by simpa using q)
    exact ⟨v', by rw [e1]; simpa using h1, h2⟩
theorem Reps.append : ∀ {ts us : List T} {vs ws : List V}, Reps K W ts vs → Reps K W us ws → Reps K W (ts ++ us) (vs ++ ws)
  | [], _, _, _, e, f => by
    have e : _ = [] := e
    rw [e]
    exact f
  | x :: xs, _, _, _, e, f => by
    obtain ⟨v, r, e1, e2, e3⟩ := e
    rw [e1]
    exact ⟨v, _, rfl, e2, Reps.append e3 f⟩
theorem Reps.nil : Reps K W [] [] := rfl
theorem Reps.one {t : T} {v : V} (h : Rep K W t v) : Reps K W [t] [v] := ⟨v, [], rfl, h, rfl⟩
theorem Reps.take : ∀ {ts : List T} {vs : List V} (n : Nat), Reps K W ts vs → Reps K W (ts.take n) (vs.take n)
  | _, _, 0, _ => rfl
  | [], _, n + 1, e => by
    have e : _ = [] := e
    rw [e]
    rfl
  | x :: xs, _, n + 1, e => by
    obtain ⟨v, r, e1, e2, e3⟩ := e
    rw [e1]
    exact ⟨v, _, rfl, e2, Reps.take n e3⟩
theorem Reps.drop : ∀ {ts : List T} {vs : List V} (n : Nat), Reps K W ts vs → Reps K W (ts.drop n) (vs.drop n)
  | _, _, 0, e => e
  | [], _, n + 1, e => by
    have e : _ = [] := e
    rw [e]
    rfl
  | x :: xs, _, n + 1, e => by
    obtain ⟨v, r, e1, e2, e3⟩ := e
    rw [e1]
    exact Reps.drop n e3
theorem Reps.set : ∀ {ts : List T} {vs : List V} (n : Nat) {t : T} {v : V}, Rep K W t v → Reps K W ts vs → Reps K W (ts.set n t) (vs.set n v)
  | [], _, _, _, _, _, e => by
    have e : _ = [] := e
    rw [e]
    rfl
  | x :: xs, _, 0, t, v, q, e => by
    obtain ⟨v', r, e1, e2, e3⟩ := e
    rw [e1]
    exact ⟨v, r, rfl, q, e3⟩
  | x :: xs, _, n + 1, t, v, q, e => by
    obtain ⟨v', r, e1, e2, e3⟩ := e
    rw [e1]
    exact ⟨v', _, rfl, e2, Reps.set n q e3⟩
theorem Reps.of_map {α : Type} {f : α → T} {g : α → V} (h : ∀ x, Rep K W (f x) (g x)) : ∀ l : List α, Reps K W (l.map f) (l.map g)
  | [] => rfl
  | x :: r => ⟨g x, _, rfl, h x, Reps.of_map h r⟩

/-! ### the store -/
def Ob.bel (n : Nat) : Ob → Bool
  | .lst xs => T.bels n xs
  | .fz xs => T.bels n xs
def ObR (K : PySem.W.Frag) (W : Wd) (H : Hp) (a : Addr) : Ob → Prop
  | .lst xs => W.F a = none ∧ ∃ vs, H a = some (.lst vs) ∧ vs.length ≤ sizeLine ∧ Reps K W xs vs
  | .fz xs => ∃ vs, W.F a = some (.lst vs) ∧ vs.length ≤ sizeLine ∧ Reps K W xs vs
structure StoOk (K : PySem.W.Frag) (W : Wd) (st : Sto) (H : Hp) : Prop where
  frz : Same W.F H
  len : W.as.length = st.length
  nd : W.as.Nodup
  ob : ∀ (n : Nat) (a : Addr) (o : Ob), W.as[n]? = some a → st[n]? = some o → ObR K W H a o
  reg : ∀ (n : Nat) (o : Ob), st[n]? = some o → o.bel n = true
structure Grow (W : Wd) (H : Hp) (W' : Wd) (H' : Hp) : Prop where
  as : ∃ m, W'.as = W.as ++ m ∧ ∀ b ∈ m, H b = none
  fz : Same W.F W'.F
  fr : ∀ a o, H a = some o → a ∉ W.as → H' a = some o
  fn : ∀ a o, W'.F a = some o → W.F a = some o ∨ a ∈ W.as ∨ H a = none
theorem Grow.le (g : Grow W H W' H') : Le W W' := by
  obtain ⟨m, e, _⟩ := g.as
  exact ⟨⟨m, e⟩, g.fz⟩
theorem Grow.refl (W : Wd) (H : Hp) : Grow W H W H := ⟨⟨[], by simp⟩, Same.refl _, fun _ _ h _ => h, fun _ _ h => .inl h⟩
theorem StoOk.live {st : Sto} (s : StoOk K W st H) {a : Addr} (h : a ∈ W.as) : ∃ o, H a = some o := by
  obtain ⟨n, hn, e⟩ := List.getElem_of_mem h
  have hn' : n < st.length := by rw [← s.len]; exact hn
  have q := s.ob n a st[n] (by rw [List.getElem?_eq_getElem hn, e]) (List.getElem?_eq_getElem hn')
  cases hs : st[n] with
  | lst xs =>
    rw [hs] at q
    obtain ⟨_, vs, e, _⟩ := q
    exact ⟨_, e⟩
  | fz xs =>
    rw [hs] at q
    obtain ⟨vs, e, _⟩ := q
    exact ⟨_, s.frz _ _ e⟩
theorem Grow.trans {W1 W2 : Wd} {H1 H2 : Hp} {st : Sto} (g : Grow W H W1 H1) (s : StoOk K W1 st H1) (g' : Grow W1 H1 W2 H2) : Grow W H W2 H2 := by
  obtain ⟨m, e, hm⟩ := g.as
  obtain ⟨m', e', hm'⟩ := g'.as
  refine ⟨⟨m ++ m', by rw [e', e, List.append_assoc], fun b hb => ?_⟩, g.fz.trans g'.fz, fun a o h hn => ?_, fun a o h => ?_⟩
  · rcases List.mem_append.mp hb with hb | hb
    · exact hm b hb
    · have h1 := hm' b hb
      cases q : H b with
      | none => rfl
      | some o =>
        by_cases hW : b ∈ W.as
        · obtain ⟨o', ho'⟩ := s.live (a := b) (by rw [e]; exact List.mem_append_left _ hW)
          rw [ho'] at h1
          cases h1
        · rw [g.fr b o q hW] at h1
          cases h1
  · refine g'.fr a o (g.fr a o h hn) fun hb => ?_
    rw [e] at hb
    rcases List.mem_append.mp hb with hb | hb
    · exact hn hb
    · rw [hm a hb] at h
      cases h
  · rcases g'.fn a o h with h | h | h
    · exact g.fn a o h
    · rw [e] at h
      rcases List.mem_append.mp h with h | h
      · exact .inr (.inl h)
      · exact .inr (.inr (hm a h))
    · by_cases hW : a ∈ W.as
      · exact .inr (.inl hW)
      · refine .inr (.inr ?_)
        cases q : H a with
        | none => rfl
        | some o' =>
          rw [g.fr a o' q hW] at h
          cases h
theorem ObR.mono {a : Addr} {o : Ob} (h : Le W W') (hF : W'.F a = W.F a) (hH : H' a = H a) (q : ObR K W H a o) : ObR K W' H' a o := by
  cases o with
  | lst xs =>
    obtain ⟨e0, vs, e1, e2, e3⟩ := q
    exact ⟨by rw [hF]; exact e0, vs, by rw [hH]; exact e1, e2, Reps.mono h _ _ e3⟩
  | fz xs =>
    obtain ⟨vs, e1, e2, e3⟩ := q
    exact ⟨vs, by rw [hF]; exact e1, e2, Reps.mono h _ _ e3⟩
theorem StoOk.fresh {st : Sto} (s : StoOk K W st H) {p : Addr} (h : H p = none) : p ∉ W.as ∧ W.F p = none := by
  refine ⟨fun hm => ?_, ?_⟩
  · obtain ⟨o, e⟩ := s.live hm
    rw [h] at e
    cases e
  · cases q : W.F p with
    | none => rfl
    | some o =>
      rw [s.frz _ _ q] at h
      cases h
/-- a new frozen thing -/
def Wd.add (W : Wd) (p : Addr) (o : HO) : Wd := ⟨W.as, upd W.F p o⟩
theorem same_add {F : Hp} {p : Addr} {o : HO} (h : F p = none) : Same F (upd F p o) := fun b x e => by
  rw [upd_ne (ne_of_none e h)]
  exact e
theorem StoOk.add {st : Sto} {p : Addr} {o : HO} (s : StoOk K W st H) (h : H p = none) : StoOk K (W.add p o) st (upd H p o) ∧ Grow W H (W.add p o) (upd H p o) := by
  obtain ⟨h1, h2⟩ := s.fresh h
  have hle : Le W (W.add p o) := ⟨⟨[], by simp [Wd.add]⟩, same_add h2⟩
  refine ⟨⟨fun b x e => ?_, s.len, s.nd, fun n a o' e1 e2 => ?_, s.reg⟩, ⟨⟨[], by simp [Wd.add]⟩, hle.fz, fun b x e _ => ?_, fun b x e => ?_⟩⟩
  · have e : upd W.F p o b = some x := e
    by_cases hb : b = p
    · subst hb
      rw [upd_same] at e ⊢
      exact e
    · rw [upd_ne hb] at e ⊢
      exact s.frz _ _ e
  · have hap : a ≠ p := fun z => h1 (by rw [← z]; exact List.mem_of_getElem? e1)
    exact (s.ob n a o' e1 e2).mono hle (upd_ne hap) (upd_ne hap)
  · rw [upd_ne (ne_of_none e h)]
    exact e
  · have e : upd W.F p o b = some x := e
    by_cases hb : b = p
    · subst hb
      exact .inr (.inr h)
    · rw [upd_ne hb] at e
      exact .inl e
/-- a new object -/
def Wd.push (W : Wd) (p : Addr) : Wd := ⟨W.as ++ [p], W.F⟩
theorem StoOk.push {st : Sto} {p : Addr} {xs : List T} {vs : List V} (s : StoOk K W st H) (h : H p = none) (hz : vs.length ≤ sizeLine) (r : Reps K W xs vs) (hb : T.bels st.length xs = true) :
    StoOk K (W.push p) (st ++ [.lst xs]) (upd H p (.lst vs)) ∧ Grow W H (W.push p) (upd H p (.lst vs)) := by
  obtain ⟨h1, h2⟩ := s.fresh h
  have hle : Le W (W.push p) := ⟨⟨[p], rfl⟩, Same.refl _⟩
  refine ⟨⟨fun b x e => ?_, by simp [Wd.push, s.len], ?_, fun n a o e1 e2 => ?_, fun n o e => ?_⟩, ⟨⟨[p], rfl, fun b hb => ?_⟩, Same.refl _, fun b x e _ => ?_, fun b x e => .inl e⟩⟩
  · rw [upd_ne (ne_of_none (s.frz _ _ e) h)]
    exact s.frz _ _ e
  · show (W.as ++ [p]).Nodup
    rw [List.nodup_append]
    refine ⟨s.nd, by simp, fun a ha b hb => ?_⟩
    have : b = p := by simpa using hb
    rw [this]
    exact fun z => h1 (by rw [← z]; exact ha)
  · have e1 : (W.as ++ [p])[n]? = some a := e1
    by_cases hn : n < st.length
    · rw [List.getElem?_append_left (by rw [s.len]; exact hn)] at e1
      rw [List.getElem?_append_left hn] at e2
      have hap : a ≠ p := fun z => h1 (by rw [← z]; exact List.mem_of_getElem? e1)
      exact (s.ob n a o e1 e2).mono hle rfl (upd_ne hap)
    · have hn2 : n = st.length := by
        have := (List.getElem?_eq_some_iff.mp e2).1
        simp at this
        omega
      subst hn2
      rw [List.getElem?_append_right (by rw [s.len]; exact Nat.le_refl _), s.len] at e1
      rw [List.getElem?_append_right (Nat.le_refl _)] at e2
      simp at e1 e2
      subst e1 e2
      exact ⟨h2, vs, upd_same, hz, Reps.mono hle _ _ r⟩
  · by_cases hn : n < st.length
    · rw [List.getElem?_append_left hn] at e
      exact s.reg n o e
    · have hn2 : n = st.length := by
        have := (List.getElem?_eq_some_iff.mp e).1
        simp at this
        omega
      subst hn2
      rw [List.getElem?_append_right (Nat.le_refl _)] at e
      simp at e
      subst e
      exact hb
  · have : b = p := by simpa using hb
    rw [this]
    exact h
  · rw [upd_ne (ne_of_none e h)]
    exact e
theorem nodup_get {l : List Addr} (h : l.Nodup) {n m : Nat} {a : Addr} (e1 : l[n]? = some a) (e2 : l[m]? = some a) : n = m := by
  obtain ⟨h1, q1⟩ := List.getElem?_eq_some_iff.mp e1
  obtain ⟨h2, q2⟩ := List.getElem?_eq_some_iff.mp e2
  exact (List.getElem_inj h).mp (q1.trans q2.symm)
/-- an object's content is changed -/
theorem StoOk.put {st : Sto} {n : Nat} {a : Addr} {xs ys : List T} {vs : List V} (s : StoOk K W st H) (ha : W.as[n]? = some a) (ho : st[n]? = some (.lst xs)) (hz : vs.length ≤ sizeLine) (r : Reps K W ys vs) (hb : T.bels n ys = true) :
    StoOk K W (st.set n (.lst ys)) (upd H a (.lst vs)) ∧ Grow W H W (upd H a (.lst vs)) := by
  obtain ⟨hF, _⟩ := s.ob n a _ ha ho
  have hn : n < st.length := (List.getElem?_eq_some_iff.mp ho).1
  refine ⟨⟨fun b x e => ?_, by simp [s.len], s.nd, fun m b o e1 e2 => ?_, fun m o e => ?_⟩, ⟨⟨[], by simp⟩, Same.refl _, fun b x e hb' => ?_, fun b x e => .inl e⟩⟩
  · rw [upd_ne (ne_of_none e hF)]
    exact s.frz _ _ e
  · by_cases hm : m = n
    · subst hm
      rw [ha] at e1
      cases e1
      rw [List.getElem?_set_self hn] at e2
      cases e2
      exact ⟨hF, vs, upd_same, hz, r⟩
    · rw [List.getElem?_set_ne (Ne.symm hm)] at e2
      have hba : b ≠ a := fun z => hm (nodup_get s.nd e1 (by rw [z]; exact ha))
      exact (s.ob m b o e1 e2).mono (Le.refl _) rfl (upd_ne hba)
  · by_cases hm : m = n
    · subst hm
      rw [List.getElem?_set_self hn] at e
      cases e
      exact hb
    · rw [List.getElem?_set_ne (Ne.symm hm)] at e
      exact s.reg m o e
  · rw [upd_ne (show b ≠ a from fun z => hb' (by rw [z]; exact List.mem_of_getElem? ha))]
    exact e
/-- an object is frozen -/
theorem StoOk.freeze {st : Sto} {n : Nat} {a : Addr} {xs : List T} (s : StoOk K W st H) (ha : W.as[n]? = some a) (ho : st[n]? = some (.lst xs)) :
    ∃ vs, H a = some (.lst vs) ∧ vs.length ≤ sizeLine ∧ Reps K W xs vs ∧ StoOk K (W.add a (.lst vs)) (st.set n (.fz xs)) H ∧ Grow W H (W.add a (.lst vs)) H := by
  obtain ⟨hF, vs, hH, hz, r⟩ := s.ob n a _ ha ho
  have hn : n < st.length := (List.getElem?_eq_some_iff.mp ho).1
  have hle : Le W (W.add a (.lst vs)) := ⟨⟨[], by simp [Wd.add]⟩, same_add hF⟩
  refine ⟨vs, hH, hz, r, ⟨fun b x e => ?_, by simp [Wd.add, s.len], s.nd, fun m b o e1 e2 => ?_, fun m o e => ?_⟩, ⟨⟨[], by simp [Wd.add]⟩, hle.fz, fun b x e _ => e, fun b x e => ?_⟩⟩
  · have e : upd W.F a (.lst vs) b = some x := e
    by_cases hb : b = a
    · subst hb
      rw [upd_same] at e
      rw [← e]
      exact hH
    · rw [upd_ne hb] at e
      exact s.frz _ _ e
  · have e1 : W.as[m]? = some b := e1
    by_cases hm : m = n
    · subst hm
      rw [ha] at e1
      cases e1
      rw [List.getElem?_set_self hn] at e2
      cases e2
      exact ⟨vs, upd_same, hz, Reps.mono hle _ _ r⟩
    · rw [List.getElem?_set_ne (Ne.symm hm)] at e2
      have hba : b ≠ a := fun z => hm (nodup_get s.nd e1 (by rw [z]; exact ha))
      exact (s.ob m b o e1 e2).mono hle (upd_ne hba) rfl
  · by_cases hm : m = n
    · subst hm
      rw [List.getElem?_set_self hn] at e
      cases e
      exact s.reg m (.lst xs) ho
    · rw [List.getElem?_set_ne (Ne.symm hm)] at e
      exact s.reg m o e
  · have e : upd W.F a (.lst vs) b = some x := e
    by_cases hb : b = a
    · subst hb
      exact .inr (.inl (List.mem_of_getElem? ha))
    · rw [upd_ne hb] at e
      exact .inl e
/-- the end of a call: only what stood ahead is kept -/
theorem StoOk.cut {st : Sto} (s : StoOk K W st H) (n : Nat) : StoOk K (W.cut n) (st.take n) H := by
  refine ⟨s.frz, by simp [Wd.cut, s.len], s.nd.sublist (List.take_sublist _ _), fun m a o e1 e2 => ?_, fun m o e => ?_⟩
  · have e1 : (W.as.take n)[m]? = some a := e1
    have hm : m < n := by
      have := (List.getElem?_eq_some_iff.mp e1).1
      rw [List.length_take] at this
      omega
    rw [List.getElem?_take_of_lt hm] at e1 e2
    have hb := bel_mono (Nat.le_of_lt hm)
    have q := s.ob m a o e1 e2
    have g := s.reg m o e2
    cases o with
    | lst xs =>
      obtain ⟨e0, vs, h1, h2, h3⟩ := q
      exact ⟨e0, vs, h1, h2, Reps.cut xs vs (bels_mono (Nat.le_of_lt hm) xs g) h3⟩
    | fz xs =>
      obtain ⟨vs, h1, h2, h3⟩ := q
      exact ⟨vs, h1, h2, Reps.cut xs vs (bels_mono (Nat.le_of_lt hm) xs g) h3⟩
  · have hm : m < n := by
      have := (List.getElem?_eq_some_iff.mp e).1
      rw [List.length_take] at this
      omega
    rw [List.getElem?_take_of_lt hm] at e
    exact s.reg m o e
theorem Grow.cut {st : Sto} (g : Grow W H W' H') (s : StoOk K W st H) : Grow W H (W'.cut st.length) H' := by
  obtain ⟨m, e, _⟩ := g.as
  have e2 : (W'.cut st.length).as = W.as := by
    show W'.as.take st.length = W.as
    rw [e, ← s.len, List.take_left]
  exact ⟨⟨[], by rw [e2]; simp⟩, g.fz, g.fr, g.fn⟩
end

/-! ### what comes behind -/
section
variable {K : PySem.W.Frag} {W W' W1 : Wd} {H H' H1 : Hp} {st st1 : Sto}
def AfterG {α β : Type} (K : PySem.W.Frag) (W : Wd) (H : Hp) (R : Wd → α → β → Prop) (o : Out α) (Q : β → Hp → Prop) : Prop := match o with
  | .ok a st' => ∀ W' H' b, Grow W H W' H' → StoOk K W' st' H' → R W' a b → Q b H'
  | _ => False
theorem AfterG.bind {α β γ δ : Type} {R : Wd → α → β → Prop} {R' : Wd → γ → δ → Prop} {o : Out α} {f : α → Sto → Out γ} {Q' : δ → Hp → Prop} {Q : β → Hp → Prop} (h : AfterG K W H R' (o.bind f) Q')
    (hk : ∀ W1 H1 a b st1, Grow W H W1 H1 → StoOk K W1 st1 H1 → R W1 a b → AfterG K W1 H1 R' (f a st1) Q' → Q b H1) : AfterG K W H R o Q := by
  cases o with
  | no => exact h
  | ex c x st => exact h
  | ok a st =>
    intro W1 H1 b g s r
    refine hk W1 H1 a b st g s r ?_
    have h : AfterG K W H R' (f a st) Q' := h
    cases q : f a st with
    | no => rw [q] at h; exact h
    | ex c x st => rw [q] at h; exact h
    | ok a' st' =>
      rw [q] at h
      intro W2 H2 b2 g2 s2 r2
      exact h W2 H2 b2 (g.trans s g2) s2 r2
theorem AfterG.mono {α β : Type} {R : Wd → α → β → Prop} {o : Out α} {Q : β → Hp → Prop} (g : Grow W H W1 H1) (s : StoOk K W1 st1 H1) (h : AfterG K W H R o Q) : AfterG K W1 H1 R o Q := by
  cases o with
  | no => exact h
  | ex c x st => exact h
  | ok a st => exact fun W2 H2 b g2 s2 r2 => h W2 H2 b (g.trans s g2) s2 r2
def AfterS (K : PySem.W.Frag) (RE : Wd → Ev → L2.St → Prop) (W : Wd) (H : Hp) (o : Out Fl) (D : Ends) : Prop := match o with
  | .ok (.nx e) st' => ∀ W' H' σ', Grow W H W' H' → StoOk K W' st' H' → RE W' e σ' → D.nx σ' H'
  | .ok (.bk e) st' => ∀ W' H' σ', Grow W H W' H' → StoOk K W' st' H' → RE W' e σ' → D.bk σ' H'
  | .ok (.ct e) st' => ∀ W' H' σ', Grow W H W' H' → StoOk K W' st' H' → RE W' e σ' → D.ct σ' H'
  | .ok (.rt t) st' => ∀ W' H' v, Grow W H W' H' → StoOk K W' st' H' → Rep K W' t v → D.rt v H'
  | _ => False
theorem AfterS.mono {RE : Wd → Ev → L2.St → Prop} {o : Out Fl} {D : Ends} (g : Grow W H W1 H1) (s : StoOk K W1 st1 H1) (h : AfterS K RE W H o D) : AfterS K RE W1 H1 o D := by
  cases o with
  | no => exact h
  | ex c x st => exact h
  | ok a st =>
    cases a with
    | nx e => exact fun W2 H2 b g2 s2 r2 => h W2 H2 b (g.trans s g2) s2 r2
    | bk e => exact fun W2 H2 b g2 s2 r2 => h W2 H2 b (g.trans s g2) s2 r2
    | ct e => exact fun W2 H2 b g2 s2 r2 => h W2 H2 b (g.trans s g2) s2 r2
    | rt t => exact fun W2 H2 b g2 s2 r2 => h W2 H2 b (g.trans s g2) s2 r2
structure EnvR (K : PySem.W.Frag) (W : Wd) (env : Ev) (σ : L2.St) : Prop where
  len : env.length = σ.length
  at_ : ∀ (i : Nat) (t : T), env[i]? = some (some t) → ∃ v, σ[i]? = some (some v) ∧ Rep K W t v
theorem EnvR.mono {env : Ev} {σ : L2.St} (h : Le W W') (e : EnvR K W env σ) : EnvR K W' env σ := ⟨e.len, fun i t q => by
  obtain ⟨v, h1, h2⟩ := e.at_ i t q
  exact ⟨v, h1, Rep.mono h _ _ h2⟩⟩
theorem EnvR.set {env : Ev} {σ : L2.St} {i : Nat} {t : T} {v : V} (e : EnvR K W env σ) (r : Rep K W t v) : EnvR K W (env.set i (some t)) (σ.set i (some v)) := ⟨by simp [e.len], fun j u q => by
  by_cases hj : j = i
  · subst hj
    have hl : j < env.length := by
      have := (List.getElem?_eq_some_iff.mp q).1
      simpa using this
    rw [List.getElem?_set_self hl] at q
    cases q
    exact ⟨v, by rw [List.getElem?_set_self (by rw [← e.len]; exact hl)], r⟩
  · rw [List.getElem?_set_ne (Ne.symm hj)] at q ⊢
    exact e.at_ j u q⟩
def tDG {α β : Type} (K : PySem.W.Frag) (R : Wd → α → β → Prop) (f : Ev → Sto → Out α) (σ : L2.St) (H : Hp) (Q : β → Hp → Prop) : Prop := ∃ W env st, EnvR K W env σ ∧ StoOk K W st H ∧ AfterG K W H R (f env st) Q
def tD (K : PySem.W.Frag) (f : Sx) : TE := tDG K (Rep K) f
def tDA (K : PySem.W.Frag) (f : Sa) : TA := tDG K (Reps K) f
def tDB (K : PySem.W.Frag) (f : Tst) : TT := tDG K (fun _ (a b : Bool) => a = b) f
def tDS (K : PySem.W.Frag) (f : Ss) : TS := fun D σ H => ∃ W env st, EnvR K W env σ ∧ StoOk K W st H ∧ AfterS K (EnvR K) W H (f env st) D
end
end Dn

set_option Elab.async false
set_option linter.all false
set_option maxRecDepth 100000
set_option maxHeartbeats 4000000
/-! Dn, part B: expressions, tests, statements, loops, calls. -/
namespace Dn
open PySem PySem.Spec PyProof.Rows L2
abbrev LSt := L2.St

section
variable {X : Cx} {e : Expr} {t t' : TE}
theorem weakE (h : PE X e t) (w : ∀ σ H Q, t' σ H Q → t σ H Q) : PE X e t' := ⟨fun pins s σ H Q I q => h.run pins s σ H Q I (w σ H Q q)⟩
theorem weakT {t t' : TT} (h : PT X e t) (w : ∀ σ H Q, t' σ H Q → t σ H Q) : PT X e t' := ⟨fun pins s σ H Q I q => h.run pins s σ H Q I (w σ H Q q)⟩
theorem weakW {t t' : TT} (h : PW X e t) (w : ∀ σ H Q, t' σ H Q → t σ H Q) : PW X e t' := ⟨fun wh pins s σ H Q I q => h.run wh pins s σ H Q I (w σ H Q q)⟩
theorem weakA {es : List Expr} {t t' : TA} (h : PA X es t) (w : ∀ σ H Q, t' σ H Q → t σ H Q) : PA X es t' := ⟨fun pos pins s σ H Q I q => h.run pos pins s σ H Q I (w σ H Q q)⟩
theorem weakS {st : Stmt} {t t' : TS} (h : PS X st t) (w : ∀ D σ H, t' D σ H → t D σ H) : PS X st t' := ⟨fun pins s σ H D I q => h.run pins s σ H D I (w D σ H q)⟩
theorem weakSs {st : List Stmt} {t t' : TS} (h : PSs X st t) (w : ∀ D σ H, t' D σ H → t D σ H) : PSs X st t' := ⟨fun pins s σ H D I q => h.run pins s σ H D I (w D σ H q)⟩
end
/-- the step that all proofs take: a part's reading from the whole's -/
theorem part {α β γ δ : Type} {K : PySem.W.Frag} {R : Wd → α → β → Prop} {R' : Wd → γ → δ → Prop} {W : Wd} {env : Ev} {σ : LSt} {st : Sto} {H : Hp} {f : Ev → Sto → Out α} {g : α → Sto → Out γ} {Q' : δ → Hp → Prop} {Q : β → Hp → Prop}
    (hE : EnvR K W env σ) (hS : StoOk K W st H) (h : AfterG K W H R' ((f env st).bind g) Q')
    (hk : ∀ W1 H1 a b st1, EnvR K W1 env σ → StoOk K W1 st1 H1 → R W1 a b → AfterG K W1 H1 R' (g a st1) Q' → Q b H1) : tDG K R f σ H Q :=
  ⟨W, env, st, hE, hS, h.bind fun W1 H1 a b st1 g s r q => hk W1 H1 a b st1 (hE.mono g.le) s r q⟩
/-- .. the last one -/
theorem fin {α β : Type} {K : PySem.W.Frag} {R : Wd → α → β → Prop} {W : Wd} {env : Ev} {σ : LSt} {st : Sto} {H : Hp} {f : Ev → Sto → Out α} {Q : β → Hp → Prop} (hE : EnvR K W env σ) (hS : StoOk K W st H) (h : AfterG K W H R (f env st) Q) : tDG K R f σ H Q := ⟨W, env, st, hE, hS, h⟩
theorem partS {α β : Type} {K : PySem.W.Frag} {R : Wd → α → β → Prop} {W : Wd} {env : Ev} {σ : LSt} {st : Sto} {H : Hp} {f : Ev → Sto → Out α} {g : α → Sto → Out Fl} {D : Ends} {Q : β → Hp → Prop}
    (hE : EnvR K W env σ) (hS : StoOk K W st H) (h : AfterS K (EnvR K) W H ((f env st).bind g) D)
    (hk : ∀ W1 H1 a b st1, EnvR K W1 env σ → StoOk K W1 st1 H1 → R W1 a b → AfterS K (EnvR K) W1 H1 (g a st1) D → Q b H1) : tDG K R f σ H Q := by
  refine ⟨W, env, st, hE, hS, ?_⟩
  cases q : f env st with
  | no => rw [q] at h; exact h
  | ex c x st1 => rw [q] at h; exact h
  | ok a st1 =>
    rw [q] at h
    have h : AfterS K (EnvR K) W H (g a st1) D := h
    exact fun W1 H1 b g1 s1 r1 => hk W1 H1 a b st1 (hE.mono g1.le) s1 r1 (h.mono g1 s1)
theorem AfterS.bind {α β : Type} {K : PySem.W.Frag} {R : Wd → α → β → Prop} {RE : Wd → Ev → LSt → Prop} {W : Wd} {H : Hp} {o : Out α} {f : α → Sto → Out Fl} {D : Ends} {Q : β → Hp → Prop} (h : AfterS K RE W H (o.bind f) D)
    (hk : ∀ W1 H1 a b st1, Grow W H W1 H1 → StoOk K W1 st1 H1 → R W1 a b → AfterS K RE W1 H1 (f a st1) D → Q b H1) : AfterG K W H R o Q := by
  cases o with
  | no => exact h
  | ex c x st => exact h
  | ok a st => exact fun W1 H1 b g s r => hk W1 H1 a b st g s r (AfterS.mono g s h)
theorem ok_now {α β : Type} {K : PySem.W.Frag} {R : Wd → α → β → Prop} {W : Wd} {st : Sto} {H : Hp} {a : α} {b : β} {Q : β → Hp → Prop} (s : StoOk K W st H) (r : R W a b) (h : AfterG K W H R (.ok a st) Q) : Q b H := h W H b (Grow.refl W H) s r

/-! ### expressions -/
def eVar (i : Nat) : Sx := fun env st => match env[i]? with
  | some (some t) => .ok t st
  | _ => .no
def eC (t : T) : Sx := fun _ st => .ok t st
def aNil : Sa := fun _ st => .ok [] st
def aCons (f : Sx) (g : Sa) : Sa := fun env st => (f env st).bind fun x st => (g env st).bind fun xs st => .ok (x :: xs) st
def eUn (op : T → Sto → Out T) (f : Sx) : Sx := fun env st => (f env st).bind op
def eBin (op : T → T → Sto → Out T) (f g : Sx) : Sx := fun env st => (f env st).bind fun x st => (g env st).bind fun y st => op x y st
def eCall (m : Fn) (f : Sa) (ds : List T) : Sx := fun env st => (f env st).bind fun ts st => m (ts ++ ds) st
def ePrim (m : Fn) (f : Sa) : Sx := fun env st => (f env st).bind m
def eIf (c : Tst) (f g : Sx) : Sx := fun env st => (c env st).bind fun b st => if b = true then f env st else g env st
def eAnd (f g : Sx) : Sx := fun env st => (f env st).bind fun x st => match x with
  | .bl true => g env st
  | .bl false => .ok (.bl false) st
  | _ => .no
def eOr (f g : Sx) : Sx := fun env st => (f env st).bind fun x st => match x with
  | .bl true => .ok (.bl true) st
  | .bl false => g env st
  | _ => .no
def eNot (f : Sx) : Sx := fun env st => (f env st).bind fun x st => match x with
  | .bl b => .ok (.bl (!b)) st
  | _ => .no
def eChain (op op' : T → T → Sto → Out T) (f g h : Sx) : Sx := fun env st => (f env st).bind fun x st => (g env st).bind fun y st => (op x y st).bind fun z st => match z with
  | .bl true => (h env st).bind fun w st => op' y w st
  | .bl false => .ok (.bl false) st
  | _ => .no
def cVal (f : Sx) : Tst := fun env st => (f env st).bind fun x st => match x with
  | .bl b => .ok b st
  | _ => .no
def cAnd (c d : Tst) : Tst := fun env st => (c env st).bind fun b st => if b = true then d env st else .ok false st
def cOr (c d : Tst) : Tst := fun env st => (c env st).bind fun b st => if b = true then .ok true st else d env st
def cNot (c : Tst) : Tst := fun env st => (c env st).bind fun b st => .ok (!b) st
/-- a new list as a tree; as an object -/
def nLst (xs : List T) (st : Sto) : Out T := if xs.length ≤ sizeLine then .ok (.lst xs) st else .no
def nTup (xs : List T) (st : Sto) : Out T := if xs.length ≤ sizeLine then .ok (.tup xs) st else .no
def nObj (xs : List T) (st : Sto) : Out T := if xs.length ≤ sizeLine ∧ T.bels st.length xs = true then .ok (.ref st.length) (st ++ [.lst xs]) else .no
def eTup (f : Sa) : Sx := fun env st => (f env st).bind nTup
def eLst (f : Sa) : Sx := fun env st => (f env st).bind nLst
def eObj (f : Sa) : Sx := fun env st => (f env st).bind nObj

def UnD (K : PySem.W.Frag) (r : V → Hp → VK → Prop) (op : T → Sto → Out T) : Prop := ∀ W H st x vx Q, StoOk K W st H → Rep K W x vx → AfterG K W H (Rep K) (op x st) Q → r vx H Q
def OpD (K : PySem.W.Frag) (r : R2) (op : T → T → Sto → Out T) : Prop := ∀ W H st x y vx vy Q, StoOk K W st H → Rep K W x vx → Rep K W y vy → AfterG K W H (Rep K) (op x y st) Q → r vx vy H Q
def CallD (K : PySem.W.Frag) (r : List V → Hp → VK → Prop) (op : Fn) : Prop := ∀ W H st ts vs Q, StoOk K W st H → Reps K W ts vs → AfterG K W H (Rep K) (op ts st) Q → r vs H Q

section
variable {X : Cx} {a b c : Expr} {es : List Expr} {f g h : Sx} {fs : Sa} {pos : Pos} {x : Str} {op : T → T → Sto → Out T} {r r' : R2}
theorem de_var (i : Nat) (hN : X.N[i]? = some x := by rfl) (hv : Vis X.env.scope x := by first | exact Or.inl rfl | exact Or.inr (Or.inl rfl) | exact Or.inr (Or.inr rfl)) (hd : (x == ("__debug__" : Str)) = false := by decide)
    (hcd : (x == ("__classdict__" : Str)) = false := by decide) : PE X (.Name x pos) (tD X.K (eVar i)) := by
  refine weakE (pe_var hN hv hd hcd) fun σ H Q ⟨W, env, st, hE, hS, hA⟩ => ?_
  unfold eVar at hA
  split at hA
  · next t q =>
    obtain ⟨v, h1, h2⟩ := hE.at_ i t q
    exact ⟨v, h1, ok_now hS h2 hA⟩
  · exact hA.elim
theorem de_c {t : T} {v : V} {ex : Expr} (he : PE X ex (tC v)) (hr : ∀ W, Rep X.K W t v) : PE X ex (tD X.K (eC t)) :=
  weakE he fun σ H Q ⟨W, env, st, hE, hS, hA⟩ => ok_now hS (hr W) hA
theorem de_int {i : Int} {j : Nat} : PE X (.Constant (.int i) j pos) (tD X.K (eC (.int i))) := de_c pe_int fun _ => rfl
theorem de_bl {i : Bool} {j : Nat} : PE X (.Constant (.bool i) j pos) (tD X.K (eC (.bl i))) := de_c pe_bl fun _ => rfl
theorem de_non {j : Nat} : PE X (.Constant .none j pos) (tD X.K (eC .non)) := de_c pe_non fun _ => rfl
theorem de_str {i : Str} {j : Nat} : PE X (.Constant (.str i) j pos) (tD X.K (eC (.str i))) := de_c pe_str fun _ => rfl
theorem da_nil : PA X [] (tDA X.K aNil) := weakA pa_nil fun σ H Q ⟨W, env, st, hE, hS, hA⟩ => ok_now hS (show Reps X.K W [] [] from rfl) hA
theorem da_cons (ha : PE X a (tD X.K f)) (hr : PA X es (tDA X.K fs)) (hs : starEach (a :: es) X.env = (false, eval a X.env) :: starEach es X.env := by rfl) : PA X (a :: es) (tDA X.K (aCons f fs)) := by
  refine weakA (pa_cons ha hr hs) fun σ H Q ⟨W, env, st, hE, hS, hA⟩ => ?_
  refine part hE hS hA fun W1 H1 x v st1 hE1 hS1 r1 q1 => ?_
  refine ⟨W1, env, st1, hE1, hS1, q1.bind fun W2 H2 xs vs st2 g2 hS2 r2 q2 => ?_⟩
  exact ok_now hS2 (show Reps X.K W2 (x :: xs) (v :: vs) from ⟨v, vs, rfl, Rep.mono g2.le _ _ r1, r2⟩) q2
theorem de_op {o : Operator} (ho : OpR X (binaryOp o) r) (hd : OpD X.K r op) (ha : PE X a (tD X.K f)) (hb : PE X b (tD X.K g)) : PE X (.BinOp a o b pos) (tD X.K (eBin op f g)) := by
  refine weakE (pe_op ho ha hb) fun σ H Q ⟨W, env, st, hE, hS, hA⟩ => ?_
  refine part hE hS hA fun W1 H1 x v st1 hE1 hS1 r1 q1 => ?_
  refine ⟨W1, env, st1, hE1, hS1, q1.bind fun W2 H2 y u st2 g2 hS2 r2 q2 => ?_⟩
  exact hd W2 H2 st2 x y v u Q hS2 (Rep.mono g2.le _ _ r1) r2 q2
theorem de_un {o : UnaryOp} {r : V → Hp → VK → Prop} {op : T → Sto → Out T} (ho : UnR X (unaryOp o) r) (hd : UnD X.K r op) (ha : PE X a (tD X.K f)) : PE X (.UnaryOp o a pos) (tD X.K (eUn op f)) := by
  refine weakE (pe_un ho ha) fun σ H Q ⟨W, env, st, hE, hS, hA⟩ => ?_
  exact part hE hS hA fun W1 H1 x v st1 hE1 hS1 r1 q1 => hd W1 H1 st1 x v Q hS1 r1 q1
theorem de_cmp {o : CmpOp} (ho : OpR X (compareOp o) r) (hd : OpD X.K r op) (ha : PE X a (tD X.K f)) (hb : PE X b (tD X.K g)) (hm : behindInMarks o b = false := by first | exact nomark _ | rfl) : PE X (.Compare a [o] [b] pos) (tD X.K (eBin op f g)) := by
  refine weakE (pe_cmpR ho ha hb hm) fun σ H Q ⟨W, env, st, hE, hS, hA⟩ => ?_
  refine part hE hS hA fun W1 H1 x v st1 hE1 hS1 r1 q1 => ?_
  refine ⟨W1, env, st1, hE1, hS1, q1.bind fun W2 H2 y u st2 g2 hS2 r2 q2 => ?_⟩
  exact hd W2 H2 st2 x y v u Q hS2 (Rep.mono g2.le _ _ r1) r2 q2
/-- the value's reading, as a test's -/
theorem tst_of {K : PySem.W.Frag} {f : Sx} {σ : LSt} {H : Hp} {Q : Bool → Hp → Prop} (h : tDB K (cVal f) σ H Q) : tD K f σ H fun x H1 => ∃ k, x = .bl k ∧ Q k H1 := by
  obtain ⟨W, env, st, hE, hS, hA⟩ := h
  refine part hE hS hA fun W1 H1 x v st1 hE1 hS1 r1 q1 => ?_
  cases x with
  | bl b =>
    have r1 : v = .bl b := r1
    exact ⟨b, r1, ok_now hS1 rfl q1⟩
  | _ => exact q1.elim
theorem dt_cmp {o : CmpOp} (ho : OpR X (compareOp o) r) (hd : OpD X.K r op) (ha : PE X a (tD X.K f)) (hb : PE X b (tD X.K g)) (hm : behindInMarks o b = false := by first | exact nomark _ | rfl) : PT X (.Compare a [o] [b] pos) (tDB X.K (cVal (eBin op f g))) := by
  refine weakT (pt_cmpR ho ha hb hm) fun σ H Q h => ?_
  obtain ⟨W, env, st, hE, hS, hA⟩ := tst_of h
  refine part hE hS hA fun W1 H1 x v st1 hE1 hS1 r1 q1 => ?_
  refine ⟨W1, env, st1, hE1, hS1, q1.bind fun W2 H2 y u st2 g2 hS2 r2 q2 => ?_⟩
  exact hd W2 H2 st2 x y v u _ hS2 (Rep.mono g2.le _ _ r1) r2 q2
theorem chain_red {K : PySem.W.Frag} {op op' : T → T → Sto → Out T} {r r' : R2} {f g h : Sx} {σ : LSt} {H : Hp} {Q : VK} (hd : OpD K r op) (hd' : OpD K r' op') (q : tD K (eChain op op' f g h) σ H Q) : tChain r r' (tD K f) (tD K g) (tD K h) σ H Q := by
  obtain ⟨W, env, st, hE, hS, hA⟩ := q
  refine part hE hS hA fun W1 H1 x v st1 hE1 hS1 r1 q1 => ?_
  refine ⟨W1, env, st1, hE1, hS1, q1.bind fun W2 H2 y u st2 g2 hS2 r2 q2 => ?_⟩
  refine hd W2 H2 st2 x y v u _ hS2 (Rep.mono g2.le _ _ r1) r2 (q2.bind fun W3 H3 z w st3 g3 hS3 r3 q3 => ?_)
  cases z with
  | bl k =>
    have r3 : w = .bl k := r3
    refine ⟨k, r3, ?_⟩
    cases k with
    | false => exact ok_now hS3 (show Rep K W3 (.bl false) (.bl false) from rfl) q3
    | true =>
      refine ⟨W3, env, st3, (hE1.mono g2.le).mono g3.le, hS3, q3.bind fun W4 H4 y' w' st4 g4 hS4 r4 q4 => ?_⟩
      exact hd' W4 H4 st4 y y' u w' Q hS4 (Rep.mono g4.le _ _ (Rep.mono g3.le _ _ r2)) r4 q4
  | _ => exact q3.elim
theorem de_chain {o o' : CmpOp} {op' : T → T → Sto → Out T} (ho : OpR X (compareOp o) r) (ho' : OpR X (compareOp o') r') (hd : OpD X.K r op) (hd' : OpD X.K r' op') (ha : PE X a (tD X.K f)) (hb : PE X b (tD X.K g)) (hc : PE X c (tD X.K h))
    (hm : lastMarks [o, o'] [b, c] = false := by with_unfolding_all rfl) : PE X (.Compare a [o, o'] [b, c] pos) (tD X.K (eChain op op' f g h)) :=
  weakE (pe_chain ho ho' ha hb hc hm) fun _ _ _ q => chain_red hd hd' q
theorem dt_chain {o o' : CmpOp} {op' : T → T → Sto → Out T} (ho : OpR X (compareOp o) r) (ho' : OpR X (compareOp o') r') (hd : OpD X.K r op) (hd' : OpD X.K r' op') (ha : PE X a (tD X.K f)) (hb : PE X b (tD X.K g)) (hc : PE X c (tD X.K h))
    (hm : lastMarks [o, o'] [b, c] = false := by with_unfolding_all rfl) : PT X (.Compare a [o, o'] [b, c] pos) (tDB X.K (cVal (eChain op op' f g h))) :=
  weakT (pt_chain ho ho' ha hb hc hm) fun _ _ _ q => chain_red hd hd' (tst_of q)
/-- a truth value as a test: a call, a name, a subscript, True .. -/
theorem dt_val (ha : PE X a (tD X.K f)) (he : ∀ whole, isTrue a X.env whole = (do let v ← whole; standAt a.pos; holding [v] (truthy v)) := by intro _; rfl) : PT X a (tDB X.K (cVal f)) :=
  weakT (pt_val ha he) fun _ _ _ q => tst_of q
theorem de_and {rest : List Expr} (ha : PE X a (tD X.K f)) (hb : PE X (.BoolOp .And (b :: rest) pos) (tD X.K g)) : PE X (.BoolOp .And (a :: b :: rest) pos) (tD X.K (eAnd f g)) := by
  refine weakE (pe_and ha hb) fun σ H Q ⟨W, env, st, hE, hS, hA⟩ => ?_
  refine part hE hS hA fun W1 H1 x v st1 hE1 hS1 r1 q1 => ?_
  cases x with
  | bl k =>
    have r1 : v = .bl k := r1
    refine ⟨k, r1, ?_⟩
    cases k with
    | true => exact ⟨W1, env, st1, hE1, hS1, q1⟩
    | false => exact ok_now hS1 (show Rep X.K W1 (.bl false) (.bl false) from rfl) q1
  | _ => exact q1.elim
theorem de_or {rest : List Expr} (ha : PE X a (tD X.K f)) (hb : PE X (.BoolOp .Or (b :: rest) pos) (tD X.K g)) : PE X (.BoolOp .Or (a :: b :: rest) pos) (tD X.K (eOr f g)) := by
  refine weakE (pe_or ha hb) fun σ H Q ⟨W, env, st, hE, hS, hA⟩ => ?_
  refine part hE hS hA fun W1 H1 x v st1 hE1 hS1 r1 q1 => ?_
  cases x with
  | bl k =>
    have r1 : v = .bl k := r1
    refine ⟨k, r1, ?_⟩
    cases k with
    | false => exact ⟨W1, env, st1, hE1, hS1, q1⟩
    | true => exact ok_now hS1 (show Rep X.K W1 (.bl true) (.bl true) from rfl) q1
  | _ => exact q1.elim
theorem de_one {o : BoolOp} (ha : PE X a (tD X.K f)) : PE X (.BoolOp o [a] pos) (tD X.K f) := pe_one ha
theorem de_not (ha : PE X a (tD X.K f)) : PE X (.UnaryOp .Not a pos) (tD X.K (eNot f)) := by
  refine weakE (pe_not ha) fun σ H Q ⟨W, env, st, hE, hS, hA⟩ => ?_
  refine part hE hS hA fun W1 H1 x v st1 hE1 hS1 r1 q1 => ?_
  cases x with
  | bl k =>
    have r1 : v = .bl k := r1
    exact ⟨k, r1, ok_now hS1 (show Rep X.K W1 (.bl (!k)) (.bl (!k)) from rfl) q1⟩
  | _ => exact q1.elim
variable {tc td : Tst}
theorem de_if (hc : PT X c (tDB X.K tc)) (ha : PE X a (tD X.K f)) (hb : PE X b (tD X.K g)) : PE X (.IfExp c a b pos) (tD X.K (eIf tc f g)) := by
  refine weakE (pe_ifExp hc ha hb) fun σ H Q ⟨W, env, st, hE, hS, hA⟩ => ?_
  refine part hE hS hA fun W1 H1 x v st1 hE1 hS1 r1 q1 => ?_
  have r1 : x = v := r1
  subst r1
  cases x with
  | true => exact ⟨W1, env, st1, hE1, hS1, q1⟩
  | false => exact ⟨W1, env, st1, hE1, hS1, q1⟩
theorem dw_and1 (ha : PT X a (tDB X.K tc)) : PW X (.BoolOp .And [a] pos) (tDB X.K tc) := pw_and1 ha
theorem dw_or1 (ha : PT X a (tDB X.K tc)) : PW X (.BoolOp .Or [a] pos) (tDB X.K tc) := pw_or1 ha
theorem dw_and {rest : List Expr} (ha : PT X a (tDB X.K tc)) (hb : PW X (.BoolOp .And (b :: rest) pos) (tDB X.K td)) : PW X (.BoolOp .And (a :: b :: rest) pos) (tDB X.K (cAnd tc td)) := by
  refine weakW (pw_and ha hb) fun σ H Q ⟨W, env, st, hE, hS, hA⟩ => ?_
  refine part hE hS hA fun W1 H1 x v st1 hE1 hS1 r1 q1 => ?_
  have r1 : x = v := r1
  subst r1
  cases x with
  | true => exact ⟨W1, env, st1, hE1, hS1, q1⟩
  | false => exact ok_now hS1 rfl q1
theorem dw_or {rest : List Expr} (ha : PT X a (tDB X.K tc)) (hb : PW X (.BoolOp .Or (b :: rest) pos) (tDB X.K td)) : PW X (.BoolOp .Or (a :: b :: rest) pos) (tDB X.K (cOr tc td)) := by
  refine weakW (pw_or ha hb) fun σ H Q ⟨W, env, st, hE, hS, hA⟩ => ?_
  refine part hE hS hA fun W1 H1 x v st1 hE1 hS1 r1 q1 => ?_
  have r1 : x = v := r1
  subst r1
  cases x with
  | true => exact ok_now hS1 rfl q1
  | false => exact ⟨W1, env, st1, hE1, hS1, q1⟩
theorem dt_not (ha : PT X a (tDB X.K tc)) : PT X (.UnaryOp .Not a pos) (tDB X.K (cNot tc)) := by
  refine weakT (pt_not ha) fun σ H Q ⟨W, env, st, hE, hS, hA⟩ => ?_
  refine part hE hS hA fun W1 H1 x v st1 hE1 hS1 r1 q1 => ?_
  have r1 : x = v := r1
  subst r1
  exact ok_now hS1 rfl q1
/-! ### displays -/
theorem de_tup {x1 : Nat} (h : PA X es (tDA X.K fs)) : PE X (.Tuple es x1 pos) (tD X.K (eTup fs)) := by
  refine weakE (pe_tup h) fun σ H Q ⟨W, env, st, hE, hS, hA⟩ => ?_
  refine part hE hS hA fun W1 H1 xs vs st1 hE1 hS1 r1 q1 => ?_
  unfold nTup at q1
  split at q1
  · next hz =>
    rw [Reps.length r1] at hz
    refine ⟨hz, fun p np => ?_⟩
    obtain ⟨s2, g2⟩ := hS1.add (o := .tup vs) np
    exact q1 _ _ _ g2 s2 ⟨p, vs, rfl, .inl (.inl upd_same), hz, Reps.mono g2.le _ _ r1⟩
  · exact q1.elim
theorem de_lst (h : PA X es (tDA X.K fs)) : PE X (.List es pos) (tD X.K (eLst fs)) := by
  refine weakE (pe_lst h) fun σ H Q ⟨W, env, st, hE, hS, hA⟩ => ?_
  refine part hE hS hA fun W1 H1 xs vs st1 hE1 hS1 r1 q1 => ?_
  unfold nLst at q1
  split at q1
  · next hz =>
    rw [Reps.length r1] at hz
    refine ⟨hz, fun p np => ?_⟩
    obtain ⟨s2, g2⟩ := hS1.add (o := .lst vs) np
    exact q1 _ _ _ g2 s2 ⟨p, vs, rfl, .inl (.inl upd_same), hz, Reps.mono g2.le _ _ r1⟩
  · exact q1.elim
theorem de_obj (h : PA X es (tDA X.K fs)) : PE X (.List es pos) (tD X.K (eObj fs)) := by
  refine weakE (pe_lst h) fun σ H Q ⟨W, env, st, hE, hS, hA⟩ => ?_
  refine part hE hS hA fun W1 H1 xs vs st1 hE1 hS1 r1 q1 => ?_
  unfold nObj at q1
  split at q1
  · next hz =>
    obtain ⟨hz, hb⟩ := hz
    rw [Reps.length r1] at hz
    refine ⟨hz, fun p np => ?_⟩
    obtain ⟨s2, g2⟩ := hS1.push np hz r1 hb
    refine q1 _ _ _ g2 s2 ⟨p, rfl, ?_⟩
    show (W1.as ++ [p])[st1.length]? = some p
    rw [List.getElem?_append_right (by rw [hS1.len]; exact Nat.le_refl _), hS1.len]
    simp
  · exact q1.elim
/-! ### calls of builtins -/
theorem de_callB {id : String} {rr : List V → Hp → VK → Prop} {m : Fn} {p : Pos} (hc : CallR X (.builtin id) rr) (hd : CallD X.K rr m) (hg : Gl X x) (hm : X.mg x = none) (hv : bootBuiltins x = some (.builtin id)) (ha : PA X (a :: es) (tDA X.K fs)) (hn : x ≠ "__name__" := by decide) (hdb : (x == ("__debug__" : Str)) = false := by decide)
    (he : starEach (a :: es) X.env = (false, eval a X.env) :: starEach es X.env := by rfl) (hpl : (backTo pos (starEach es X.env)).any (·.1) = false := by rfl) : PE X (.Call (.Name x p) (a :: es) [] pos) (tD X.K (ePrim m fs)) := by
  refine weakE (pe_callB hc hg hm hv ha hn hdb he hpl) fun σ H Q ⟨W, env, st, hE, hS, hA⟩ => ?_
  exact part hE hS hA fun W1 H1 xs vs st1 hE1 hS1 r1 q1 => hd W1 H1 st1 xs vs Q hS1 r1 q1
theorem de_callTy {id : String} {rr : List V → Hp → VK → Prop} {m : Fn} {p : Pos} (hc : CallR X (.type id) rr) (hd : CallD X.K rr m) (hg : Gl X x) (hm : X.mg x = none) (hv : bootBuiltins x = some (.type id)) (ha : PA X (a :: es) (tDA X.K fs)) (hn : x ≠ "__name__" := by decide) (hdb : (x == ("__debug__" : Str)) = false := by decide)
    (he : starEach (a :: es) X.env = (false, eval a X.env) :: starEach es X.env := by rfl) (hpl : (backTo pos (starEach es X.env)).any (·.1) = false := by rfl) : PE X (.Call (.Name x p) (a :: es) [] pos) (tD X.K (ePrim m fs)) := by
  refine weakE (pe_callTy hc hg hm hv ha hn hdb he hpl) fun σ H Q ⟨W, env, st, hE, hS, hA⟩ => ?_
  exact part hE hS hA fun W1 H1 xs vs st1 hE1 hS1 r1 q1 => hd W1 H1 st1 xs vs Q hS1 r1 q1
theorem de_ix (hr : IxR X r) (hd : OpD X.K r op) (ha : PE X a (tD X.K f)) (hb : PE X b (tD X.K g)) (hs : PlainIx b) : PE X (.Subscript a b pos) (tD X.K (eBin op f g)) := by
  refine weakE (pe_ix hr ha hb hs) fun σ H Q ⟨W, env, st, hE, hS, hA⟩ => ?_
  refine part hE hS hA fun W1 H1 x v st1 hE1 hS1 r1 q1 => ?_
  refine ⟨W1, env, st1, hE1, hS1, q1.bind fun W2 H2 y u st2 g2 hS2 r2 q2 => ?_⟩
  exact hd W2 H2 st2 x y v u Q hS2 (Rep.mono g2.le _ _ r1) r2 q2
end

/-! ### calls of defs -/
def SpD (K : PySem.W.Frag) (m : Fn) : Sp := fun vs H Q _ => ∃ W ts st, Reps K W ts vs ∧ StoOk K W st H ∧ AfterG K W H (Rep K) (m ts st) Q
structure Has (P : Program) (w : World) (K : PySem.W.Frag) (mg : Str → Option Value) (base : Heap) (x : Str) (k : Nat) (ps : List Str) (m : Fn) : Prop where
  ex : ∃ f fd, FnOk P w K mg base CX0 k f fd ps (SpD K m) ∧ mg x = some (.ref f) ∧ PySem.W.keepIn K (.ref f) = true ∧ Binds K fd ps []
theorem de_call {X : Cx} {k : Nat} {ps : List Str} {m : Fn} {a : Expr} {es : List Expr} {fs : Sa} {p pos : Pos} {x : Str} (G : Has X.prog X.w X.K X.mg X.base x k ps m) (hr : Room k X.A) (hg : Gl X x) (ha : PA X (a :: es) (tDA X.K fs)) (hdb : (x == ("__debug__" : Str)) = false := by decide)
    (he : starEach (a :: es) X.env = (false, eval a X.env) :: starEach es X.env := by rfl) (hpl : (backTo pos (starEach es X.env)).any (·.1) = false := by rfl) : PE X (.Call (.Name x p) (a :: es) [] pos) (tD X.K (ePrim m fs)) := by
  obtain ⟨f, fd, F, h1, h2, h3⟩ := G.ex
  refine weakE (pe_call F hr hg h1 h2 h3 .nil pass0 ha hdb he hpl) fun σ H Q ⟨W, env, st, hE, hS, hA⟩ => ?_
  refine part hE hS hA fun W1 H1 xs vs st1 hE1 hS1 r1 q1 => ?_
  rw [List.append_nil]
  exact ⟨W1, xs, st1, r1, hS1, q1⟩
theorem de_call0 {X : Cx} {k : Nat} {ps : List Str} {m : Fn} {p pos : Pos} {x : Str} (G : Has X.prog X.w X.K X.mg X.base x k ps m) (hr : Room k X.A) (hg : Gl X x) (hdb : (x == ("__debug__" : Str)) = false := by decide) : PE X (.Call (.Name x p) [] [] pos) (tD X.K (ePrim m aNil)) := by
  obtain ⟨f, fd, F, h1, h2, h3⟩ := G.ex
  refine weakE (pe_call0 F hr hg h1 h2 h3 .nil pass0 hdb) fun σ H Q ⟨W, env, st, hE, hS, hA⟩ => ?_
  exact ⟨W, [], st, rfl, hS, hA⟩

/-! ### statements -/
def sNil : Ss := fun env st => .ok (.nx env) st
def sSeq (s u : Ss) : Ss := fun env st => (s env st).bind fun f st => match f with
  | .nx env => u env st
  | .rt t => .ok (.rt t) st
  | .bk e => .ok (.bk e) st
  | .ct e => .ok (.ct e) st
def sNo : Ss := fun _ _ => .no
def sBreak : Ss := fun env st => .ok (.bk env) st
def sCont : Ss := fun env st => .ok (.ct env) st
def sExpr (f : Sx) : Ss := fun env st => (f env st).bind fun _ st => .ok (.nx env) st
def sRet (f : Sx) : Ss := fun env st => (f env st).bind fun t st => .ok (.rt t) st
def sRetN : Ss := fun _ st => .ok (.rt .non) st
def sIf (c : Tst) (s u : Ss) : Ss := fun env st => (c env st).bind fun b st => if b = true then s env st else u env st
/-- targets -/
abbrev Tg := T → Ev → Option Ev
abbrev Tgs := List T → Ev → Option Ev
def gtName (i : Nat) : Tg := fun t env => some (env.set i (some t))
def gtNil : Tgs := fun ts env => if ts.isEmpty then some env else none
def gtCons (g : Tg) (r : Tgs) : Tgs := fun ts env => match ts with
  | t :: ts => (g t env).bind fun env => r ts env
  | [] => none
def gtTup (n : Nat) (r : Tgs) : Tg := fun t env => match t with
  | .tup xs => if xs.length = n then r xs env else none
  | _ => none
def sAsg (f : Sx) (g : Tg) : Ss := fun env st => (f env st).bind fun t st => match g t env with
  | some env => .ok (.nx env) st
  | none => .no
def sSet (i : Nat) (f : Sx) : Ss := fun env st => (f env st).bind fun t st => .ok (.nx (env.set i (some t))) st
def sPar (i j : Nat) (f : Sa) : Ss := fun env st => (f env st).bind fun ts st => match ts with
  | [x, y] => .ok (.nx ((env.set i (some x)).set j (some y))) st
  | _ => .no
def sAug (i : Nat) (op : T → T → Sto → Out T) (f : Sx) : Ss := fun env st => match env[i]? with
  | some (some x) => (f env st).bind fun y st => (op x y st).bind fun z st => .ok (.nx (env.set i (some z))) st
  | _ => .no
section
variable {X : Cx} {a b c : Expr} {es : List Expr} {f g h : Sx} {fs : Sa} {pos : Pos} {x : Str} {op : T → T → Sto → Out T} {r r' : R2} {st₀ : Stmt} {rest : List Stmt} {s u : Ss}
def GD (K : PySem.W.Frag) (tg : TG) (g : Tg) : Prop := ∀ W H st env σ t v env' Q, EnvR K W env σ → StoOk K W st H → Rep K W t v → g t env = some env' → (∀ σ', EnvR K W env' σ' → Q σ' H) → tg v σ H Q
def GDs (K : PySem.W.Frag) (tg : TGs) (g : Tgs) : Prop := ∀ W H st env σ ts vs env' Q, EnvR K W env σ → StoOk K W st H → Reps K W ts vs → g ts env = some env' → (∀ σ', EnvR K W env' σ' → Q σ' H) → tg vs σ H Q
theorem gd_name {K : PySem.W.Frag} {i : Nat} : GD K (gName i) (gtName i) := fun W H st env σ t v env' Q hE hS hr he q => by
  have he : some (env.set i (some t)) = some env' := he
  cases he
  exact q _ (hE.set hr)
theorem gds_nil {K : PySem.W.Frag} : GDs K gNil gtNil := fun W H st env σ ts vs env' Q hE hS hr he q => by
  cases ts with
  | nil =>
    have hr : vs = [] := hr
    have he : some env = some env' := he
    cases he
    exact ⟨hr, q _ hE⟩
  | cons t r => cases he
theorem gds_cons {K : PySem.W.Frag} {t : TG} {u : TGs} {g : Tg} {r : Tgs} (h1 : GD K t g) (h2 : GDs K u r) : GDs K (gCons t u) (gtCons g r) := fun W H st env σ ts vs env' Q hE hS hr he q => by
  cases ts with
  | nil => cases he
  | cons t' ts =>
    obtain ⟨v, vr, e1, e2, e3⟩ := hr
    have he : ((g t' env).bind fun env => r ts env) = some env' := he
    cases q1 : g t' env with
    | none =>
      rw [q1] at he
      cases he
    | some env1 =>
      rw [q1] at he
      exact ⟨v, vr, e1, h1 W H st env σ t' v env1 _ hE hS e2 q1 fun σ1 hE1 => h2 W H st env1 σ1 ts vr env' Q hE1 hS e3 he q⟩
theorem gd_tup {K : PySem.W.Frag} {n : Nat} {u : TGs} {r : Tgs} (h : GDs K u r) : GD K (gTup K n u) (gtTup n r) := fun W H st env σ t v env' Q hE hS hr he q => by
  cases t with
  | tup xs =>
    obtain ⟨a, vs, e1, e2, e3, e4⟩ := hr
    have he : (if xs.length = n then r xs env else none) = some env' := he
    split at he
    · next hn => exact ⟨a, vs, e1, sqT_mono hS.frz e2, by rw [← Reps.length e4]; exact hn, h W H st env σ xs vs env' Q hE hS e4 he q⟩
    · cases he
  | _ => cases he
theorem ds_nil : PSs X [] (tDS X.K sNil) := weakSs pss_nil fun D σ H ⟨W, env, st, hE, hS, hA⟩ => hA W H σ (Grow.refl W H) hS hE
theorem ds_cons (h1 : PS X st₀ (tDS X.K s)) (h2 : PSs X rest (tDS X.K u)) : PSs X (st₀ :: rest) (tDS X.K (sSeq s u)) := by
  refine weakSs (pss_cons h1 h2) fun D σ H ⟨W, env, st, hE, hS, hA⟩ => ⟨W, env, st, hE, hS, ?_⟩
  unfold sSeq at hA
  cases q : s env st with
  | no => rw [q] at hA; exact hA
  | ex c x st1 => rw [q] at hA; exact hA
  | ok a st1 =>
    rw [q] at hA
    cases a with
    | nx e =>
      have hA : AfterS X.K (EnvR X.K) W H (u e st1) D := hA
      exact fun W1 H1 σ1 g1 s1 r1 => ⟨W1, e, st1, r1, s1, hA.mono g1 s1⟩
    | rt t => exact hA
    | bk e => exact hA
    | ct e => exact hA
theorem ds_one (h1 : PS X st₀ (tDS X.K s)) : PSs X [st₀] (tDS X.K s) := pss_one h1
theorem ds_pass : PS X (.Pass pos) (tDS X.K sNil) := weakS ps_pass fun D σ H ⟨W, env, st, hE, hS, hA⟩ => hA W H σ (Grow.refl W H) hS hE
theorem ds_break : PS X (.Break pos) (tDS X.K sBreak) := weakS ps_break fun D σ H ⟨W, env, st, hE, hS, hA⟩ => hA W H σ (Grow.refl W H) hS hE
theorem ds_continue : PS X (.Continue pos) (tDS X.K sCont) := weakS ps_continue fun D σ H ⟨W, env, st, hE, hS, hA⟩ => hA W H σ (Grow.refl W H) hS hE
/-- what is never come to -/
theorem ds_no : PS X st₀ (tDS X.K sNo) := weakS ps_never fun D σ H ⟨W, env, st, hE, hS, hA⟩ => hA.elim
theorem dss_no {sts : List Stmt} : PSs X sts (tDS X.K sNo) := weakSs pss_never fun D σ H ⟨W, env, st, hE, hS, hA⟩ => hA.elim
theorem ds_expr (he : PE X a (tD X.K f)) (hs : swapsWith a none pos.line X.env = pure false := by rfl) : PS X (.Expr a pos) (tDS X.K (sExpr f)) := by
  refine weakS (ps_expr he hs) fun D σ H ⟨W, env, st, hE, hS, hA⟩ => ?_
  exact partS hE hS hA fun W1 H1 x v st1 hE1 hS1 r1 q1 => q1 W1 H1 σ (Grow.refl _ _) hS1 hE1
theorem ds_ret (he : PE X a (tD X.K f)) : PS X (.Return (some a) pos) (tDS X.K (sRet f)) := by
  refine weakS (ps_ret he) fun D σ H ⟨W, env, st, hE, hS, hA⟩ => ?_
  exact partS hE hS hA fun W1 H1 x v st1 hE1 hS1 r1 q1 => q1 W1 H1 v (Grow.refl _ _) hS1 r1
theorem ds_retN : PS X (.Return none pos) (tDS X.K sRetN) := weakS ps_retN fun D σ H ⟨W, env, st, hE, hS, hA⟩ => hA W H .non (Grow.refl W H) hS rfl
theorem ds_if {sa sb : List Stmt} {tc : Tst} (hc : PT X c (tDB X.K tc)) (ha : PSs X sa (tDS X.K s)) (hb : PSs X sb (tDS X.K u)) : PS X (.If c sa sb pos) (tDS X.K (sIf tc s u)) := by
  refine weakS (ps_if hc ha hb) fun D σ H ⟨W, env, st, hE, hS, hA⟩ => ?_
  refine partS (R := fun _ (a b : Bool) => a = b) hE hS hA fun W1 H1 x v st1 hE1 hS1 r1 q1 => ?_
  have r1 : x = v := r1
  subst r1
  cases x with
  | true => exact ⟨W1, env, st1, hE1, hS1, q1⟩
  | false => exact ⟨W1, env, st1, hE1, hS1, q1⟩
theorem ds_set {i : Nat} {pos' : Pos} (hN : X.N.Nodup) (he : PE X a (tD X.K f)) (hi : X.N[i]? = some x := by rfl) (hx : Loc X.env.scope x := by first | exact Or.inl rfl | exact Or.inr rfl) (hs : swapsWith a (some (.Name x pos')) pos.line X.env = pure false := by rfl) (hf : X.fn x = true ∨ X.env.scope.names.lookup x = some .local := by first | exact .inl rfl | exact .inr rfl | assumption) :
    PS X (.Assign [.Name x pos'] a pos) (tDS X.K (sSet i f)) := by
  refine weakS (ps_set hN hi hx he hs hf) fun D σ H ⟨W, env, st, hE, hS, hA⟩ => ?_
  exact partS hE hS hA fun W1 H1 t v st1 hE1 hS1 r1 q1 => q1 W1 H1 _ (Grow.refl _ _) hS1 (hE1.set r1)
theorem ds_asg {tg : Expr} {tgr : TG} {gg : Tg} (he : PE X a (tD X.K f)) (hg : PG X tg tgr) (hd : GD X.K tgr gg) (hs : swapsWithSole [tg] a pos.line X.env = pure false := by rfl) (hw : swappedStores [tg] a X.env = pure none := by rfl)
    (h1 : (assignEach [tg] X.env).map (·.2) = [assign tg X.env] := by rfl) : PS X (.Assign [tg] a pos) (tDS X.K (sAsg f gg)) := by
  refine weakS (ps_asg he hg hs hw h1) fun D σ H ⟨W, env, st, hE, hS, hA⟩ => ?_
  refine partS hE hS hA fun W1 H1 t v st1 hE1 hS1 r1 q1 => ?_
  cases q : gg t env with
  | none =>
    rw [q] at q1
    exact q1.elim
  | some env' =>
    rw [q] at q1
    exact hd W1 H1 st1 env σ t v env' _ hE1 hS1 r1 q fun σ' hE' => q1 W1 H1 σ' (Grow.refl _ _) hS1 hE'
theorem ds_par {i j : Nat} {y : Str} {px py pt : Pos} {kt k2 : Nat} {pt2 : Pos} (hc : X.calm = true) (hN : X.N.Nodup) (hij : i ≠ j) (ha : PA X [a, b] (tDA X.K fs))
    (hi : X.N[i]? = some x := by rfl) (hj : X.N[j]? = some y := by rfl) (hx : X.env.scope.names.lookup x = some .local := by rfl) (hy : X.env.scope.names.lookup y = some .local := by rfl)
    (hw : swappedStores [.Tuple [.Name x px, .Name y py] kt pt] (.Tuple [a, b] k2 pt2) X.env = pure (some [x, y]) := by rfl)
    (hs : swapsWithSole [.Tuple [.Name x px, .Name y py] kt pt] (.Tuple [a, b] k2 pt2) pos.line X.env = pure false := by rfl) :
    PS X (.Assign [.Tuple [.Name x px, .Name y py] kt pt] (.Tuple [a, b] k2 pt2) pos) (tDS X.K (sPar i j fs)) := by
  refine weakS (ps_par hc hN hi hj hij hx hy ha hw hs) fun D σ H ⟨W, env, st, hE, hS, hA⟩ => ?_
  refine partS hE hS hA fun W1 H1 ts vs st1 hE1 hS1 r1 q1 => ?_
  cases ts with
  | nil => exact q1.elim
  | cons t1 ts =>
    cases ts with
    | nil => exact q1.elim
    | cons t2 ts =>
      cases ts with
      | nil =>
        obtain ⟨v1, r, e1, e2, v2, r', e3, e4, e5⟩ := r1
        have e5 : r' = [] := e5
        rw [e5] at e3
        rw [e3] at e1
        exact ⟨v1, v2, e1, q1 W1 H1 _ (Grow.refl _ _) hS1 ((hE1.set e2).set e4)⟩
      | cons t3 ts => exact q1.elim
theorem ds_aug {i : Nat} {o : Operator} {pos' : Pos} (hN : X.N.Nodup) (ho : OpR X (inplaceOp o) r) (hd : OpD X.K r op) (he : PE X a (tD X.K f)) (hi : X.N[i]? = some x := by rfl) (hx : Loc X.env.scope x := by first | exact Or.inl rfl | exact Or.inr rfl) (hf : X.fn x = true ∨ X.env.scope.names.lookup x = some .local := by first | exact .inl rfl | exact .inr rfl | assumption) :
    PS X (.AugAssign (.Name x pos') o a pos) (tDS X.K (sAug i op f)) := by
  refine weakS (ps_aug (ti := fun x y H Q => r x y H Q) hN hi hx he (fun pins s σ H x y v u Q I rx ry h => ho pins s σ H x y v u Q I rx ry h) hf) fun D σ H ⟨W, env, st, hE, hS, hA⟩ => ?_
  unfold sAug at hA
  split at hA
  · next t q =>
    obtain ⟨v, h1, h2⟩ := hE.at_ i t q
    refine ⟨v, h1, ?_⟩
    refine partS hE hS hA fun W1 H1 y u st1 hE1 hS1 r1 q1 => ?_
    obtain ⟨v', h3, h4⟩ := hE1.at_ i t q
    rw [h1] at h3
    cases h3
    refine hd W1 H1 st1 t y v u _ hS1 h4 r1 (q1.bind fun W2 H2 z w st2 g2 hS2 r2 q2 => ?_)
    exact q2 W2 H2 _ (Grow.refl _ _) hS2 ((hE1.mono g2.le).set r2)
  · exact hA.elim
end
end Dn

set_option Elab.async false
set_option linter.all false
set_option maxRecDepth 100000
set_option maxHeartbeats 4000000
/-! Dn, part C: what is walked; for, while, comprehensions; defs. -/
namespace Dn
open PySem PySem.Spec PyProof.Rows L2
abbrev Si := Ev → Sto → Out (List T)
def Iters (K : PySem.W.Frag) (W : Wd) (items : List T) (J : It) : Prop := ∀ (i : Nat) W1 H1 st1, Le W W1 → StoOk K W1 st1 H1 →
  (items.length ≤ i → J.stop i H1) ∧ ∀ t, items[i]? = some t → J.go i H1 ∧ ∀ x H2, J.yld i H1 x H2 → ∃ W2, Grow W1 H1 W2 H2 ∧ StoOk K W2 st1 H2 ∧ Rep K W2 t x
def tDI (K : PySem.W.Frag) (f : Si) : TI := tDG K (Iters K) f
theorem Iters.mono {K : PySem.W.Frag} {W W' : Wd} {items : List T} {J : It} (h : Le W W') (q : Iters K W items J) : Iters K W' items J := fun i W1 H1 st1 l s => q i W1 H1 st1 (h.trans l) s
def rangeT (lo : Int) (n : Nat) : List T := (List.range n).map fun k => .int (lo + (k : Nat))
theorem iters_range {K : PySem.W.Frag} {W : Wd} {lo : Int} {n : Nat} : Iters K W (rangeT lo n) (Itr lo n) := fun i W1 H1 st1 l s => by
  refine ⟨fun h => ?_, fun t h => ?_⟩
  · have : (rangeT lo n).length = n := by simp [rangeT]
    rw [this] at h
    exact h
  · unfold rangeT at h
    rw [List.getElem?_map] at h
    cases q : (List.range n)[i]? with
    | none =>
      rw [q] at h
      cases h
    | some k =>
      rw [q] at h
      have hi := (List.getElem?_eq_some_iff.mp q).1
      have hi : i < n := by simpa using hi
      have hk : k = i := by
        rw [List.getElem?_range hi] at q
        cases q
        rfl
      cases h
      subst hk
      exact ⟨hi, fun x H2 ⟨e1, e2⟩ => by
        subst e1
        exact ⟨W1, Grow.refl _ _, s, e2⟩⟩
theorem iters_list {K : PySem.W.Frag} {W : Wd} {xs : List T} {a : Addr} {vs : List V} (h : SqL K W.F a vs) (r : Reps K W xs vs) : Iters K W xs (Itl K a) := fun i W1 H1 st1 l s => by
  have hs : SqL K H1 a vs := s.frz.seq (l.fz.seq h)
  refine ⟨fun hi => ⟨vs, hs, by rw [← Reps.length r]; exact hi⟩, fun t ht => ?_⟩
  obtain ⟨v, h1, h2⟩ := Reps.get r ht
  refine ⟨⟨vs, v, hs, h1⟩, fun x H2 ⟨e1, e2⟩ => ?_⟩
  subst e1
  have e3 := e2 vs hs
  rw [h1] at e3
  cases e3
  exact ⟨W1, Grow.refl _ _, s, Rep.mono l _ _ h2⟩
theorem iters_tup {K : PySem.W.Frag} {W : Wd} {xs : List T} {a : Addr} {vs : List V} (h : SqT K W.F a vs) (r : Reps K W xs vs) : Iters K W xs (Itt K a) := fun i W1 H1 st1 l s => by
  have hs : SqT K H1 a vs := sqT_mono s.frz (sqT_mono l.fz h)
  refine ⟨fun hi => ⟨vs, hs, by rw [← Reps.length r]; exact hi⟩, fun t ht => ?_⟩
  obtain ⟨v, h1, h2⟩ := Reps.get r ht
  refine ⟨⟨vs, v, hs, h1⟩, fun x H2 ⟨e1, e2⟩ => ?_⟩
  subst e1
  have e3 := e2 vs hs
  rw [h1] at e3
  cases e3
  exact ⟨W1, Grow.refl _ _, s, Rep.mono l _ _ h2⟩
section
variable {X : Cx} {tg : Expr}
/-- what is walked is a list or a tuple -/
def iSq (K : PySem.W.Frag) (tl : TE) : TI := fun σ H R => tl σ H fun x H1 => ∃ a, x = .ref a ∧ (((∃ xs, SqL K H1 a xs) ∧ R (Itl K a) H1) ∨ ((∃ xs, SqT K H1 a xs) ∧ R (Itt K a) H1))
theorem pi_sq {l : Expr} {tl : TE} (hl : PE X l tl) : PI X tg l (iSq X.K tl) := by
  refine ⟨fun pins s σ H R I h => ?_⟩
  refine thn (hl.run pins s σ H _ I h) fun v s1 ⟨x, H1, I1, r1, q1⟩ => ?_
  obtain ⟨a, e, ⟨⟨xs, hq⟩, q⟩ | ⟨⟨xs, hq⟩, q⟩⟩ := q1
  · subst e
    cases r1
    obtain ⟨its, rv, p, hz⟩ := I1.list hq
    refine wpAny_pyIter_list p.isList ?_
    refine ⟨s1.heap.objs.size, [s1.heap.objs.size], _, _, H1, rfl, I1.kept (t' := s1.toks) fun b o e => Heap.get?_push_of_some _ e, turn_list a _, ⟨_, Heap.get?_push_size _ rfl, rfl, rfl⟩, fun b hb => ?_, q⟩
    have e : b = s1.heap.objs.size := by simpa using hb
    subst e
    exact I1.fpOk (Nat.le_refl _) (I1.hok.fresh (Nat.le_refl _))
  · subst e
    cases r1
    obtain ⟨its, rv, p, hz⟩ := I1.tuple hq
    refine wpAny_pyIter_tuple (show s1.heap.IsTuple a its.toArray from p) ?_
    refine ⟨s1.heap.objs.size, [s1.heap.objs.size], _, _, H1, rfl, I1.kept (t' := s1.toks) fun b o e => Heap.get?_push_of_some _ e, turn_tuple a _, ⟨_, Heap.get?_push_size _ rfl, rfl, rfl⟩, fun b hb => ?_, q⟩
    have e : b = s1.heap.objs.size := by simpa using hb
    subst e
    exact I1.fpOk (Nat.le_refl _) (I1.hok.fresh (Nat.le_refl _))
/-- the items of what is walked (an object is frozen by it) -/
def itemsOf (x : T) (st : Sto) : Out (List T) := match x with
  | .lst xs => .ok xs st
  | .tup xs => .ok xs st
  | .ref n => match st[n]? with
    | some (.lst xs) => .ok xs (st.set n (.fz xs))
    | some (.fz xs) => .ok xs st
    | none => .no
  | _ => .no
def iSeq (f : Sx) : Si := fun env st => (f env st).bind itemsOf
/-- not to be reduced by the kernel -/
noncomputable def yes (p : Prop) : Bool := @decide p (Classical.propDecidable p)
theorem yes_iff {p : Prop} : yes p = true ↔ p := @decide_eq_true_iff p (Classical.propDecidable p)
noncomputable def in62 (i : Int) : Bool := yes (-(2 ^ 62) ≤ i ∧ i < 2 ^ 62)
noncomputable def iRange1 (f : Sa) : Si := fun env st => (f env st).bind fun ts st => match ts with
  | [.int j] => if in62 j = true then .ok (rangeT 0 j.toNat) st else .no
  | _ => .no
noncomputable def iRange2 (f : Sa) : Si := fun env st => (f env st).bind fun ts st => match ts with
  | [.int i, .int j] => if in62 i = true ∧ in62 j = true then .ok (rangeT i (j - i).toNat) st else .no
  | _ => .no
theorem items_rep {K : PySem.W.Frag} {W : Wd} {st : Sto} {H : Hp} {x : T} {v : V} {R : It → Hp → Prop} (hS : StoOk K W st H) (r : Rep K W x v) (h : AfterG K W H (Iters K) (itemsOf x st) R) :
    ∃ a, v = .ref a ∧ (((∃ xs, SqL K H a xs) ∧ R (Itl K a) H) ∨ ((∃ xs, SqT K H a xs) ∧ R (Itt K a) H)) := by
  cases x with
  | lst xs =>
    obtain ⟨a, vs, e1, e2, e3, e4⟩ := r
    exact ⟨a, e1, .inl ⟨⟨vs, hS.frz.seq e2⟩, h W H _ (Grow.refl _ _) hS (iters_list e2 e4)⟩⟩
  | tup xs =>
    obtain ⟨a, vs, e1, e2, e3, e4⟩ := r
    exact ⟨a, e1, .inr ⟨⟨vs, sqT_mono hS.frz e2⟩, h W H _ (Grow.refl _ _) hS (iters_tup e2 e4)⟩⟩
  | ref n =>
    obtain ⟨a, e1, e2⟩ := r
    cases q : st[n]? with
    | none =>
      simp only [itemsOf, q] at h
      exact h.elim
    | some o =>
      cases o with
      | lst xs =>
        simp only [itemsOf, q] at h
        obtain ⟨vs, hH, hz, r, s2, g2⟩ := hS.freeze e2 q
        have hF : SqL K (W.add a (.lst vs)).F a vs := .inl (.inl upd_same)
        exact ⟨a, e1, .inl ⟨⟨vs, .inl (.inl hH)⟩, h _ _ _ g2 s2 (iters_list hF (Reps.mono g2.le _ _ r))⟩⟩
      | fz xs =>
        simp only [itemsOf, q] at h
        obtain ⟨vs, hF, hz, r⟩ := hS.ob _ _ _ e2 q
        exact ⟨a, e1, .inl ⟨⟨vs, .inl (.inl (hS.frz _ _ hF))⟩, h _ _ _ (Grow.refl _ _) hS (iters_list (.inl (.inl hF)) r)⟩⟩
  | _ => exact h.elim
theorem di_seq {l : Expr} {f : Sx} (hl : PE X l (tD X.K f)) : PI X tg l (tDI X.K (iSeq f)) := by
  have h := pi_sq (tg := tg) hl
  refine ⟨fun pins s σ H R I q => h.run pins s σ H R I ?_⟩
  obtain ⟨W, env, st, hE, hS, hA⟩ := q
  exact part hE hS hA fun W1 H1 x v st1 hE1 hS1 r1 q1 => items_rep hS1 r1 q1
theorem in62_iff {i : Int} : in62 i = true ↔ -(2 ^ 62) ≤ i ∧ i < 2 ^ 62 := yes_iff
theorem di_range1 {a : Expr} {fs : Sa} {p pos : Pos} (hg : Gl X "range") (hm : X.mg "range" = none) (ha : PA X [a] (tDA X.K fs)) (hs : starEach [a] X.env = [(false, eval a X.env)] := by rfl) : PI X tg (.Call (.Name "range" p) [a] [] pos) (tDI X.K (iRange1 fs)) := by
  have h := pi_range1 (tg := tg) (p := p) (pos := pos) hg hm ha hs
  refine ⟨fun pins s σ H R I q => h.run pins s σ H R I ?_⟩
  obtain ⟨W, env, st, hE, hS, hA⟩ := q
  refine part hE hS hA fun W1 H1 ts vs st1 hE1 hS1 r1 q1 => ?_
  split at q1
  · next j =>
    split at q1
    · next hj =>
      obtain ⟨h1, h2⟩ := in62_iff.mp hj
      obtain ⟨v, r, e1, e2, e3⟩ := r1
      have e3 : r = [] := e3
      have e2 : v = .int j := e2
      subst e3 e2
      exact ⟨j, e1, h1, h2, q1 W1 H1 _ (Grow.refl _ _) hS1 iters_range⟩
    · exact q1.elim
  · exact q1.elim
theorem di_range2 {a b : Expr} {fs : Sa} {p pos : Pos} (hg : Gl X "range") (hm : X.mg "range" = none) (ha : PA X [a, b] (tDA X.K fs)) (hs : starEach [a, b] X.env = [(false, eval a X.env), (false, eval b X.env)] := by rfl) (hs2 : starEach [b] X.env = [(false, eval b X.env)] := by rfl) :
    PI X tg (.Call (.Name "range" p) [a, b] [] pos) (tDI X.K (iRange2 fs)) := by
  have h := pi_range2 (tg := tg) (p := p) (pos := pos) hg hm ha hs hs2
  refine ⟨fun pins s σ H R I q => h.run pins s σ H R I ?_⟩
  obtain ⟨W, env, st, hE, hS, hA⟩ := q
  refine part hE hS hA fun W1 H1 ts vs st1 hE1 hS1 r1 q1 => ?_
  split at q1
  · next i j =>
    split at q1
    · next hj =>
      obtain ⟨h1, h2⟩ := in62_iff.mp hj.1
      obtain ⟨h3, h4⟩ := in62_iff.mp hj.2
      obtain ⟨v, r, e1, e2, v', r', e3, e4, e5⟩ := r1
      have e5 : r' = [] := e5
      have e2 : v = .int i := e2
      have e4 : v' = .int j := e4
      subst e5 e2 e4
      rw [e3] at e1
      exact ⟨i, j, e1, ⟨h1, h2, h3, h4⟩, q1 W1 H1 _ (Grow.refl _ _) hS1 iters_range⟩
    · exact q1.elim
  · exact q1.elim

/-! ### for -/
def forL (g : Tg) (body : Ss) : List T → Ev → Sto → Out Fl
  | [], env, st => .ok (.nx env) st
  | x :: r, env, st => match g x env with
    | none => .no
    | some env => match body env st with
      | .ok (.nx e) st => forL g body r e st
      | .ok (.ct e) st => forL g body r e st
      | .ok (.bk e) st => .ok (.nx e) st
      | .ok (.rt t) st => .ok (.rt t) st
      | .ex c y st => .ex c y st
      | .no => .no
def sFor (f : Si) (g : Tg) (body : Ss) : Ss := fun env st => (f env st).bind fun xs st => forL g body xs env st
theorem ds_for {iter : Expr} {body : List Stmt} {f : Si} {tgr : TG} {g : Tg} {s : Ss} {pos : Pos} (hp : PassesOwn (model X.prog X.w) X.A X.env X.xe) (hc : X.calm = true) (hi : PI X tg iter (tDI X.K f)) (hg : PG X tg tgr) (hd : GD X.K tgr g) (hb : PSs X body (tDS X.K s))
    (hs : ∀ x, foldedSetIterable iter X.env x = pure x := by intro _; rfl) : PS X (.For tg iter body [] pos) (tDS X.K (sFor f g s)) := by
  refine weakS (ps_for hp hc hi hg hb hs) fun D σ H ⟨W, env, st, hE, hS, hA⟩ => ?_
  refine partS hE hS hA fun W1 H1 items J st1 hE1 hS1 r1 q1 => ?_
  refine ⟨fun i m σ' H' => ∃ W' env' st', m = items.length - i ∧ i ≤ items.length ∧ Le W1 W' ∧ EnvR X.K W' env' σ' ∧ StoOk X.K W' st' H' ∧ AfterS X.K (EnvR X.K) W' H' (forL g s (items.drop i) env' st') D,
    ⟨items.length, W1, env, st1, by simp, Nat.zero_le _, Le.refl _, hE1, hS1, by simpa using q1⟩, ?_⟩
  rintro i m σ' H' ⟨W', env', st', rfl, hi, hl, hE', hS', hA'⟩
  obtain ⟨k1, k2⟩ := r1 i W' H' st' hl hS'
  by_cases hlt : i < items.length
  · rw [List.drop_eq_getElem_cons hlt] at hA'
    obtain ⟨k3, k4⟩ := k2 items[i] (List.getElem?_eq_getElem hlt)
    refine .inr ⟨k3, fun σ2 H2 => ∃ W2 env2 st2, Le W1 W2 ∧ EnvR X.K W2 env2 σ2 ∧ StoOk X.K W2 st2 H2 ∧ AfterS X.K (EnvR X.K) W2 H2 (forL g s (items.drop (i + 1)) env2 st2) D, ?_, ?_⟩
    · rintro σ2 H2 ⟨W2, env2, st2, l2, E2, S2, A2⟩
      exact ⟨items.length - (i + 1), by omega, W2, env2, st2, rfl, hlt, l2, E2, S2, A2⟩
    · intro x H2 hy
      obtain ⟨W2, g2, s2, r2⟩ := k4 x H2 hy
      have hA2 := hA'.mono g2 s2
      unfold forL at hA2
      cases q : g items[i] env' with
      | none =>
        rw [q] at hA2
        exact hA2.elim
      | some env2 =>
        rw [q] at hA2
        refine hd W2 H2 st' env' σ' _ x env2 _ (hE'.mono g2.le) s2 r2 q fun σ3 hE3 => ⟨W2, env2, st', hE3, s2, ?_⟩
        simp only at hA2
        cases qb : s env2 st' with
        | no =>
          rw [qb] at hA2
          exact hA2.elim
        | ex c y st3 =>
          rw [qb] at hA2
          exact hA2.elim
        | ok fl st3 =>
          rw [qb] at hA2
          cases fl with
          | nx e => exact fun W3 H3 σ4 g3 s3 r3 => ⟨W3, e, st3, (hl.trans g2.le).trans g3.le, r3, s3, AfterS.mono g3 s3 hA2⟩
          | ct e => exact fun W3 H3 σ4 g3 s3 r3 => ⟨W3, e, st3, (hl.trans g2.le).trans g3.le, r3, s3, AfterS.mono g3 s3 hA2⟩
          | bk e => exact hA2
          | rt t => exact hA2
  · have hi2 : items.length ≤ i := Nat.le_of_not_lt hlt
    rw [List.drop_of_length_le hi2] at hA'
    exact .inl ⟨k1 hi2, hA' W' H' σ' (Grow.refl _ _) hS' hE'⟩
/-! ### while -/
def whileL (c : Tst) (body : Ss) : Nat → Ev → Sto → Out Fl
  | 0, _, _ => .no
  | n + 1, env, st => match c env st with
    | .ok true st => match body env st with
      | .ok (.nx e) st => whileL c body n e st
      | .ok (.ct e) st => whileL c body n e st
      | .ok (.bk e) st => .ok (.nx e) st
      | .ok (.rt t) st => .ok (.rt t) st
      | .ex c y st => .ex c y st
      | .no => .no
    | .ok false st => .ok (.nx env) st
    | .ex c y st => .ex c y st
    | .no => .no
def sWhile (fuel : Ev → Sto → Nat) (c : Tst) (body : Ss) : Ss := fun env st => whileL c body (fuel env st) env st
theorem ds_while {c : Expr} {body : List Stmt} {tc : Tst} {s : Ss} {pos : Pos} (fuel : Ev → Sto → Nat) (hp : PassesOwn (model X.prog X.w) X.A X.env X.xe) (hc : PT X c (tDB X.K tc)) (hb : PSs X body (tDS X.K s)) : PS X (.While c body [] pos) (tDS X.K (sWhile fuel tc s)) := by
  refine weakS (ps_while hp hc hb) fun D σ H ⟨W, env, st, hE, hS, hA⟩ => ?_
  refine ⟨fun m σ' H' => ∃ W' env' st', EnvR X.K W' env' σ' ∧ StoOk X.K W' st' H' ∧ AfterS X.K (EnvR X.K) W' H' (whileL tc s m env' st') D, ⟨_, W, env, st, hE, hS, hA⟩, ?_⟩
  rintro m σ' H' ⟨W', env', st', hE', hS', hA'⟩
  cases m with
  | zero => exact hA'.elim
  | succ n =>
    refine ⟨W', env', st', hE', hS', ?_⟩
    unfold whileL at hA'
    cases q : tc env' st' with
    | no =>
      rw [q] at hA'
      exact hA'.elim
    | ex c y st3 =>
      rw [q] at hA'
      exact hA'.elim
    | ok b st2 =>
      rw [q] at hA'
      intro W2 H2 b' g2 s2 r2
      have r2 : b = b' := r2
      subst r2
      cases b with
      | false =>
        rw [if_neg Bool.false_ne_true]
        exact hA' W2 H2 σ' g2 s2 (hE'.mono g2.le)
      | true =>
        rw [if_pos rfl]
        refine ⟨fun σ3 H3 => ∃ W3 env3 st3, EnvR X.K W3 env3 σ3 ∧ StoOk X.K W3 st3 H3 ∧ AfterS X.K (EnvR X.K) W3 H3 (whileL tc s n env3 st3) D, fun σ3 H3 h3 => ⟨n, Nat.lt_succ_self n, h3⟩, ?_⟩
        refine ⟨W2, env', st2, hE'.mono g2.le, s2, ?_⟩
        have hA2 := AfterS.mono g2 s2 hA'
        simp only at hA2
        cases qb : s env' st2 with
        | no =>
          rw [qb] at hA2
          exact hA2.elim
        | ex c y st3 =>
          rw [qb] at hA2
          exact hA2.elim
        | ok fl st3 =>
          rw [qb] at hA2
          cases fl with
          | nx e => exact fun W3 H3 σ4 g3 s3 r3 => ⟨W3, e, st3, r3, s3, AfterS.mono g3 s3 hA2⟩
          | ct e => exact fun W3 H3 σ4 g3 s3 r3 => ⟨W3, e, st3, r3, s3, AfterS.mono g3 s3 hA2⟩
          | bk e => exact hA2
          | rt t => exact hA2
/-! ### comprehensions -/
def wipeE (env : Ev) : List Nat → Ev
  | [] => env
  | v :: vs => (wipeE env vs).set v none
def lcL (env : Ev) (g : Tg) (c : Tst) (f : Sx) : List T → List T → Sto → Out (List T)
  | acc, [], st => .ok acc st
  | acc, x :: r, st => match g x env with
    | none => .no
    | some e => (c e st).bind fun b st => if b = true then (f e st).bind fun y st => lcL env g c f (acc ++ [y]) r st else lcL env g c f acc r st
def lcItems (it : Si) (g : Tg) (c : Tst) (f : Sx) (vs : List Nat) : Si := fun env st => (it env st).bind fun xs st => if xs.length ≤ sizeLine then lcL (wipeE env vs) g c f [] xs st else .no
def eLc (it : Si) (g : Tg) (c : Tst) (f : Sx) (vs : List Nat) : Sx := fun env st => (lcItems it g c f vs env st).bind fun ys st => .ok (.lst ys) st
def eLcO (it : Si) (g : Tg) (c : Tst) (f : Sx) (vs : List Nat) : Sx := fun env st => (lcItems it g c f vs env st).bind fun ys st => if T.bels st.length ys = true then .ok (.ref st.length) (st ++ [.lst ys]) else .no
def cYes : Tst := fun _ st => .ok true st
theorem dts_nil : PTs X [] (tDB X.K cYes) := ⟨fun pins s σ H Q I ⟨W, env, st, hE, hS, hA⟩ => (pts_nil (X := X)).run pins s σ H Q I (ok_now hS rfl hA)⟩
theorem dts_one {c : Expr} {tc : Tst} (h : PT X c (tDB X.K tc)) : PTs X [c] (tDB X.K tc) := pts_one h
theorem wipe_env {K : PySem.W.Frag} {W : Wd} {env : Ev} {σ : LSt} (h : EnvR K W env σ) : ∀ vs : List Nat, EnvR K W (wipeE env vs) (wipe σ vs)
  | [] => h
  | v :: vs => by
    have q := wipe_env h vs
    refine ⟨by unfold wipeE wipe; simp [q.len], fun i t e => ?_⟩
    unfold wipeE at e
    unfold wipe
    by_cases hi : i = v
    · subst hi
      by_cases hl : i < (wipeE env vs).length
      · rw [List.getElem?_set_self hl] at e
        cases e
      · rw [List.getElem?_eq_none (by simpa using hl)] at e
        cases e
    · rw [List.getElem?_set_ne (Ne.symm hi)] at e ⊢
      exact q.at_ i t e
/-- a target that stores into the slots vs alone -/
def Sets (tgr : TG) (vs : List Nat) : Prop := ∀ v σ H Q, tgr v σ H Q → tgr v σ H fun σ' H' => wipe σ' vs = wipe σ vs ∧ Q σ' H'
theorem wipe_wipe (σ : LSt) (vs : List Nat) : wipe (wipe σ vs) vs = wipe σ vs := by
  apply List.ext_getElem?
  intro i
  by_cases hi : i ∈ vs
  · have one : ∀ (τ : LSt) (ws : List Nat), i ∈ ws → i < τ.length → (wipe τ ws)[i]? = some none := by
      intro τ ws
      induction ws with
      | nil => intro h _; cases h
      | cons w ws ih =>
        intro h hl
        unfold wipe
        by_cases e : i = w
        · subst e
          rw [List.getElem?_set_self (by rw [wipe_length]; exact hl)]
        · rw [List.getElem?_set_ne (Ne.symm e)]
          exact ih ((List.mem_cons.mp h).resolve_left e) hl
    by_cases hl : i < σ.length
    · rw [one _ _ hi (by rw [wipe_length]; exact hl), one _ _ hi hl]
    · rw [List.getElem?_eq_none (by rw [wipe_length, wipe_length]; exact Nat.le_of_not_lt hl), List.getElem?_eq_none (by rw [wipe_length]; exact Nat.le_of_not_lt hl)]
  · rw [wipe_out hi]
theorem sets_name {i : Nat} {vs : List Nat} (h : i ∈ vs) : Sets (gName i) vs := fun v σ H Q q => by
  refine ⟨?_, q⟩
  have one : ∀ ws : List Nat, i ∈ ws → wipe (σ.set i (some v)) ws = wipe σ ws := by
    intro ws
    induction ws with
    | nil => intro h; cases h
    | cons w ws ih =>
      intro h
      unfold wipe
      by_cases e : i ∈ ws
      · rw [ih e]
      · have e2 : i = w := (List.mem_cons.mp h).resolve_right e
        subst e2
        have out : ∀ us : List Nat, i ∉ us → (wipe (σ.set i (some v)) us) = (wipe σ us).set i (some v) := by
          intro us
          induction us with
          | nil => intro _; rfl
          | cons u us ih2 =>
            intro hu
            unfold wipe
            rw [ih2 fun z => hu (List.mem_cons_of_mem _ z), List.set_comm _ _ (fun z => hu (by rw [← z]; exact List.mem_cons_self))]
        rw [out ws e, List.set_set]
  exact one vs h
def SetsG (u : TGs) (vs : List Nat) : Prop := ∀ v σ H Q, u v σ H Q → u v σ H fun σ' H' => wipe σ' vs = wipe σ vs ∧ Q σ' H'
theorem sets_nil {vs : List Nat} : SetsG gNil vs := fun v σ H Q ⟨e, q⟩ => ⟨e, rfl, q⟩
/-- a reading of a target is monotone -/
def MonG (t : TG) : Prop := ∀ v σ H Q Q', (∀ σ' H', Q σ' H' → Q' σ' H') → t v σ H Q → t v σ H Q'
def MonGs (t : TGs) : Prop := ∀ v σ H Q Q', (∀ σ' H', Q σ' H' → Q' σ' H') → t v σ H Q → t v σ H Q'
theorem mon_name {i : Nat} : MonG (gName i) := fun v σ H Q Q' h q => h _ _ q
theorem mon_nil : MonGs gNil := fun v σ H Q Q' h ⟨e, q⟩ => ⟨e, h _ _ q⟩
theorem mon_cons {t : TG} {u : TGs} (h1 : MonG t) (h2 : MonGs u) : MonGs (gCons t u) := fun v σ H Q Q' h ⟨a, r, e, q⟩ => ⟨a, r, e, h1 _ _ _ _ _ (fun σ' H' z => h2 _ _ _ _ _ h z) q⟩
theorem mon_tup {K : PySem.W.Frag} {n : Nat} {u : TGs} (h : MonGs u) : MonG (gTup K n u) := fun v σ H Q Q' k ⟨a, xs, e, e2, e3, q⟩ => ⟨a, xs, e, e2, e3, h _ _ _ _ _ k q⟩
theorem sets_cons {t : TG} {u : TGs} {vs : List Nat} (m1 : MonG t) (m2 : MonGs u) (h1 : Sets t vs) (h2 : SetsG u vs) : SetsG (gCons t u) vs := fun v σ H Q ⟨a, r, e, q⟩ =>
  ⟨a, r, e, m1 _ _ _ _ _ (fun σ' H' ⟨z1, z2⟩ => m2 _ _ _ _ _ (fun σ2 H2 ⟨y1, y2⟩ => ⟨y1.trans z1, y2⟩) (h2 _ _ _ _ z2)) (h1 _ _ _ _ q)⟩
theorem sets_tup {K : PySem.W.Frag} {n : Nat} {u : TGs} {vs : List Nat} (h : SetsG u vs) : Sets (gTup K n u) vs := fun v σ H Q ⟨a, xs, e, e2, e3, q⟩ => ⟨a, xs, e, e2, e3, h _ _ _ _ q⟩
/-- what the comprehension's list is at a turn -/
structure LcAt (K : PySem.W.Frag) (W1 : Wd) (H1 : Hp) (D : Addr) (W' : Wd) (st' : Sto) (H' : Hp) (acc : List T) : Prop where
  g : Grow W1 H1 W' H'
  s : StoOk K W' st' H'
  na : D ∉ W'.as
  nf : W'.F D = none
  at_ : ∃ vs, H' D = some (.lst vs) ∧ vs.length = acc.length ∧ Reps K W' acc vs
theorem LcAt.next {K : PySem.W.Frag} {W1 : Wd} {H1 : Hp} {D : Addr} {W' : Wd} {st' : Sto} {H' : Hp} {acc : List T} (q : LcAt K W1 H1 D W' st' H' acc) {W2 : Wd} {H2 : Hp} {st2 : Sto} (g : Grow W' H' W2 H2) (s : StoOk K W2 st2 H2) : LcAt K W1 H1 D W2 st2 H2 acc := by
  obtain ⟨vs, e1, e2, e3⟩ := q.at_
  refine ⟨q.g.trans q.s g, s, fun h => ?_, ?_, vs, g.fr _ _ e1 q.na, e2, Reps.mono g.le _ _ e3⟩
  · obtain ⟨m, e, hm⟩ := g.as
    rw [e] at h
    rcases List.mem_append.mp h with h | h
    · exact q.na h
    · rw [hm D h] at e1
      cases e1
  · cases z : W2.F D with
    | none => rfl
    | some o =>
      rcases g.fn D o z with h | h | h
      · rw [q.nf] at h
        cases h
      · exact absurd h q.na
      · rw [h] at e1
        cases e1
theorem LcAt.snoc {K : PySem.W.Frag} {W1 : Wd} {H1 : Hp} {D : Addr} {W' : Wd} {st' : Sto} {H' : Hp} {acc : List T} (hD : H1 D = none) (q : LcAt K W1 H1 D W' st' H' acc) {y : T} {v : V} (r : Rep K W' y v) :
    ∃ vs, H' D = some (.lst vs) ∧ vs.length = acc.length ∧ LcAt K W1 H1 D W' st' (upd H' D (.lst (vs ++ [v]))) (acc ++ [y]) := by
  obtain ⟨vs, e1, e2, e3⟩ := q.at_
  refine ⟨vs, e1, e2, ⟨q.g.as, q.g.fz, fun a o h hn => ?_, q.g.fn⟩, ⟨fun a o h => ?_, q.s.len, q.s.nd, fun n a o h1 h2 => ?_, q.s.reg⟩, q.na, q.nf, vs ++ [v], upd_same, by simp [e2], Reps.append e3 (Reps.one r)⟩
  · have ha : a ≠ D := ne_of_none h hD
    rw [upd_ne ha]
    exact q.g.fr a o h hn
  · have ha : a ≠ D := ne_of_none h q.nf
    rw [upd_ne ha]
    exact q.s.frz a o h
  · have ha : a ≠ D := fun z => q.na (by rw [← z]; exact List.mem_of_getElem? h1)
    exact (q.s.ob n a o h1 h2).mono (Le.refl _) rfl (upd_ne ha)
theorem LcAt.end_ {K : PySem.W.Frag} {W1 : Wd} {H1 : Hp} {D : Addr} {W' : Wd} {st' : Sto} {H' : Hp} {acc : List T} (hD : H1 D = none) (q : LcAt K W1 H1 D W' st' H' acc) (hz : acc.length ≤ sizeLine) :
    ∃ W2, Grow W1 H1 W2 H' ∧ StoOk K W2 st' H' ∧ Rep K W2 (.lst acc) (.ref D) := by
  obtain ⟨vs, e1, e2, e3⟩ := q.at_
  have hle : Le W' (W'.add D (.lst vs)) := ⟨⟨[], by simp [Wd.add]⟩, same_add q.nf⟩
  refine ⟨W'.add D (.lst vs), ⟨q.g.as, q.g.fz.trans hle.fz, q.g.fr, fun a o h => ?_⟩, ⟨fun a o h => ?_, q.s.len, q.s.nd, fun n a o h1 h2 => ?_, q.s.reg⟩, D, vs, rfl, .inl (.inl upd_same), by rw [e2]; exact hz, Reps.mono hle _ _ e3⟩
  · have h : upd W'.F D (.lst vs) a = some o := h
    by_cases ha : a = D
    · subst ha
      exact .inr (.inr hD)
    · rw [upd_ne ha] at h
      exact q.g.fn a o h
  · have h : upd W'.F D (.lst vs) a = some o := h
    by_cases ha : a = D
    · subst ha
      rw [upd_same] at h
      rw [← h]
      exact e1
    · rw [upd_ne ha] at h
      exact q.s.frz a o h
  · have ha : a ≠ D := fun z => q.na (by rw [← z]; exact List.mem_of_getElem? h1)
    exact (q.s.ob n a o h1 h2).mono hle (upd_ne ha) rfl
theorem LcAt.endO {K : PySem.W.Frag} {W1 : Wd} {H1 : Hp} {D : Addr} {W' : Wd} {st' : Sto} {H' : Hp} {acc : List T} (hD : H1 D = none) (q : LcAt K W1 H1 D W' st' H' acc) (hz : acc.length ≤ sizeLine) (hb : T.bels st'.length acc = true) :
    ∃ W2, Grow W1 H1 W2 H' ∧ StoOk K W2 (st' ++ [.lst acc]) H' ∧ Rep K W2 (.ref st'.length) (.ref D) := by
  obtain ⟨vs, e1, e2, e3⟩ := q.at_
  have hle : Le W' (W'.push D) := ⟨⟨[D], rfl⟩, Same.refl _⟩
  obtain ⟨m, em, hm⟩ := q.g.as
  refine ⟨W'.push D, ⟨⟨m ++ [D], by show W'.as ++ [D] = _; rw [em, List.append_assoc], fun b hb => ?_⟩, q.g.fz, q.g.fr, q.g.fn⟩, ⟨q.s.frz, by simp [Wd.push, q.s.len], ?_, fun n a o h1 h2 => ?_, fun n o h => ?_⟩, D, rfl, ?_⟩
  · rcases List.mem_append.mp hb with hb | hb
    · exact hm b hb
    · have : b = D := by simpa using hb
      rw [this]
      exact hD
  · show (W'.as ++ [D]).Nodup
    rw [List.nodup_append]
    refine ⟨q.s.nd, by simp, fun a ha b hb => ?_⟩
    have : b = D := by simpa using hb
    rw [this]
    exact fun z => q.na (by rw [← z]; exact ha)
  · have h1 : (W'.as ++ [D])[n]? = some a := h1
    by_cases hn : n < st'.length
    · rw [List.getElem?_append_left (by rw [q.s.len]; exact hn)] at h1
      rw [List.getElem?_append_left hn] at h2
      exact (q.s.ob n a o h1 h2).mono hle rfl rfl
    · have hn2 : n = st'.length := by
        have := (List.getElem?_eq_some_iff.mp h2).1
        simp at this
        omega
      subst hn2
      rw [List.getElem?_append_right (by rw [q.s.len]; exact Nat.le_refl _), q.s.len] at h1
      rw [List.getElem?_append_right (Nat.le_refl _)] at h2
      simp at h1 h2
      subst h1 h2
      exact ⟨q.nf, vs, e1, by rw [e2]; exact hz, Reps.mono hle _ _ e3⟩
  · by_cases hn : n < st'.length
    · rw [List.getElem?_append_left hn] at h
      exact q.s.reg n o h
    · have hn2 : n = st'.length := by
        have := (List.getElem?_eq_some_iff.mp h).1
        simp at this
        omega
      subst hn2
      rw [List.getElem?_append_right (Nat.le_refl _)] at h
      simp at h
      subst h
      exact hb
  · show (W'.as ++ [D])[st'.length]? = some D
    rw [List.getElem?_append_right (by rw [q.s.len]; exact Nat.le_refl _), q.s.len]
    simp
theorem lc_len {env : Ev} {g : Tg} {c : Tst} {f : Sx} : ∀ {xs acc ys : List T} {st st' : Sto}, lcL env g c f acc xs st = .ok ys st' → ys.length ≤ acc.length + xs.length
  | [], acc, ys, st, st', h => by
    have h : Out.ok acc st = .ok ys st' := h
    cases h
    simp
  | x :: r, acc, ys, st, st', h => by
    unfold lcL at h
    cases q : g x env with
    | none =>
      rw [q] at h
      cases h
    | some e =>
      rw [q] at h
      simp only at h
      cases qc : c e st with
      | no => rw [qc] at h; cases h
      | ex c y st => rw [qc] at h; cases h
      | ok b st1 =>
        rw [qc] at h
        simp only [bind_ok] at h
        cases b with
        | false =>
          rw [if_neg Bool.false_ne_true] at h
          have := lc_len h
          simp only [List.length_cons]
          omega
        | true =>
          rw [if_pos rfl] at h
          cases qf : f e st1 with
          | no => rw [qf] at h; cases h
          | ex c y st => rw [qf] at h; cases h
          | ok y st2 =>
            rw [qf] at h
            simp only [bind_ok] at h
            have := lc_len h
            simp only [List.length_append, List.length_cons, List.length_nil] at this ⊢
            omega
/-- the reading of a comprehension, whatever becomes of its list -/
theorem lc_red {K : PySem.W.Frag} {it : Si} {g : Tg} {c : Tst} {f : Sx} {vs : List Nat} {tgr : TG} {W : Wd} {env : Ev} {σ : LSt} {st : Sto} {H : Hp} {Q : VK} {fin : List T → Sto → Out T} (hd : GD K tgr g) (hv : Sets tgr vs)
    (hE : EnvR K W env σ) (hS : StoOk K W st H) (hA : AfterG K W H (Rep K) ((lcItems it g c f vs env st).bind fin) Q)
    (hf : ∀ W1 H1 D W' st' H' acc, H1 D = none → LcAt K W1 H1 D W' st' H' acc → acc.length ≤ sizeLine → AfterG K W1 H1 (Rep K) (fin acc st') Q → Q (.ref D) H') : tLc (tDI K it) tgr (tDB K c) (tD K f) vs σ H Q := by
  unfold lcItems at hA
  have hA : AfterG K W H (Rep K) ((it env st).bind fun xs st => (if xs.length ≤ sizeLine then lcL (wipeE env vs) g c f [] xs st else .no).bind fin) Q := by
    cases q : it env st with
    | no => rw [q] at hA; exact hA
    | ex c x st => rw [q] at hA; exact hA
    | ok a st => rw [q] at hA; exact hA
  refine part hE hS hA fun W1 H1 items J st1 hE1 hS1 r1 q1 => fun D hD => ?_
  split at q1
  · next hz =>
    cases ho : lcL (wipeE env vs) g c f [] items st1 with
    | no => rw [ho] at q1; exact q1.elim
    | ex c x st => rw [ho] at q1; exact q1.elim
    | ok ys ste =>
      rw [ho] at q1
      have q1 : AfterG K W1 H1 (Rep K) (fin ys ste) Q := q1
      refine ⟨fun i m H' => ∃ W' st' acc, m = items.length - i ∧ i ≤ items.length ∧ acc.length ≤ i ∧ LcAt K W1 H1 D W' st' H' acc ∧ lcL (wipeE env vs) g c f acc (items.drop i) st' = .ok ys ste,
        ⟨items.length, W1, st1, [], by simp, Nat.zero_le _, Nat.le_refl _, ?_, by simpa using ho⟩, ?_⟩
      · have s0 := hS1.fresh hD
        refine ⟨⟨⟨[], by simp⟩, Same.refl _, fun a o h _ => ?_, fun a o h => .inl h⟩, ⟨fun a o h => ?_, hS1.len, hS1.nd, fun n a o h1 h2 => ?_, hS1.reg⟩, s0.1, s0.2, [], upd_same, rfl, rfl⟩
        · rw [upd_ne (ne_of_none h hD)]
          exact h
        · rw [upd_ne (ne_of_none h s0.2)]
          exact hS1.frz a o h
        · have ha : a ≠ D := fun z => s0.1 (by rw [← z]; exact List.mem_of_getElem? h1)
          exact (hS1.ob n a o h1 h2).mono (Le.refl _) rfl (upd_ne ha)
      · rintro i m H' ⟨W', st', acc, rfl, hi, hacc, hL, heq⟩
        obtain ⟨k1, k2⟩ := r1 i W' H' st' hL.g.le hL.s
        by_cases hlt : i < items.length
        · rw [List.drop_eq_getElem_cons hlt] at heq
          obtain ⟨k3, k4⟩ := k2 items[i] (List.getElem?_eq_getElem hlt)
          refine .inr ⟨k3, fun H2 => ∃ W2 st2 acc2, acc2.length ≤ i + 1 ∧ LcAt K W1 H1 D W2 st2 H2 acc2 ∧ lcL (wipeE env vs) g c f acc2 (items.drop (i + 1)) st2 = .ok ys ste, ?_, ?_⟩
          · rintro H2 ⟨W2, st2, acc2, a1, a2, a3⟩
            exact ⟨items.length - (i + 1), by omega, W2, st2, acc2, rfl, hlt, a1, a2, a3⟩
          · intro x H2 hy
            obtain ⟨W2, g2, s2, r2⟩ := k4 x H2 hy
            have hL2 := hL.next g2 s2
            unfold lcL at heq
            cases q : g items[i] (wipeE env vs) with
            | none => rw [q] at heq; cases heq
            | some e =>
              rw [q] at heq
              simp only at heq
              have hEw : EnvR K W2 (wipeE env vs) (wipe σ vs) := wipe_env (hE1.mono hL2.g.le) vs
              have step := hv _ _ _ _ (hd W2 H2 st' _ _ _ x e (fun σ2 H3 => tDB K c σ2 H3 fun b H3 => if b = true then tD K f σ2 H3 fun y H4 => ∃ acc, H4 D = some (.lst acc) ∧ acc.length < sizeLine ∧
                  ∃ W2 st2 acc2, acc2.length ≤ i + 1 ∧ LcAt K W1 H1 D W2 st2 (upd H4 D (.lst (acc ++ [y]))) acc2 ∧ lcL (wipeE env vs) g c f acc2 (items.drop (i + 1)) st2 = .ok ys ste
                else ∃ W2 st2 acc2, acc2.length ≤ i + 1 ∧ LcAt K W1 H1 D W2 st2 H3 acc2 ∧ lcL (wipeE env vs) g c f acc2 (items.drop (i + 1)) st2 = .ok ys ste) hEw s2 r2 q fun σ' hE' => ?_)
              · rw [wipe_wipe] at step
                exact step
              · refine ⟨W2, e, st', hE', s2, ?_⟩
                cases qc : c e st' with
                | no => rw [qc] at heq; cases heq
                | ex c y st => rw [qc] at heq; cases heq
                | ok b st3 =>
                  rw [qc] at heq
                  simp only [bind_ok] at heq
                  intro W3 H3 b' g3 s3 r3
                  have r3 : b = b' := r3
                  subst r3
                  have hL3 := hL2.next g3 s3
                  cases b with
                  | false =>
                    rw [if_neg Bool.false_ne_true] at heq ⊢
                    exact ⟨W3, st3, acc, Nat.le_succ_of_le hacc, hL3, heq⟩
                  | true =>
                    rw [if_pos rfl] at heq ⊢
                    refine ⟨W3, e, st3, hE'.mono g3.le, s3, ?_⟩
                    cases qf : f e st3 with
                    | no => rw [qf] at heq; cases heq
                    | ex c y st => rw [qf] at heq; cases heq
                    | ok y st4 =>
                      rw [qf] at heq
                      simp only [bind_ok] at heq
                      intro W4 H4 v g4 s4 r4
                      obtain ⟨vs', e1, e2, hL5⟩ := (hL3.next g4 s4).snoc hD r4
                      exact ⟨vs', e1, by rw [e2]; exact Nat.lt_of_le_of_lt hacc (Nat.lt_of_lt_of_le hlt hz), W4, st4, acc ++ [y], by rw [List.length_append]; exact Nat.succ_le_succ hacc, hL5, heq⟩
        · have hi2 : items.length ≤ i := Nat.le_of_not_lt hlt
          rw [List.drop_of_length_le hi2] at heq
          have heq : Out.ok acc st' = .ok ys ste := heq
          cases heq
          exact .inl ⟨k1 hi2, hf W1 H1 D W' ste H' ys hD hL (Nat.le_trans hacc (Nat.le_trans hi hz)) q1⟩
  · exact q1.elim
theorem lc_fin {K : PySem.W.Frag} {W1 : Wd} {H1 : Hp} {D : Addr} {W' : Wd} {st' : Sto} {H' : Hp} {acc : List T} {Q : VK} (hD : H1 D = none) (q : LcAt K W1 H1 D W' st' H' acc) (hz : acc.length ≤ sizeLine)
    (h : AfterG K W1 H1 (Rep K) (.ok (.lst acc) st') Q) : Q (.ref D) H' := by
  obtain ⟨W2, g, s, r⟩ := q.end_ hD hz
  exact h W2 H' _ g s r
theorem lc_finO {K : PySem.W.Frag} {W1 : Wd} {H1 : Hp} {D : Addr} {W' : Wd} {st' : Sto} {H' : Hp} {acc : List T} {Q : VK} (hD : H1 D = none) (q : LcAt K W1 H1 D W' st' H' acc) (hz : acc.length ≤ sizeLine)
    (h : AfterG K W1 H1 (Rep K) (if T.bels st'.length acc = true then .ok (.ref st'.length) (st' ++ [.lst acc]) else .no) Q) : Q (.ref D) H' := by
  split at h
  · next hb =>
    obtain ⟨W2, g, s, r⟩ := q.endO hD hz hb
    exact h W2 H' _ g s r
  · exact h.elim
section
variable {X : Cx} {elt tg iter : Expr} {ifs : List Expr} {scope : Scope} {own : List (Str × Nat)} {pos : Pos} {it : Si} {tgr : TG} {g : Tg} {c : Tst} {f : Sx}
theorem de_lc (own : List (Str × Nat)) (hc : X.calm = true) (hN : X.N.Nodup) (hi : PI X tg iter (tDI X.K it)) (ok : BlkOk X.N X.env.scope scope own)
    (hg : ∀ (s : Shared) (H : Hp) (C : Addr) (cl : List (Str × Addr)) (fp : List Addr), PG (X.blk s H scope (compEnvC scope cl C X.env) fp) tg tgr) (hd : GD X.K tgr g) (hv : Sets tgr (own.map (·.2)))
    (ht : ∀ (s : Shared) (H : Hp) (C : Addr) (cl : List (Str × Addr)) (fp : List Addr), PTs (X.blk s H scope (compEnvC scope cl C X.env) fp) ifs (tDB X.K c))
    (he : ∀ (s : Shared) (H : Hp) (C : Addr) (cl : List (Str × Addr)) (fp : List Addr), PE (X.blk s H scope (compEnvC scope cl C X.env) fp) elt (tD X.K f)) (hs : ∀ x, foldedSetIterable iter X.env x = pure x := by intro _; rfl) :
    PE X (.ListComp elt [⟨tg, iter, ifs, 0⟩] scope pos) (tD X.K (eLc it g c f (own.map (·.2)))) :=
  weakE (pe_lc hc hN hi ok hg ht he hs) fun σ H Q ⟨W, env, st, hE, hS, hA⟩ => lc_red hd hv hE hS hA fun _ _ _ _ _ _ _ h1 h2 h3 h4 => lc_fin h1 h2 h3 h4
theorem de_lcO (own : List (Str × Nat)) (hc : X.calm = true) (hN : X.N.Nodup) (hi : PI X tg iter (tDI X.K it)) (ok : BlkOk X.N X.env.scope scope own)
    (hg : ∀ (s : Shared) (H : Hp) (C : Addr) (cl : List (Str × Addr)) (fp : List Addr), PG (X.blk s H scope (compEnvC scope cl C X.env) fp) tg tgr) (hd : GD X.K tgr g) (hv : Sets tgr (own.map (·.2)))
    (ht : ∀ (s : Shared) (H : Hp) (C : Addr) (cl : List (Str × Addr)) (fp : List Addr), PTs (X.blk s H scope (compEnvC scope cl C X.env) fp) ifs (tDB X.K c))
    (he : ∀ (s : Shared) (H : Hp) (C : Addr) (cl : List (Str × Addr)) (fp : List Addr), PE (X.blk s H scope (compEnvC scope cl C X.env) fp) elt (tD X.K f)) (hs : ∀ x, foldedSetIterable iter X.env x = pure x := by intro _; rfl) :
    PE X (.ListComp elt [⟨tg, iter, ifs, 0⟩] scope pos) (tD X.K (eLcO it g c f (own.map (·.2)))) :=
  weakE (pe_lc hc hN hi ok hg ht he hs) fun σ H Q ⟨W, env, st, hE, hS, hA⟩ => lc_red hd hv hE hS hA fun _ _ _ _ _ _ _ h1 h2 h3 h4 => lc_finO h1 h2 h3 h4
/-- name = [..] on one line, the name a local -/
theorem ds_setLc (own : List (Str × Nat)) {i : Nat} {y : Str} {py : Pos} {spos : Pos} (hc : X.calm = true) (hN : X.N.Nodup) (hi : PI X tg iter (tDI X.K it)) (ok : BlkOk X.N X.env.scope scope own)
    (hg : ∀ (s : Shared) (H : Hp) (C : Addr) (cl : List (Str × Addr)) (fp : List Addr), PG (X.blk s H scope (compEnvC scope cl C X.env) fp) tg tgr) (hd : GD X.K tgr g) (hv : Sets tgr (own.map (·.2)))
    (ht : ∀ (s : Shared) (H : Hp) (C : Addr) (cl : List (Str × Addr)) (fp : List Addr), PTs (X.blk s H scope (compEnvC scope cl C X.env) fp) ifs (tDB X.K c))
    (he : ∀ (s : Shared) (H : Hp) (C : Addr) (cl : List (Str × Addr)) (fp : List Addr), PE (X.blk s H scope (compEnvC scope cl C X.env) fp) elt (tD X.K f))
    (hsw : swapsWith (.ListComp elt [⟨tg, iter, ifs, 0⟩] scope pos) (some (.Name y py)) spos.line X.env = pure true) (hy : X.N[i]? = some y := by rfl) (hyl : X.env.scope.names.lookup y = some .local := by rfl)
    (hs : ∀ x, foldedSetIterable iter X.env x = pure x := by intro _; rfl) :
    PS X (.Assign [.Name y py] (.ListComp elt [⟨tg, iter, ifs, 0⟩] scope pos) spos) (tDS X.K (sSet i (eLc it g c f (own.map (·.2))))) :=
  weakS (ps_setLc hc hN hy hyl hsw hi ok hg ht he hs) fun D σ H ⟨W, env, st, hE, hS, hA⟩ => by
    refine lc_red hd hv hE hS (AfterS.bind hA fun W1 H1 a b st1 g s r q => ?_) fun _ _ _ _ _ _ _ h1 h2 h3 h4 => lc_fin h1 h2 h3 h4
    exact q W1 H1 _ (Grow.refl _ _) s ((hE.mono g.le).set r)
theorem ds_setLcO (own : List (Str × Nat)) {i : Nat} {y : Str} {py : Pos} {spos : Pos} (hc : X.calm = true) (hN : X.N.Nodup) (hi : PI X tg iter (tDI X.K it)) (ok : BlkOk X.N X.env.scope scope own)
    (hg : ∀ (s : Shared) (H : Hp) (C : Addr) (cl : List (Str × Addr)) (fp : List Addr), PG (X.blk s H scope (compEnvC scope cl C X.env) fp) tg tgr) (hd : GD X.K tgr g) (hv : Sets tgr (own.map (·.2)))
    (ht : ∀ (s : Shared) (H : Hp) (C : Addr) (cl : List (Str × Addr)) (fp : List Addr), PTs (X.blk s H scope (compEnvC scope cl C X.env) fp) ifs (tDB X.K c))
    (he : ∀ (s : Shared) (H : Hp) (C : Addr) (cl : List (Str × Addr)) (fp : List Addr), PE (X.blk s H scope (compEnvC scope cl C X.env) fp) elt (tD X.K f))
    (hsw : swapsWith (.ListComp elt [⟨tg, iter, ifs, 0⟩] scope pos) (some (.Name y py)) spos.line X.env = pure true) (hy : X.N[i]? = some y := by rfl) (hyl : X.env.scope.names.lookup y = some .local := by rfl)
    (hs : ∀ x, foldedSetIterable iter X.env x = pure x := by intro _; rfl) :
    PS X (.Assign [.Name y py] (.ListComp elt [⟨tg, iter, ifs, 0⟩] scope pos) spos) (tDS X.K (sSet i (eLcO it g c f (own.map (·.2))))) :=
  weakS (ps_setLc hc hN hy hyl hsw hi ok hg ht he hs) fun D σ H ⟨W, env, st, hE, hS, hA⟩ => by
    refine lc_red hd hv hE hS (AfterS.bind hA fun W1 H1 a b st1 g s r q => ?_) fun _ _ _ _ _ _ _ h1 h2 h3 h4 => lc_finO h1 h2 h3 h4
    exact q W1 H1 _ (Grow.refl _ _) s ((hE.mono g.le).set r)
end

/-! ### defs -/
def endF (n : Nat) : Out Fl → Out T
  | .ok (.rt t) st => if T.bel n t = true then .ok t (st.take n) else .ok t st
  | .ok (.nx _) st => .ok .non (st.take n)
  | .ex c x st => .ex c x st
  | _ => .no
def mkFn (np nn : Nat) (body : Ss) : Fn := fun ts st => if ts.length = np then endF st.length (body (ts.map some ++ List.replicate (nn - np) none) st) else .no
theorem start_env {K : PySem.W.Frag} {W : Wd} {N : List Str} {ts : List T} {vs : List V} (r : Reps K W ts vs) : EnvR K W (ts.map some ++ List.replicate (N.length - ts.length) none) (L2.start N vs) := by
  have hl := Reps.length r
  unfold L2.start
  rw [← hl]
  refine ⟨by simp [hl], fun i t e => ?_⟩
  by_cases hi : i < ts.length
  · rw [List.getElem?_append_left (by simpa using hi), List.getElem?_map] at e
    cases q : ts[i]? with
    | none => rw [q] at e; cases e
    | some u =>
      rw [q] at e
      cases e
      obtain ⟨v, h1, h2⟩ := Reps.get r q
      refine ⟨v, ?_, h2⟩
      rw [List.getElem?_append_left (by simpa [← hl] using hi), List.getElem?_map, h1]
      rfl
  · rw [List.getElem?_append_right (by simpa using Nat.le_of_not_lt hi), List.getElem?_replicate] at e
    split at e <;> cases e
section
variable {P : Program} {w : World} {K : PySem.W.Frag} {mg : Str → Option Value} {base : Heap}
theorem fnD {x qual : Str} {st : Stmt} {f : Addr} {fd : FuncData} {N ps : List Str} {k : Nat} {body : Ss} (F : Fun K x qual st f fd) (S : FnScope N ps (defScope st))
    (hbody : ∀ (cdv : Value) (A : Around) (outer : List Env) (s : Shared) (H : Hp) (E : XK), Room k (A.deeper (envOfC qual (defScope st) s.heap.objs.size f cdv)) →
      PSs (cxOf CX0 P w K mg base N qual (defScope st) f cdv A outer s H E).nox (defBody st) (tDS K body)) : FnOk P w K mg base CX0 (k + 1) f fd ps (SpD K (mkFn ps.length N.length body)) := by
  refine F.ok S (fun vs H Q E h => ?_) (fun cdv A outer s H vs Q E hr h => ?_)
  · obtain ⟨W, ts, st, r, hS, hA⟩ := h
    unfold mkFn at hA
    split at hA
    · next hl => rw [← hl]; exact (Reps.length r).symm
    · exact hA.elim
  · obtain ⟨W, ts, sto, r, hS, hA⟩ := h
    unfold mkFn at hA
    split at hA
    · next hl =>
      refine ⟨_, hbody cdv A outer s H E hr, W, _, sto, start_env r, hS, ?_⟩
      rw [hl]
      cases q : body (ts.map some ++ List.replicate (N.length - ps.length) none) sto with
      | no => rw [q] at hA; exact hA
      | ex c x st => rw [q] at hA; exact hA
      | ok fl st' =>
        rw [q] at hA
        cases fl with
        | nx e =>
          have hA : ∀ W' H' b, Grow W H W' H' → StoOk K W' (st'.take sto.length) H' → Rep K W' .non b → Q b H' := hA
          exact fun W' H' σ' g s _ => hA _ H' .non (g.cut hS) (s.cut _) rfl
        | rt t =>
          intro W' H' v g s r2
          have hA : AfterG K W H (Rep K) (if T.bel sto.length t = true then .ok t (st'.take sto.length) else .ok t st') Q := hA
          by_cases hb : T.bel sto.length t = true
          · rw [if_pos hb] at hA
            exact hA _ H' v (g.cut hS) (s.cut _) (Rep.cut _ _ hb r2)
          · rw [if_neg hb] at hA
            exact hA W' H' v g s r2
        | bk e => exact hA.elim
        | ct e => exact hA.elim
    · exact hA.elim
end
end
end Dn

set_option Elab.async false
set_option linter.all false
set_option maxRecDepth 100000
set_option maxHeartbeats 4000000
/-! Dn, part D: the primitive operations. -/
namespace Dn
open PySem PySem.Spec PyProof.Rows L2

/-- another text of the same meaning -/
theorem de_re {X : Cx} {e : Expr} {f g : Sx} (h : PE X e (tD X.K f)) (q : f = g) : PE X e (tD X.K g) := q ▸ h

/-! ### reading a sequence -/
def seqOf (x : T) (st : Sto) : Option (List T) := match x with
  | .lst xs => some xs
  | .tup xs => some xs
  | .ref n => match st[n]? with
    | some (.lst xs) => some xs
    | some (.fz xs) => some xs
    | none => none
  | _ => none
def lstOf (x : T) (st : Sto) : Option (List T) := match x with
  | .tup _ => none
  | x => seqOf x st
@[simp] theorem seqOf_lst {xs : List T} {st : Sto} : seqOf (.lst xs) st = some xs := rfl
@[simp] theorem seqOf_tup {xs : List T} {st : Sto} : seqOf (.tup xs) st = some xs := rfl
@[simp] theorem lstOf_lst {xs : List T} {st : Sto} : lstOf (.lst xs) st = some xs := rfl
section
variable {K : PySem.W.Frag} {W : Wd} {st : Sto} {H : Hp} {x y : T} {v : V} {xs : List T}
theorem lst_rep (hS : StoOk K W st H) (r : Rep K W x v) (h : lstOf x st = some xs) : ∃ a vs, v = .ref a ∧ SqL K H a vs ∧ vs.length ≤ sizeLine ∧ Reps K W xs vs := by
  cases x with
  | lst ys =>
    obtain ⟨a, vs, e1, e2, e3, e4⟩ := r
    have h : some ys = some xs := h
    cases h
    exact ⟨a, vs, e1, hS.frz.seq e2, e3, e4⟩
  | ref n =>
    obtain ⟨a, e1, e2⟩ := r
    cases q : st[n]? with
    | none => simp only [lstOf, seqOf, q] at h; cases h
    | some o =>
      have hO := hS.ob n a o e2 q
      cases o with
      | lst ys =>
        simp only [lstOf, seqOf, q] at h
        cases h
        obtain ⟨_, vs, h1, h2, h3⟩ := hO
        exact ⟨a, vs, e1, .inl (.inl h1), h2, h3⟩
      | fz ys =>
        simp only [lstOf, seqOf, q] at h
        cases h
        obtain ⟨vs, h1, h2, h3⟩ := hO
        exact ⟨a, vs, e1, .inl (.inl (hS.frz _ _ h1)), h2, h3⟩
  | _ => cases h
theorem seq_rep (hS : StoOk K W st H) (r : Rep K W x v) (h : seqOf x st = some xs) : ∃ a vs, v = .ref a ∧ (SqL K H a vs ∨ SqT K H a vs) ∧ vs.length ≤ sizeLine ∧ Reps K W xs vs := by
  cases x with
  | tup ys =>
    obtain ⟨a, vs, e1, e2, e3, e4⟩ := r
    have h : some ys = some xs := h
    cases h
    exact ⟨a, vs, e1, .inr (sqT_mono hS.frz e2), e3, e4⟩
  | lst ys =>
    obtain ⟨a, vs, e1, e2, e3, e4⟩ := lst_rep hS r (show lstOf _ st = some xs from h)
    exact ⟨a, vs, e1, .inl e2, e3, e4⟩
  | ref n =>
    obtain ⟨a, vs, e1, e2, e3, e4⟩ := lst_rep hS r (show lstOf _ st = some xs from h)
    exact ⟨a, vs, e1, .inl e2, e3, e4⟩
  | _ => cases h
/-- all items are ints; truth values -/
def intL : List T → Option (List Int)
  | [] => some []
  | .int i :: r => (intL r).map fun l => i :: l
  | _ :: _ => none
def boolL : List T → Option (List Bool)
  | [] => some []
  | .bl b :: r => (boolL r).map fun l => b :: l
  | _ :: _ => none
@[simp] theorem intL_nil : intL [] = some [] := rfl
@[simp] theorem intL_cons {i : Int} {r : List T} : intL (.int i :: r) = (intL r).map fun l => i :: l := rfl
@[simp] theorem boolL_nil : boolL [] = some [] := rfl
@[simp] theorem boolL_cons {i : Bool} {r : List T} : boolL (.bl i :: r) = (boolL r).map fun l => i :: l := rfl
@[simp] theorem intL_map : ∀ ns : List Int, intL (ns.map T.int) = some ns
  | [] => rfl
  | n :: r => by simp [intL_map r]
@[simp] theorem boolL_map : ∀ ns : List Bool, boolL (ns.map T.bl) = some ns
  | [] => rfl
  | n :: r => by simp [boolL_map r]
theorem intL_eq : ∀ {xs : List T} {ns : List Int}, intL xs = some ns → xs = ns.map T.int
  | [], ns, h => by
    cases h
    rfl
  | x :: r, ns, h => by
    cases x with
    | int i =>
      rw [intL_cons] at h
      cases q : intL r with
      | none => rw [q] at h; cases h
      | some l =>
        rw [q] at h
        cases h
        rw [List.map_cons, ← intL_eq q]
    | _ => cases h
theorem boolL_eq : ∀ {xs : List T} {ns : List Bool}, boolL xs = some ns → xs = ns.map T.bl
  | [], ns, h => by
    cases h
    rfl
  | x :: r, ns, h => by
    cases x with
    | bl i =>
      rw [boolL_cons] at h
      cases q : boolL r with
      | none => rw [q] at h; cases h
      | some l =>
        rw [q] at h
        cases h
        rw [List.map_cons, ← boolL_eq q]
    | _ => cases h
theorem reps_ints : ∀ {ns : List Int} {vs : List V}, Reps K W (ns.map T.int) vs → vs = ns.map V.int
  | [], vs, h => h
  | n :: r, vs, h => by
    obtain ⟨v, r', e1, e2, e3⟩ := h
    have e2 : v = .int n := e2
    rw [e1, e2, reps_ints e3]
    rfl
theorem reps_bools : ∀ {ns : List Bool} {vs : List V}, Reps K W (ns.map T.bl) vs → vs = ns.map V.bl
  | [], vs, h => h
  | n :: r, vs, h => by
    obtain ⟨v, r', e1, e2, e3⟩ := h
    have e2 : v = .bl n := e2
    rw [e1, e2, reps_bools e3]
    rfl
theorem reps1 {t : T} {vs : List V} (h : Reps K W [t] vs) : ∃ v, vs = [v] ∧ Rep K W t v := by
  obtain ⟨v, r, e1, e2, e3⟩ := h
  have e3 : r = [] := e3
  rw [e3] at e1
  exact ⟨v, e1, e2⟩
theorem reps2 {t u : T} {vs : List V} (h : Reps K W [t, u] vs) : ∃ v w, vs = [v, w] ∧ Rep K W t v ∧ Rep K W u w := by
  obtain ⟨v, r, e1, e2, e3⟩ := h
  obtain ⟨w, e4, e5⟩ := reps1 e3
  rw [e4] at e1
  exact ⟨v, w, e1, e2, e5⟩
end

/-! ### intL -/
noncomputable def mulOk (i j : Int) : Bool := yes (i.natAbs.log2 + j.natAbs.log2 < 100000000)
theorem mulOk_iff {i j : Int} : mulOk i j = true ↔ i.natAbs.log2 + j.natAbs.log2 < 100000000 := yes_iff
theorem mulOk_ok {i j : Int} (h : mulOk i j = true) : IntMulOk i j := by
  have b : ∀ x : Int, Builtin.Int.intBits x ≤ x.natAbs.log2 + 1 := fun x => by
    unfold Builtin.Int.intBits
    split <;> omega
  have h1 := b i
  have h2 := b j
  have h3 : i.natAbs.log2 + j.natAbs.log2 < 100000000 := mulOk_iff.mp h
  have e : bitsLine = 134217728 := by decide
  unfold IntMulOk
  intro z
  rw [Bool.and_eq_true] at z
  have z2 := z.2
  unfold Builtin.Int.intTooBig at z2
  have z3 := of_decide_eq_true z2
  rw [e] at z3
  omega
def pAdd (x y : T) (st : Sto) : Out T := match x, y with
  | .int i, .int j => .ok (.int (i + j)) st
  | .str x, .str y => if x.length + y.length ≤ sizeLine then .ok (.str (x ++ y)) st else .no
  | .tup xs, .tup ys => nTup (xs ++ ys) st
  | _, _ => .no
def pSub (x y : T) (st : Sto) : Out T := match x, y with
  | .int i, .int j => .ok (.int (i - j)) st
  | _, _ => .no
noncomputable def pMul (x y : T) (st : Sto) : Out T := match x, y with
  | .int i, .int j => if mulOk i j = true then .ok (.int (i * j)) st else .no
  | _, _ => .no
noncomputable def divOk (j : Int) : Bool := yes (0 < j ∧ j.natAbs.log2 < 9000)
theorem divOk_iff {j : Int} : divOk j = true ↔ 0 < j ∧ j.natAbs.log2 < 9000 := yes_iff
noncomputable def pDiv (x y : T) (st : Sto) : Out T := match x, y with
  | .int i, .int j => if divOk j = true then .ok (.int (i / j)) st else .no
  | _, _ => .no
def pMod (x y : T) (st : Sto) : Out T := match x, y with
  | .int i, .int j => if 0 < j then .ok (.int (i % j)) st else .no
  | _, _ => .no
noncomputable def powOk (i j : Int) : Bool := yes (0 ≤ j ∧ (i.natAbs.log2 + 1) * j.toNat ≤ 2 ^ 27)
theorem powOk_iff {i j : Int} : powOk i j = true ↔ 0 ≤ j ∧ (i.natAbs.log2 + 1) * j.toNat ≤ 2 ^ 27 := yes_iff
noncomputable def pPow (x y : T) (st : Sto) : Out T := match x, y with
  | .int i, .int j => if powOk i j = true then .ok (.int (i ^ j.toNat)) st else .no
  | _, _ => .no
def pNeg (x : T) (st : Sto) : Out T := match x with
  | .int i => .ok (.int (-i)) st
  | _ => .no
def pCmp (p : Int → Int → Bool) (x y : T) (st : Sto) : Out T := match x, y with
  | .int i, .int j => .ok (.bl (p i j)) st
  | _, _ => .no
abbrev pLt := pCmp fun i j => decide (i < j)
abbrev pLe := pCmp fun i j => decide (i ≤ j)
abbrev pGt := pCmp fun i j => decide (j < i)
abbrev pGe := pCmp fun i j => decide (j ≤ i)
section
variable {K : PySem.W.Frag} {X : Cx}
theorem sc1 {x : T} {v : V} {W : Wd} {st : Sto} {H : Hp} {Q : VK} (hS : StoOk K W st H) (h : AfterG K W H (Rep K) (.ok x st) Q) (r : Rep K W x v) : Q v H := h W H v (Grow.refl _ _) hS r
abbrev rAdd (K : PySem.W.Frag) : R2 := fun x y H Q => (rI0 fun i j => .int (i + j)) x y H Q ∨ (∃ i j, x = .str i ∧ y = .str j ∧ i.length + j.length ≤ sizeLine ∧ Q (.str (i ++ j)) H) ∨ rCatA K x y H Q
theorem op_addD : OpR X (binaryOp .Add) (rAdd X.K) := op_add.or (op_add_str.or op_catA)
theorem d_add : OpD K (rAdd K) pAdd := fun W H st x y vx vy Q hS rx ry h => by
  unfold pAdd at h
  split at h
  · next i j => exact .inl ⟨i, j, rx, ry, sc1 hS h rfl⟩
  · next i j =>
    split at h
    · next hz => exact .inr (.inl ⟨i, j, rx, ry, hz, sc1 hS h rfl⟩)
    · exact h.elim
  · next xs ys =>
    obtain ⟨a, vs, e1, e2, e3, e4⟩ := rx
    obtain ⟨b, ws, f1, f2, f3, f4⟩ := ry
    unfold nTup at h
    split at h
    · next hz =>
      have r := Reps.append e4 f4
      rw [Reps.length r, List.length_append] at hz
      refine .inr (.inr ⟨a, b, vs, ws, e1, f1, sqT_mono hS.frz e2, sqT_mono hS.frz f2, hz, fun hv => ?_, fun _ hw => ?_, fun _ _ p np => ?_⟩)
      · refine sc1 hS h ⟨b, ws, rfl, f2, f3, ?_⟩
        rw [hv] at r
        exact r
      · refine sc1 hS h ⟨a, vs, rfl, e2, e3, ?_⟩
        rw [hw, List.append_nil] at r
        exact r
      · obtain ⟨s2, g2⟩ := hS.add (o := .tup (vs ++ ws)) np
        exact h _ _ _ g2 s2 ⟨p, vs ++ ws, rfl, .inl (.inl upd_same), by rw [List.length_append]; exact hz, Reps.mono g2.le _ _ r⟩
    · exact h.elim
  · exact h.elim
theorem d_sub : OpD K (rI0 fun i j => .int (i - j)) pSub := fun W H st x y vx vy Q hS rx ry h => by
  unfold pSub at h
  split at h
  · next i j => exact ⟨i, j, rx, ry, sc1 hS h rfl⟩
  · exact h.elim
theorem op_mulD : OpR X (binaryOp .Mult) (rI (fun i j => mulOk i j = true) fun i j => .int (i * j)) := opI fun _ _ _ _ _ _ _ hc q => mul_int q (mulOk_ok hc)
theorem d_mul : OpD K (rI (fun i j => mulOk i j = true) fun i j => .int (i * j)) pMul := fun W H st x y vx vy Q hS rx ry h => by
  unfold pMul at h
  split at h
  · next i j =>
    split at h
    · next hz => exact ⟨i, j, rx, ry, hz, sc1 hS h rfl⟩
    · exact h.elim
  · exact h.elim
theorem d_div : OpD K (rI CDivW fun i j => .int (i / j)) pDiv := fun W H st x y vx vy Q hS rx ry h => by
  unfold pDiv at h
  split at h
  · next i j =>
    split at h
    · next hz =>
      exact ⟨i, j, rx, ry, divOk_iff.mp hz, sc1 hS h rfl⟩
    · exact h.elim
  · exact h.elim
theorem d_mod : OpD K (rI (fun _ j => 0 < j) fun i j => .int (i % j)) pMod := fun W H st x y vx vy Q hS rx ry h => by
  unfold pMod at h
  split at h
  · next i j =>
    split at h
    · next hz => exact ⟨i, j, rx, ry, hz, sc1 hS h rfl⟩
    · exact h.elim
  · exact h.elim
theorem op_powD : OpR X (binaryOp .Pow) (rI (fun i j => powOk i j = true) fun i j => .int (i ^ j.toNat)) := opI fun i j _ _ _ _ _ hc q => by
  have hc := powOk_iff.mp hc
  refine pow_int hc.1 ?_ q
  have b : Builtin.Int.intBits i ≤ i.natAbs.log2 + 1 := by
    unfold Builtin.Int.intBits
    split <;> omega
  have h1 : Builtin.Int.intBits i * j.toNat ≤ 2 ^ 27 := Nat.le_trans (Nat.mul_le_mul_right _ b) hc.2
  have e : (j.toNat : Int) = j := Int.toNat_of_nonneg hc.1
  rw [← e]
  exact_mod_cast h1
theorem d_pow : OpD K (rI (fun i j => powOk i j = true) fun i j => .int (i ^ j.toNat)) pPow := fun W H st x y vx vy Q hS rx ry h => by
  unfold pPow at h
  split at h
  · next i j =>
    split at h
    · next hz => exact ⟨i, j, rx, ry, hz, sc1 hS h rfl⟩
    · exact h.elim
  · exact h.elim
theorem d_neg : UnD K (rU fun i => .int (-i)) pNeg := fun W H st x vx Q hS rx h => by
  unfold pNeg at h
  split at h
  · next i => exact ⟨i, rx, sc1 hS h rfl⟩
  · exact h.elim
theorem d_cmp {p : Int → Int → Bool} : OpD K (rI0 fun i j => .bl (p i j)) (pCmp p) := fun W H st x y vx vy Q hS rx ry h => by
  unfold pCmp at h
  split at h
  · next i j => exact ⟨i, j, rx, ry, sc1 hS h rfl⟩
  · exact h.elim
end

/-! ### data: == -/
mutual
def pd0 : T → Option PyData
  | .non => some .none
  | .bl b => some (.bool b)
  | .int i => some (.int i)
  | .str x => some (.str x)
  | .tup xs => (pds0 xs).map .tuple
  | .lst xs => (pds0 xs).map .list
  | .ty _ => none
  | .ref _ => none
def pds0 : List T → Option (List PyData)
  | [] => some []
  | x :: r => (pd0 x).bind fun d => (pds0 r).map fun l => d :: l
end
def pd (x : T) (st : Sto) : Option PyData := match x with
  | .ref n => match st[n]? with
    | some (.lst xs) => (pds0 xs).map .list
    | some (.fz xs) => (pds0 xs).map .list
    | none => none
  | x => pd0 x
mutual
theorem pd0_dp {K : PySem.W.Frag} {W : Wd} {H : Hp} (hf : Same W.F H) : ∀ (t : T) (v : V) (d : PyData), Rep K W t v → pd0 t = some d → Dp K H v d
  | .non, v, d, r, h => by
    cases h
    have r : v = .non := r
    rw [r]
    exact .non
  | .bl b, v, d, r, h => by
    cases h
    have r : v = .bl b := r
    rw [r]
    exact .bl b
  | .int i, v, d, r, h => by
    cases h
    have r : v = .int i := r
    rw [r]
    exact .int i
  | .str x, v, d, r, h => by
    cases h
    have r : v = .str x := r
    rw [r]
    exact .str x
  | .tup xs, v, d, r, h => by
    obtain ⟨a, vs, e1, e2, e3, e4⟩ := r
    have h : (pds0 xs).map PyData.tuple = some d := h
    cases q : pds0 xs with
    | none => rw [q] at h; cases h
    | some l =>
      rw [q] at h
      cases h
      rw [e1]
      exact .tup (sqT_mono hf e2) (pds0_dp hf xs vs l e4 q)
  | .lst xs, v, d, r, h => by
    obtain ⟨a, vs, e1, e2, e3, e4⟩ := r
    have h : (pds0 xs).map PyData.list = some d := h
    cases q : pds0 xs with
    | none => rw [q] at h; cases h
    | some l =>
      rw [q] at h
      cases h
      rw [e1]
      exact .lst (hf.seq e2) (pds0_dp hf xs vs l e4 q)
theorem pds0_dp {K : PySem.W.Frag} {W : Wd} {H : Hp} (hf : Same W.F H) : ∀ (ts : List T) (vs : List V) (ds : List PyData), Reps K W ts vs → pds0 ts = some ds → DpAll K H vs ds
  | [], vs, ds, r, h => by
    cases h
    have r : vs = [] := r
    rw [r]
    exact .nil
  | x :: xs, vs, ds, r, h => by
    obtain ⟨v, vr, e1, e2, e3⟩ := r
    have h : ((pd0 x).bind fun d => (pds0 xs).map fun l => d :: l) = some ds := h
    cases q1 : pd0 x with
    | none => rw [q1] at h; cases h
    | some d =>
      rw [q1] at h
      have h : ((pds0 xs).map fun l => d :: l) = some ds := h
      cases q2 : pds0 xs with
      | none => rw [q2] at h; cases h
      | some l =>
        rw [q2] at h
        cases h
        rw [e1]
        exact .cons (pd0_dp hf x v d e2 q1) (pds0_dp hf xs vr l e3 q2)
end
theorem pd_dp {K : PySem.W.Frag} {W : Wd} {st : Sto} {H : Hp} (hS : StoOk K W st H) {t : T} {v : V} {d : PyData} (r : Rep K W t v) (h : pd t st = some d) : Dp K H v d := by
  cases t with
  | ref n =>
    cases q : lstOf (.ref n) st with
    | none =>
      simp only [pd] at h
      simp only [lstOf, seqOf] at q
      split at h <;> simp_all
    | some xs =>
      obtain ⟨a, vs, e1, e2, e3, e4⟩ := lst_rep hS r q
      have h : (pds0 xs).map PyData.list = some d := by
        simp only [pd] at h
        simp only [lstOf, seqOf] at q
        split at h <;> simp_all
      cases q2 : pds0 xs with
      | none => rw [q2] at h; cases h
      | some l =>
        rw [q2] at h
        cases h
        rw [e1]
        exact .lst e2 (pds0_dp hS.frz xs vs l e4 q2)
  | _ => exact pd0_dp hS.frz _ v d r h
def pEqB (g : Bool → Bool) (x y : T) (st : Sto) : Out T := match pd x st, pd y st with
  | some d, some e => if SeqAt.shaped d = true ∧ SeqAt.shaped e = true then .ok (.bl (g (PyData.eqv d e))) st else .no
  | _, _ => .no
abbrev pEq := pEqB fun b => b
abbrev pNe := pEqB fun b => !b
def scalT : T → Bool
  | .non => true
  | .bl _ => true
  | .int _ => true
  | .str _ => true
  | _ => false
def isNon : T → Bool
  | .non => true
  | _ => false
def pIsN (g : Bool → Bool) (x y : T) (st : Sto) : Out T := match y with
  | .non => .ok (.bl (g (isNon x))) st
  | _ => .no
section
variable {K : PySem.W.Frag} {X : Cx}
theorem d_eq : OpD K (rEqD K) pEq := fun W H st x y vx vy Q hS rx ry h => by
  unfold pEq pEqB at h
  split at h
  · next d e h1 h2 =>
    split at h
    · next hz => exact ⟨d, e, pd_dp hS rx h1, pd_dp hS ry h2, hz.1, hz.2, sc1 hS h rfl⟩
    · exact h.elim
  · exact h.elim
theorem d_ne : OpD K (rNeD K) pNe := fun W H st x y vx vy Q hS rx ry h => by
  unfold pNe pEqB at h
  split at h
  · next d e h1 h2 =>
    split at h
    · next hz => exact ⟨d, e, pd_dp hS rx h1, pd_dp hS ry h2, hz.1, hz.2, sc1 hS h rfl⟩
    · exact h.elim
  · exact h.elim
theorem non_iff {W : Wd} {x : T} {v : V} (r : Rep K W x v) : decide (v = .non) = isNon x := by
  cases x with
  | non => rw [show v = .non from r]; rfl
  | bl b => rw [show v = .bl b from r]; rfl
  | int b => rw [show v = .int b from r]; rfl
  | str b => rw [show v = .str b from r]; rfl
  | ty b => rw [show v = .ty b from r]; rfl
  | tup xs => obtain ⟨a, vs, e, _⟩ := r; rw [e]; rfl
  | lst xs => obtain ⟨a, vs, e, _⟩ := r; rw [e]; rfl
  | ref n => obtain ⟨a, e, _⟩ := r; rw [e]; rfl
theorem d_isN : OpD K (fun x y H Q => y = .non ∧ Q (.bl (decide (x = .non))) H) (pIsN fun b => b) := fun W H st x y vx vy Q hS rx ry h => by
  unfold pIsN at h
  split at h
  · exact ⟨ry, by rw [non_iff rx]; exact sc1 hS h rfl⟩
  · exact h.elim
theorem d_notN : OpD K (fun x y H Q => y = .non ∧ Q (.bl (!decide (x = .non))) H) (pIsN fun b => !b) := fun W H st x y vx vy Q hS rx ry h => by
  unfold pIsN at h
  split at h
  · exact ⟨ry, by rw [non_iff rx]; exact sc1 hS h rfl⟩
  · exact h.elim
end

/-! ### subscripts, len, isinstance -/
def pIx (x y : T) (st : Sto) : Out T := match y with
  | .int i => match seqOf x st with
    | some xs => match atI xs i with
      | some t => .ok t st
      | none => .no
    | none => .no
  | _ => .no
def pLen (ts : List T) (st : Sto) : Out T := match ts with
  | [.str z] => if z.length ≤ sizeLine then .ok (.int z.length) st else .no
  | [x] => match seqOf x st with
    | some xs => .ok (.int xs.length) st
    | none => .no
  | _ => .no
def tyN (x : T) (st : Sto) : Option String := match x with
  | .non => some "NoneType"
  | .bl _ => some "bool"
  | .int _ => some "int"
  | .str _ => some "str"
  | .tup _ => some "tuple"
  | .lst _ => some "list"
  | .ref n => if n < st.length then some "list" else none
  | .ty _ => none
def isT (a b : String) : Option Bool := kitB a b
@[simp] theorem isT1 : isT "int" "int" = some true := by decide +kernel
@[simp] theorem isT2 : isT "int" "bool" = some false := by decide +kernel
@[simp] theorem isT3 : isT "bool" "int" = some true := by decide +kernel
@[simp] theorem isT4 : isT "bool" "bool" = some true := by decide +kernel
@[simp] theorem isT5 : isT "tuple" "tuple" = some true := by decide +kernel
@[simp] theorem isT6 : isT "list" "tuple" = some false := by decide +kernel
@[simp] theorem isT7 : isT "tuple" "list" = some false := by decide +kernel
@[simp] theorem isT8 : isT "list" "list" = some true := by decide +kernel
@[simp] theorem isT9 : isT "tuple" "int" = some false := by decide +kernel
@[simp] theorem isT10 : isT "list" "int" = some false := by decide +kernel
@[simp] theorem isT11 : isT "str" "int" = some false := by decide +kernel
@[simp] theorem isT12 : isT "str" "tuple" = some false := by decide +kernel
@[simp] theorem isT13 : isT "str" "list" = some false := by decide +kernel
@[simp] theorem isT14 : isT "str" "str" = some true := by decide +kernel
@[simp] theorem isT15 : isT "NoneType" "int" = some false := by decide +kernel
@[simp] theorem isT16 : isT "NoneType" "tuple" = some false := by decide +kernel
@[simp] theorem isT17 : isT "NoneType" "list" = some false := by decide +kernel
@[simp] theorem isT18 : isT "NoneType" "str" = some false := by decide +kernel
@[simp] theorem isT19 : isT "int" "tuple" = some false := by decide +kernel
@[simp] theorem isT20 : isT "int" "list" = some false := by decide +kernel
@[simp] theorem isT21 : isT "int" "str" = some false := by decide +kernel
@[simp] theorem isT22 : isT "bool" "tuple" = some false := by decide +kernel
@[simp] theorem isT23 : isT "bool" "list" = some false := by decide +kernel
@[simp] theorem isT24 : isT "bool" "str" = some false := by decide +kernel
@[simp] theorem isT25 : isT "tuple" "str" = some false := by decide +kernel
@[simp] theorem isT26 : isT "list" "str" = some false := by decide +kernel
@[simp] theorem isT27 : isT "tuple" "bool" = some false := by decide +kernel
@[simp] theorem isT28 : isT "list" "bool" = some false := by decide +kernel
@[simp] theorem isT29 : isT "str" "bool" = some false := by decide +kernel
@[simp] theorem isT30 : isT "NoneType" "bool" = some false := by decide +kernel
def pIsi (ts : List T) (st : Sto) : Out T := match ts with
  | [x, .ty n] => match (tyN x st).bind fun a => isT a n with
    | some b => .ok (.bl b) st
    | none => .no
  | _ => .no
section
variable {K : PySem.W.Frag} {X : Cx}
theorem reps_at {W : Wd} {xs : List T} {vs : List V} {i : Int} {t : T} (r : Reps K W xs vs) (h : atI xs i = some t) : ∃ v, atI vs i = some v ∧ Rep K W t v := by
  unfold atI at h ⊢
  rw [Reps.length r] at h
  cases q : ixN vs.length i with
  | none => rw [q] at h; cases h
  | some j =>
    rw [q] at h
    obtain ⟨v, h1, h2⟩ := Reps.get r (show xs[j]? = some t from h)
    exact ⟨v, h1, h2⟩
abbrev rIxD (K : PySem.W.Frag) : R2 := fun x y H Q => rIxL K x y H Q ∨ rIxT K x y H Q
theorem ix_D : IxR X (rIxD X.K) := ix_list.or ix_tup
theorem d_ix : OpD K (rIxD K) pIx := fun W H st x y vx vy Q hS rx ry h => by
  unfold pIx at h
  split at h
  · next i =>
    split at h
    · next xs q =>
      split at h
      · next t q2 =>
        obtain ⟨a, vs, e1, e2, e3, e4⟩ := seq_rep hS rx q
        obtain ⟨v, h1, h2⟩ := reps_at e4 q2
        rcases e2 with e2 | e2
        · exact .inl ⟨a, vs, i, v, e1, ry, e2, h1, sc1 hS h h2⟩
        · exact .inr ⟨a, vs, i, v, e1, ry, e2, h1, sc1 hS h h2⟩
      · exact h.elim
    · exact h.elim
  · exact h.elim
abbrev rLenD (K : PySem.W.Frag) : List V → Hp → VK → Prop := fun xs H Q => (∃ p ys, xs = [.ref p] ∧ (SqL K H p ys ∨ SqT K H p ys) ∧ Q (.int ys.length) H) ∨ ∃ z, xs = [.str z] ∧ z.length ≤ sizeLine ∧ Q (.int z.length) H
theorem call_lenD' : CallR X (.builtin "len") (rLenD X.K) := call_len_seq.or call_len_str
theorem d_len : CallD K (rLenD K) pLen := fun W H st ts vs Q hS r h => by
  unfold pLen at h
  split at h
  · next z =>
    split at h
    · next hz =>
      obtain ⟨v, e1, e2⟩ := reps1 r
      have e2 : v = .str z := e2
      rw [e2] at e1
      exact .inr ⟨z, e1, hz, sc1 hS h rfl⟩
    · exact h.elim
  · next x _ =>
    split at h
    · next xs q =>
      obtain ⟨v, e1, e2⟩ := reps1 r
      obtain ⟨a, ws, f1, f2, f3, f4⟩ := seq_rep hS e2 q
      rw [f1] at e1
      exact .inl ⟨a, ws, e1, f2, sc1 hS h (by rw [Reps.length f4]; rfl)⟩
    · exact h.elim
  · exact h.elim
theorem tyx_of {W : Wd} {st : Sto} {H : Hp} {x : T} {v : V} {n : String} (hS : StoOk K W st H) (r : Rep K W x v) (h : tyN x st = some n) : TyX K H v (.type n) := by
  have lst : ∀ {a : Addr} {vs : List V}, SqL K H a vs → TyX K H (.ref a) (.type "list") := fun {a vs} h => by
    rcases h with (h | ⟨o, h⟩) | ⟨o, its, m, h1, h2, _⟩
    · exact .base (.lst h)
    · exact .base (.frz h)
    · exact .kList h1 h2
  cases x with
  | non =>
    cases h
    rw [show v = .non from r]
    exact .base .non
  | bl b =>
    cases h
    rw [show v = .bl b from r]
    exact .base (.bl b)
  | int b =>
    cases h
    rw [show v = .int b from r]
    exact .base (.int b)
  | str b =>
    cases h
    rw [show v = .str b from r]
    exact .base (.str b)
  | ty b => cases h
  | tup xs =>
    cases h
    obtain ⟨a, vs, e1, e2, _⟩ := r
    rw [e1]
    rcases sqT_mono hS.frz e2 with (h | ⟨o, h⟩) | ⟨o, its, m, h1, h2, _⟩
    · exact .base (.tup h)
    · exact .fTuple h
    · exact .kTuple h1 h2
  | lst xs =>
    cases h
    obtain ⟨a, vs, e1, e2, _⟩ := r
    rw [e1]
    exact lst (hS.frz.seq e2)
  | ref m =>
    obtain ⟨a, e1, e2⟩ := r
    have h : (if m < st.length then some "list" else none) = some n := h
    split at h
    · next hm =>
      cases h
      rw [e1]
      have q := hS.ob m a st[m] e2 (List.getElem?_eq_getElem hm)
      cases z : st[m] with
      | lst ys =>
        rw [z] at q
        obtain ⟨_, vs, h1, _⟩ := q
        exact lst (.inl (.inl h1))
      | fz ys =>
        rw [z] at q
        obtain ⟨vs, h1, _⟩ := q
        exact lst (.inl (.inl (hS.frz _ _ h1)))
    · cases h
theorem d_isi : CallD K (rIsi K) pIsi := fun W H st ts vs Q hS r h => by
  unfold pIsi at h
  split at h
  · next x n =>
    split at h
    · next b q =>
      obtain ⟨v, u, e1, e2, e3⟩ := reps2 r
      have e3 : u = .ty n := e3
      cases q2 : tyN x st with
      | none => rw [q2] at q; cases q
      | some a =>
        rw [q2] at q
        exact ⟨v, u, .type a, .type n, b, e1, by rw [e3]; exact .ty n, tyx_of hS e2 q2, kit_ty q, sc1 hS h rfl⟩
    · exact h.elim
  · exact h.elim
theorem de_ty {x : Str} {n : String} {pos : Pos} (hg : Gl X x) (hm : X.mg x = none) (hv : bootBuiltins x = some (.type n)) (hn : x ≠ "__name__" := by decide) (hd : (x == ("__debug__" : Str)) = false := by decide) : PE X (.Name x pos) (tD X.K (eC (.ty n))) :=
  de_c (pe_bltn hg hm hv (v := .ty n) rfl hn hd) fun _ => rfl
end
end Dn

set_option Elab.async false
set_option linter.all false
set_option maxRecDepth 100000
set_option maxHeartbeats 4000000
/-! Dn, part E: built-in functions, methods, stores. -/
namespace Dn
open PySem PySem.Spec PyProof.Rows L2

/-! ### max, min, sum, all, any, abs, int, tuple, list -/
def maxI (n : Int) (r : List Int) : Int := r.foldl max n
def minI (n : Int) (r : List Int) : Int := r.foldl min n
theorem maxI_spec : ∀ (r : List Int) (n : Int), maxI n r ∈ n :: r ∧ ∀ y ∈ n :: r, y ≤ maxI n r
  | [], n => by simp [maxI]
  | k :: r, n => by
    have ⟨h1, h2⟩ := maxI_spec r (max n k)
    have e : maxI n (k :: r) = maxI (max n k) r := rfl
    rw [e]
    refine ⟨?_, fun y hy => ?_⟩
    · rcases List.mem_cons.mp h1 with h1 | h1
      · rw [h1]
        by_cases q : n ≤ k
        · rw [Int.max_eq_right q]; simp
        · rw [Int.max_eq_left (by omega)]; simp
      · simp [h1]
    · have hm := h2 (max n k) (by simp)
      rcases List.mem_cons.mp hy with rfl | hy
      · omega
      · rcases List.mem_cons.mp hy with rfl | hy
        · omega
        · exact h2 y (by simp [hy])
theorem minI_spec : ∀ (r : List Int) (n : Int), minI n r ∈ n :: r ∧ ∀ y ∈ n :: r, minI n r ≤ y
  | [], n => by simp [minI]
  | k :: r, n => by
    have ⟨h1, h2⟩ := minI_spec r (min n k)
    have e : minI n (k :: r) = minI (min n k) r := rfl
    rw [e]
    refine ⟨?_, fun y hy => ?_⟩
    · rcases List.mem_cons.mp h1 with h1 | h1
      · rw [h1]
        by_cases q : n ≤ k
        · rw [Int.min_eq_left q]; simp
        · rw [Int.min_eq_right (by omega)]; simp
      · simp [h1]
    · have hm := h2 (min n k) (by simp)
      rcases List.mem_cons.mp hy with rfl | hy
      · omega
      · rcases List.mem_cons.mp hy with rfl | hy
        · omega
        · exact h2 y (by simp [hy])
def pMax (ts : List T) (st : Sto) : Out T := match ts with
  | [.int i, .int j] => .ok (.int (max i j)) st
  | [x] => match (seqOf x st).bind intL with
    | some (n :: r) => .ok (.int (maxI n r)) st
    | _ => .no
  | _ => .no
def pMin (ts : List T) (st : Sto) : Out T := match ts with
  | [.int i, .int j] => .ok (.int (min i j)) st
  | [x] => match (seqOf x st).bind intL with
    | some (n :: r) => .ok (.int (minI n r)) st
    | _ => .no
  | _ => .no
def pSum (ts : List T) (st : Sto) : Out T := match ts with
  | [x] => match (lstOf x st).bind intL with
    | some ns => .ok (.int ns.sum) st
    | none => .no
  | _ => .no
def pAll (ts : List T) (st : Sto) : Out T := match ts with
  | [x] => match (lstOf x st).bind boolL with
    | some bs => .ok (.bl (bs.all id)) st
    | none => .no
  | _ => .no
def pAny (ts : List T) (st : Sto) : Out T := match ts with
  | [x] => match (lstOf x st).bind boolL with
    | some bs => .ok (.bl (bs.any id)) st
    | none => .no
  | _ => .no
def pAbs (ts : List T) (st : Sto) : Out T := match ts with
  | [.int i] => .ok (.int (if i < 0 then -i else i)) st
  | _ => .no
def pInt (ts : List T) (st : Sto) : Out T := match ts with
  | [.int i] => .ok (.int i) st
  | [.bl b] => .ok (.int (if b then 1 else 0)) st
  | _ => .no
def pTuple (ts : List T) (st : Sto) : Out T := match ts with
  | [x] => match seqOf x st with
    | some xs => .ok (.tup xs) st
    | none => .no
  | _ => .no
def pList (ts : List T) (st : Sto) : Out T := match ts with
  | [x] => match seqOf x st with
    | some xs => .ok (.lst xs) st
    | none => .no
  | _ => .no
def pListO (ts : List T) (st : Sto) : Out T := match ts with
  | [x] => match seqOf x st with
    | some xs => if T.bels st.length xs = true then .ok (.ref st.length) (st ++ [.lst xs]) else .no
    | none => .no
  | _ => .no
section
variable {X : Cx} {K : PySem.W.Frag}
theorem dp_ints {H : Hp} : ∀ ns : List Int, DpAll K H (ns.map V.int) (ns.map PyData.int)
  | [] => .nil
  | n :: r => .cons (.int n) (dp_ints r)
theorem depth_ints : ∀ ns : List Int, PyData.depthAll (ns.map PyData.int) ≤ 1
  | [] => by decide
  | n :: r => by
    show max (PyData.depth (.int n)) (PyData.depthAll (r.map PyData.int)) ≤ 1
    exact Nat.max_le.mpr ⟨by show PyData.depth (.int n) ≤ 1; simp [PyData.depth], depth_ints r⟩
theorem alike_ints (ns : List Int) : PySem.W.AlikeAll (ns.map PyData.int) := by
  refine ⟨fun x hx y hy => ?_, fun x hx => ?_⟩
  · obtain ⟨a, _, rfl⟩ := List.mem_map.mp hx
    obtain ⟨b, _, rfl⟩ := List.mem_map.mp hy
    rfl
  · obtain ⟨a, _, rfl⟩ := List.mem_map.mp hx
    intro e
    cases e
def rMaxT (K : PySem.W.Frag) : List V → Hp → VK → Prop := fun vs H Q => ∃ (a : Addr) (n : Int) (r : List Int), vs = [V.ref a] ∧ SqT K H a ((n :: r).map V.int) ∧ Q (.int (maxI n r)) H
def rMinT (K : PySem.W.Frag) : List V → Hp → VK → Prop := fun vs H Q => ∃ (a : Addr) (n : Int) (r : List Int), vs = [V.ref a] ∧ SqT K H a ((n :: r).map V.int) ∧ Q (.int (minI n r)) H
theorem reads_int {h : Heap} {v : Value} {i : Int} {bs : List Addr} (r : Reads h v (.int i) bs) : ∃ t, v = .int i t := by
  cases r with
  | int i t => exact ⟨t, rfl⟩
theorem cr_maxT (hc : X.calm = true) (hu : X.A.units + 64 < cLine) : CallR X (.builtin "max") (rMaxT X.K) := by
  intro pins s σ H vs us Q I r h
  obtain ⟨a, n, l, rfl, hs, q⟩ := h
  obtain ⟨its, rv, hl, _⟩ := I.tuple hs
  rw [Vals.ref1 r]
  obtain ⟨as, hr⟩ := Dp.readsAll I _ _ _ (dp_ints (n :: l)) rv
  refine PySem.W.max_tuple_data (x := .int n) (xs := l.map PyData.int) (I.ok.hd hc) (show s.heap.IsTuple a its.toArray from hl) (by simpa using hr) (alike_ints (n :: l)) (by have := depth_ints (n :: l); show X.A.units + 1 + PyData.depthAll ((n :: l).map PyData.int) < _; omega) fun i v h' tk bs e1 e2 e3 => ?_
  rw [PySem.W.maxD_ints] at e2
  obtain ⟨t, rfl⟩ := reads_int e2
  exact ⟨.int _, H, I.kept (t' := tk) e3, ⟨t, rfl⟩, q⟩
theorem cr_minT (hc : X.calm = true) (hu : X.A.units + 64 < cLine) : CallR X (.builtin "min") (rMinT X.K) := by
  intro pins s σ H vs us Q I r h
  obtain ⟨a, n, l, rfl, hs, q⟩ := h
  obtain ⟨its, rv, hl, _⟩ := I.tuple hs
  rw [Vals.ref1 r]
  obtain ⟨as, hr⟩ := Dp.readsAll I _ _ _ (dp_ints (n :: l)) rv
  refine PySem.W.min_tuple_data (x := .int n) (xs := l.map PyData.int) (I.ok.hd hc) (show s.heap.IsTuple a its.toArray from hl) (by simpa using hr) (alike_ints (n :: l)) (by have := depth_ints (n :: l); show X.A.units + 1 + PyData.depthAll ((n :: l).map PyData.int) < _; omega) fun i v h' tk bs e1 e2 e3 => ?_
  rw [PySem.W.minD_ints] at e2
  obtain ⟨t, rfl⟩ := reads_int e2
  exact ⟨.int _, H, I.kept (t' := tk) e3, ⟨t, rfl⟩, q⟩
abbrev rMaxD (K : PySem.W.Frag) : List V → Hp → VK → Prop := fun vs H Q => (∃ i j, vs = [.int i, .int j] ∧ Q (.int (if j > i then j else i)) H) ∨ rMax K vs H Q ∨ rMaxT K vs H Q
abbrev rMinD (K : PySem.W.Frag) : List V → Hp → VK → Prop := fun vs H Q => (∃ i j, vs = [.int i, .int j] ∧ Q (.int (if j < i then j else i)) H) ∨ rMin K vs H Q ∨ rMinT K vs H Q
theorem call_maxD (hc : X.calm = true) (hu : X.A.units + 64 < cLine) : CallR X (.builtin "max") (rMaxD X.K) := (call_max2 hc).or ((cr_max hc).or (cr_maxT hc hu))
theorem call_minD (hc : X.calm = true) (hu : X.A.units + 64 < cLine) : CallR X (.builtin "min") (rMinD X.K) := (call_min2 hc).or ((cr_min hc).or (cr_minT hc hu))
theorem d_max : CallD K (rMaxD K) pMax := fun W H st ts vs Q hS r h => by
  unfold pMax at h
  split at h
  · next i j =>
    obtain ⟨v, u, e1, e2, e3⟩ := reps2 r
    have e2 : v = .int i := e2
    have e3 : u = .int j := e3
    rw [e2, e3] at e1
    refine .inl ⟨i, j, e1, sc1 hS h ?_⟩
    show V.int (if j > i then j else i) = V.int (max i j)
    congr 1
    split <;> omega
  · next x =>
    split at h
    · next n l q =>
      obtain ⟨v, e1, e2⟩ := reps1 r
      cases q1 : seqOf x st with
      | none => rw [q1] at q; cases q
      | some xs =>
        rw [q1] at q
        have q : intL xs = some (n :: l) := q
        obtain ⟨a, ws, f1, f2, f3, f4⟩ := seq_rep hS e2 q1
        rw [intL_eq q] at f4
        have f5 := reps_ints f4
        rw [f5] at f2
        rw [f1] at e1
        have sp := maxI_spec l n
        rcases f2 with f2 | f2
        · refine .inr (.inl ⟨a, n :: l, e1, f2, by simp, fun m h1 h2 => ?_⟩)
          have e : m = maxI n l := Int.le_antisymm (sp.2 m h1) (h2 _ sp.1)
          rw [e]
          exact sc1 hS h rfl
        · exact .inr (.inr ⟨a, n, l, e1, f2, sc1 hS h rfl⟩)
    · exact h.elim
  · exact h.elim
theorem d_min : CallD K (rMinD K) pMin := fun W H st ts vs Q hS r h => by
  unfold pMin at h
  split at h
  · next i j =>
    obtain ⟨v, u, e1, e2, e3⟩ := reps2 r
    have e2 : v = .int i := e2
    have e3 : u = .int j := e3
    rw [e2, e3] at e1
    refine .inl ⟨i, j, e1, sc1 hS h ?_⟩
    show V.int (if j < i then j else i) = V.int (min i j)
    congr 1
    split <;> omega
  · next x =>
    split at h
    · next n l q =>
      obtain ⟨v, e1, e2⟩ := reps1 r
      cases q1 : seqOf x st with
      | none => rw [q1] at q; cases q
      | some xs =>
        rw [q1] at q
        have q : intL xs = some (n :: l) := q
        obtain ⟨a, ws, f1, f2, f3, f4⟩ := seq_rep hS e2 q1
        rw [intL_eq q] at f4
        have f5 := reps_ints f4
        rw [f5] at f2
        rw [f1] at e1
        have sp := minI_spec l n
        rcases f2 with f2 | f2
        · refine .inr (.inl ⟨a, n :: l, e1, f2, by simp, fun m h1 h2 => ?_⟩)
          have e : m = minI n l := Int.le_antisymm (h2 _ sp.1) (sp.2 m h1)
          rw [e]
          exact sc1 hS h rfl
        · exact .inr (.inr ⟨a, n, l, e1, f2, sc1 hS h rfl⟩)
    · exact h.elim
  · exact h.elim
theorem lst_ints {W : Wd} {st : Sto} {H : Hp} {x : T} {v : V} {ns : List Int} (hS : StoOk K W st H) (r : Rep K W x v) (h : (lstOf x st).bind intL = some ns) : ∃ a, v = .ref a ∧ SqL K H a (ns.map V.int) := by
  cases q1 : lstOf x st with
  | none => rw [q1] at h; cases h
  | some xs =>
    rw [q1] at h
    have h : intL xs = some ns := h
    obtain ⟨a, ws, f1, f2, f3, f4⟩ := lst_rep hS r q1
    rw [intL_eq h] at f4
    rw [reps_ints f4] at f2
    exact ⟨a, f1, f2⟩
theorem lst_bools {W : Wd} {st : Sto} {H : Hp} {x : T} {v : V} {ns : List Bool} (hS : StoOk K W st H) (r : Rep K W x v) (h : (lstOf x st).bind boolL = some ns) : ∃ a, v = .ref a ∧ SqL K H a (ns.map V.bl) := by
  cases q1 : lstOf x st with
  | none => rw [q1] at h; cases h
  | some xs =>
    rw [q1] at h
    have h : boolL xs = some ns := h
    obtain ⟨a, ws, f1, f2, f3, f4⟩ := lst_rep hS r q1
    rw [boolL_eq h] at f4
    rw [reps_bools f4] at f2
    exact ⟨a, f1, f2⟩
theorem d_sum : CallD K (rSum K) pSum := fun W H st ts vs Q hS r h => by
  unfold pSum at h
  split at h
  · next x =>
    split at h
    · next ns q =>
      obtain ⟨v, e1, e2⟩ := reps1 r
      obtain ⟨a, f1, f2⟩ := lst_ints hS e2 q
      rw [f1] at e1
      exact ⟨a, ns, e1, f2, sc1 hS h rfl⟩
    · exact h.elim
  · exact h.elim
theorem d_all : CallD K (rAll K) pAll := fun W H st ts vs Q hS r h => by
  unfold pAll at h
  split at h
  · next x =>
    split at h
    · next ns q =>
      obtain ⟨v, e1, e2⟩ := reps1 r
      obtain ⟨a, f1, f2⟩ := lst_bools hS e2 q
      rw [f1] at e1
      exact ⟨a, ns, e1, f2, sc1 hS h rfl⟩
    · exact h.elim
  · exact h.elim
theorem d_any : CallD K (rAny K) pAny := fun W H st ts vs Q hS r h => by
  unfold pAny at h
  split at h
  · next x =>
    split at h
    · next ns q =>
      obtain ⟨v, e1, e2⟩ := reps1 r
      obtain ⟨a, f1, f2⟩ := lst_bools hS e2 q
      rw [f1] at e1
      exact ⟨a, ns, e1, f2, sc1 hS h rfl⟩
    · exact h.elim
  · exact h.elim
theorem d_abs : CallD K (fun xs H Q => ∃ i, xs = [.int i] ∧ Q (.int (if i < 0 then -i else i)) H) pAbs := fun W H st ts vs Q hS r h => by
  unfold pAbs at h
  split at h
  · next i =>
    obtain ⟨v, e1, e2⟩ := reps1 r
    have e2 : v = .int i := e2
    rw [e2] at e1
    exact ⟨i, e1, sc1 hS h rfl⟩
  · exact h.elim
theorem d_int : CallD K (fun xs H Q => (∃ i, xs = [.int i] ∧ Q (.int i) H) ∨ ∃ k, xs = [.bl k] ∧ Q (.int (if k then 1 else 0)) H) pInt := fun W H st ts vs Q hS r h => by
  unfold pInt at h
  split at h
  · next i =>
    obtain ⟨v, e1, e2⟩ := reps1 r
    have e2 : v = .int i := e2
    rw [e2] at e1
    exact .inl ⟨i, e1, sc1 hS h rfl⟩
  · next i =>
    obtain ⟨v, e1, e2⟩ := reps1 r
    have e2 : v = .bl i := e2
    rw [e2] at e1
    exact .inr ⟨i, e1, sc1 hS h rfl⟩
  · exact h.elim
abbrev rTuple (K : PySem.W.Frag) : List V → Hp → VK → Prop := fun xs H Q => ∃ p ys, xs = [.ref p] ∧ ((SqL K H p ys ∧ ∀ l, H l = none → Q (.ref l) (upd H l (.tup ys))) ∨ (SqT K H p ys ∧ Q (.ref p) H))
abbrev rListOf (K : PySem.W.Frag) : List V → Hp → VK → Prop := fun xs H Q => ∃ p ys, xs = [.ref p] ∧ (SqL K H p ys ∨ SqT K H p ys) ∧ ∀ l, H l = none → Q (.ref l) (upd H l (.lst ys))
theorem d_tuple : CallD K (rTuple K) pTuple := fun W H st ts vs Q hS r h => by
  unfold pTuple at h
  split at h
  · next x =>
    split at h
    · next xs q =>
      obtain ⟨v, e1, e2⟩ := reps1 r
      cases x with
      | tup ys =>
        obtain ⟨a, ws, f1, f2, f3, f4⟩ := e2
        have q : some ys = some xs := q
        cases q
        rw [f1] at e1
        exact ⟨a, ws, e1, .inr ⟨sqT_mono hS.frz f2, sc1 hS h ⟨a, ws, rfl, f2, f3, f4⟩⟩⟩
      | lst ys =>
        obtain ⟨a, ws, f1, f2, f3, f4⟩ := lst_rep hS e2 (show lstOf _ st = some xs from q)
        rw [f1] at e1
        refine ⟨a, ws, e1, .inl ⟨f2, fun p np => ?_⟩⟩
        obtain ⟨s2, g2⟩ := hS.add (o := .tup ws) np
        exact h _ _ _ g2 s2 ⟨p, ws, rfl, .inl (.inl upd_same), f3, Reps.mono g2.le _ _ f4⟩
      | ref n =>
        obtain ⟨a, ws, f1, f2, f3, f4⟩ := lst_rep hS e2 (show lstOf _ st = some xs from q)
        rw [f1] at e1
        refine ⟨a, ws, e1, .inl ⟨f2, fun p np => ?_⟩⟩
        obtain ⟨s2, g2⟩ := hS.add (o := .tup ws) np
        exact h _ _ _ g2 s2 ⟨p, ws, rfl, .inl (.inl upd_same), f3, Reps.mono g2.le _ _ f4⟩
      | _ => cases q
    · exact h.elim
  · exact h.elim
theorem d_list : CallD K (rListOf K) pList := fun W H st ts vs Q hS r h => by
  unfold pList at h
  split at h
  · next x =>
    split at h
    · next xs q =>
      obtain ⟨v, e1, e2⟩ := reps1 r
      obtain ⟨a, ws, f1, f2, f3, f4⟩ := seq_rep hS e2 q
      rw [f1] at e1
      refine ⟨a, ws, e1, f2, fun p np => ?_⟩
      obtain ⟨s2, g2⟩ := hS.add (o := .lst ws) np
      exact h _ _ _ g2 s2 ⟨p, ws, rfl, .inl (.inl upd_same), f3, Reps.mono g2.le _ _ f4⟩
    · exact h.elim
  · exact h.elim
theorem push_rep {W : Wd} {st : Sto} {H : Hp} (hS : StoOk K W st H) {p : Addr} : Rep K (W.push p) (.ref st.length) (.ref p) := by
  refine ⟨p, rfl, ?_⟩
  show (W.as ++ [p])[st.length]? = some p
  rw [List.getElem?_append_right (by rw [hS.len]; exact Nat.le_refl _), hS.len]
  simp
theorem d_listO : CallD K (rListOf K) pListO := fun W H st ts vs Q hS r h => by
  unfold pListO at h
  split at h
  · next x =>
    split at h
    · next xs q =>
      split at h
      · next hb =>
        obtain ⟨v, e1, e2⟩ := reps1 r
        obtain ⟨a, ws, f1, f2, f3, f4⟩ := seq_rep hS e2 q
        rw [f1] at e1
        refine ⟨a, ws, e1, f2, fun p np => ?_⟩
        obtain ⟨s2, g2⟩ := hS.push np f3 f4 hb
        exact h _ _ _ g2 s2 (push_rep hS)
      · exact h.elim
    · exact h.elim
  · exact h.elim
end

/-! ### methods of lists -/
abbrev Md := T → List T → Sto → Out T
def MetD (K : PySem.W.Frag) (r : V → List V → Hp → VK → Prop) (op : Md) : Prop := ∀ W H st x ts vx vs Q, StoOk K W st H → Rep K W x vx → Reps K W ts vs → AfterG K W H (Rep K) (op x ts st) Q → r vx vs H Q
def eMeth (op : Md) (f : Sx) (fs : Sa) : Sx := fun env st => (f env st).bind fun x st => if (lstOf x st).isSome = true then (fs env st).bind fun ts st => op x ts st else .no
def mAppend : Md := fun x ts st => match x, ts with
  | .ref n, [y] => match st[n]? with
    | some (.lst xs) => if xs.length < sizeLine ∧ T.bel n y = true then .ok .non (st.set n (.lst (xs ++ [y]))) else .no
    | _ => .no
  | _, _ => .no
def mIndex : Md := fun x ts st => match ts with
  | [.int i] => match (lstOf x st).bind intL with
    | some ns => match ns.findIdx? fun n => n == i with
      | some j => .ok (.int (j : Nat)) st
      | none => .no
    | none => .no
  | _ => .no
def sPut (fe fo fi : Sx) : Ss := fun env st => (fe env st).bind fun v st => (fo env st).bind fun o st => (fi env st).bind fun i st => match o, i with
  | .ref n, .int k => match st[n]? with
    | some (.lst xs) => match ixN xs.length k with
      | some j => if T.bel n v = true then .ok (.nx env) (st.set n (.lst (xs.set j v))) else .no
      | none => .no
    | _ => .no
  | _, _ => .no
section
variable {X : Cx} {K : PySem.W.Frag}
theorem ty_list {W : Wd} {st : Sto} {H : Hp} {x : T} {v : V} (hS : StoOk K W st H) (r : Rep K W x v) (h : (lstOf x st).isSome = true) : tyV K "list" v H := by
  obtain ⟨xs, q⟩ := Option.isSome_iff_exists.mp h
  obtain ⟨a, vs, e1, e2, _⟩ := lst_rep hS r q
  rw [e1]
  exact .inl ⟨rfl, vs, e2⟩
theorem de_meth {o e : Expr} {es : List Expr} {name : Str} {apos cpos : Pos} {id : String} {r : V → List V → Hp → VK → Prop} {op : Md} {f : Sx} {fs : Sa} (slot : Slot "list" name id) (hty : typeOf (.builtin id) = pure (.type "method_descriptor")) (hm : MtR X id r) (hd : MetD X.K r op) (ho : PE X o (tD X.K f)) (ha : PA X (e :: es) (tDA X.K fs))
    (hbase : attributeBase o name X.env (eval o X.env) = eval o X.env := by rfl)
    (hfew : ((backTo cpos (starEach (e :: es) X.env)).all (fun x => !x.1) && (backToKw cpos (keywordEach [] X.env)).all (fun x => x.1.isSome)
      && decide ((e :: es).length + ([] : List Keyword).length + (if ([] : List Keyword).isEmpty then 0 else 1) < 30)) = true := by rfl)
    (hline : (apos.endLine == cpos.line) = true := by rfl) (hs : starEach (e :: es) X.env = (false, eval e X.env) :: starEach es X.env := by rfl) (hplain : (backTo cpos (starEach es X.env)).any (·.1) = false := by rfl) :
    PE X (.Call (.Attribute o name apos) (e :: es) [] cpos) (tD X.K (eMeth op f fs)) := by
  refine weakE (pe_bm PySem.F.plainAttrs_list slot hty hm ho ha hbase hfew hline hs hplain) fun σ H Q ⟨W, env, st, hE, hS, hA⟩ => ?_
  refine part hE hS hA fun W1 H1 x v st1 hE1 hS1 r1 q1 => ?_
  split at q1
  · next hl =>
    refine ⟨ty_list hS1 r1 hl, ⟨W1, env, st1, hE1, hS1, q1.bind fun W2 H2 ts vs st2 g2 hS2 r2 q2 => ?_⟩⟩
    exact hd W2 H2 st2 x ts v vs Q hS2 (Rep.mono g2.le _ _ r1) r2 q2
  · exact q1.elim
theorem d_append : MetD K rAppend mAppend := fun W H st x ts vx vs Q hS rx rs h => by
  unfold mAppend at h
  split at h
  · next n y =>
    obtain ⟨v, e1, e2⟩ := reps1 rs
    obtain ⟨a, f1, f2⟩ := rx
    split at h
    · next xs q =>
      split at h
      · next hz =>
        obtain ⟨_, ws, g1, g2, g3⟩ := hS.ob n a _ f2 q
        have hl : ws.length < sizeLine := by rw [← Reps.length g3]; exact hz.1
        have hb : T.bels n (xs ++ [y]) = true := by
          have := hS.reg n _ q
          rw [bels_app, show T.bels n xs = true from this, bels_cons, hz.2]
          rfl
        have hr := Reps.append g3 (Reps.one e2)
        obtain ⟨s2, gr⟩ := hS.put f2 q (vs := ws ++ [v]) (by rw [List.length_append]; exact hl) hr hb
        exact ⟨a, ws, v, f1, e1, g1, hl, h _ _ _ gr s2 rfl⟩
      · exact h.elim
    · exact h.elim
  · exact h.elim
theorem d_index : MetD K (rIndex K) mIndex := fun W H st x ts vx vs Q hS rx rs h => by
  unfold mIndex at h
  split at h
  · next i =>
    split at h
    · next ns q =>
      split at h
      · next j hj =>
        obtain ⟨v, e1, e2⟩ := reps1 rs
        have e2 : v = .int i := e2
        rw [e2] at e1
        obtain ⟨a, f1, f2⟩ := lst_ints hS rx q
        obtain ⟨h1, h2, h3⟩ := List.findIdx?_eq_some_iff_getElem.mp hj
        refine ⟨a, ns.map V.int, .int i, j, .int ns[j], f1, e1, f2, rfl, ?_, ?_, h2, fun m z' hm hz => ?_, sc1 hS h rfl⟩
        · rw [List.all_eq_true]
          intro y hy
          obtain ⟨k, _, rfl⟩ := List.mem_map.mp hy
          rfl
        · rw [List.getElem?_map, List.getElem?_eq_getElem h1]
          rfl
        · rw [List.getElem?_map, List.getElem?_eq_getElem (by omega)] at hz
          cases hz
          have := h3 m hm
          show (ns[m] == i) = false
          simpa using this
      · exact h.elim
    · exact h.elim
  · exact h.elim
theorem ds_put {e o i : Expr} {fe fo fi : Sx} {p2 pos : Pos} (he : PE X e (tD X.K fe)) (ho : PE X o (tD X.K fo)) (hi : PE X i (tD X.K fi))
    (ha : ∀ v, assign (.Subscript o i p2) X.env v = (do
      let ov ← holding [v] (eval o X.env)
      let iv ← holding [v, ov] (eval i X.env)
      standAt p2
      holding [v, ov, iv] (setItem ov iv v)
      release [v, ov, iv] []) := by intro _; rfl) (hs : swapsWithSole [.Subscript o i p2] e pos.line X.env = pure false := by rfl) (hw : swappedStores [.Subscript o i p2] e X.env = pure none := by rfl)
    (h1 : (assignEach [.Subscript o i p2] X.env).map (·.2) = [assign (.Subscript o i p2) X.env] := by rfl) : PS X (.Assign [.Subscript o i p2] e pos) (tDS X.K (sPut fe fo fi)) := by
  refine weakS (ps_asg he (pg_sub ho hi set_list ha) hs hw h1) fun D σ H ⟨W, env, st, hE, hS, hA⟩ => ?_
  refine partS hE hS hA fun W1 H1 x v st1 hE1 hS1 r1 q1 => ?_
  refine ⟨W1, env, st1, hE1, hS1, AfterS.bind q1 fun W2 H2 o' ov st2 g2 hS2 r2 q2 => ?_⟩
  refine ⟨W2, env, st2, hE1.mono g2.le, hS2, AfterS.bind q2 fun W3 H3 i' iv st3 g3 hS3 r3 q3 => ?_⟩
  have r1' := Rep.mono g3.le _ _ (Rep.mono g2.le _ _ r1)
  have r2' := Rep.mono g3.le _ _ r2
  split at q3
  · next n k =>
    obtain ⟨a, f1, f2⟩ := r2'
    have r3 : iv = .int k := r3
    split at q3
    · next xs q =>
      split at q3
      · next j hj =>
        split at q3
        · next hb =>
          obtain ⟨_, ws, g1, gz, gr⟩ := hS3.ob n a _ f2 q
          have hb2 : T.bels n (xs.set j x) = true := by
            have hx : T.bels n xs = true := hS3.reg n _ q
            rw [bels_iff] at hx ⊢
            intro y hy
            rcases List.mem_or_eq_of_mem_set hy with hy | hy
            · exact hx y hy
            · rw [hy]
              exact hb
          obtain ⟨s2, gg⟩ := hS3.put f2 q (vs := ws.set j v) (by simpa using gz) (Reps.set j r1' gr) hb2
          rw [Reps.length gr] at hj
          exact ⟨a, ws, k, j, f1, r3, g1, hj, q3 _ _ _ gg s2 (((hE1.mono g2.le).mono g3.le).mono gg.le)⟩
        · exact q3.elim
      · exact q3.elim
    · exact q3.elim
  · exact q3.elim
end
end Dn

set_option Elab.async false
set_option linter.all false
set_option maxRecDepth 100000
set_option maxHeartbeats 4000000
/-! Dn, part F: calls by keywords, constants of the module, the law's own end. -/
namespace Dn
open PySem PySem.Spec PyProof.Rows L2

/-- the arguments by position (n of them), then by keyword (k of them), put into the parameters' order -/
def pick {α : Type} (idx : List Nat) (l : List α) : List α := idx.filterMap fun i => l[i]?
def gK {α : Type} (n k : Nat) (idx : List Nat) (us ws : List α) : List α := if us.length = n ∧ ws.length = k then pick idx (us ++ ws) else []
theorem gK_len {α : Type} {n k : Nat} {idx : List Nat} {us ws : List α} {m : Nat} (h : (gK n k idx us ws).length = m) (hm : 0 < m) : us.length = n ∧ ws.length = k := by
  unfold gK at h
  split at h
  · next q => exact q
  · simp at h
    omega
theorem vals_pick {vs : List V} {us : List Value} (h : Vals vs us) : ∀ idx : List Nat, Vals (pick idx vs) (pick idx us)
  | [] => .nil
  | i :: r => by
    unfold pick
    have ih := vals_pick h r
    unfold pick at ih
    cases q : vs[i]? with
    | none =>
      have q2 : us[i]? = none := Vals.none_of h q
      rw [List.filterMap_cons_none q, List.filterMap_cons_none q2]
      exact ih
    | some v =>
      obtain ⟨u, h1, h2⟩ := Vals.get h q
      rw [List.filterMap_cons_some q, List.filterMap_cons_some h1]
      exact .cons h2 ih
theorem reps_pick {K : PySem.W.Frag} {W : Wd} {ts : List T} {vs : List V} (h : Reps K W ts vs) : ∀ idx : List Nat, Reps K W (pick idx ts) (pick idx vs)
  | [] => rfl
  | i :: r => by
    unfold pick
    have ih := reps_pick h r
    unfold pick at ih
    cases q : ts[i]? with
    | none =>
      have q2 : vs[i]? = none := List.getElem?_eq_none (by rw [← Reps.length h]; exact List.getElem?_eq_none_iff.mp q)
      rw [List.filterMap_cons_none q, List.filterMap_cons_none q2]
      exact ih
    | some v =>
      obtain ⟨u, h1, h2⟩ := Reps.get h q
      rw [List.filterMap_cons_some q, List.filterMap_cons_some h1]
      exact ⟨u, _, rfl, h2, ih⟩
theorem vals_gK {n k : Nat} {idx : List Nat} {vs zs : List V} {us ws : List Value} (h : Vals vs us) (h2 : Vals zs ws) : Vals (gK n k idx vs zs) (gK n k idx us ws) := by
  unfold gK
  rw [h.length, h2.length]
  split
  · exact vals_pick (h.append h2) idx
  · exact .nil
theorem reps_gK {K : PySem.W.Frag} {W : Wd} {n k : Nat} {idx : List Nat} {ts zs : List T} {us ws : List V} (h : Reps K W ts us) (h2 : Reps K W zs ws) : Reps K W (gK n k idx ts zs) (gK n k idx us ws) := by
  unfold gK
  rw [Reps.length h, Reps.length h2]
  split
  · exact reps_pick (Reps.append h h2) idx
  · exact rfl
structure HasK (P : Program) (w : World) (K : PySem.W.Frag) (mg : Str → Option Value) (base : Heap) (x : Str) (k : Nat) (ps ks : List Str) (n : Nat) (idx : List Nat) (m : Fn) : Prop where
  ex : ∃ f fd, FnOk P w K mg base CX0 k f fd ps (SpD K m) ∧ mg x = some (.ref f) ∧ PySem.W.keepIn K (.ref f) = true ∧ KBinds K fd ps ks (gK n ks.length idx) (gK n ks.length idx)
section
variable {P : Program} {w : World} {K : PySem.W.Frag} {mg : Str → Option Value} {base : Heap}
theorem hasD {x qual : Str} {st : Stmt} {f : Addr} {fd : FuncData} {ps : List Str} {k : Nat} {m : Fn} (F : Fun K x qual st f fd) {y : Str} (hm : mg y = some (.ref f)) (hb : Binds K fd ps []) (h : FnOk P w K mg base CX0 k f fd ps (SpD K m)) : Has P w K mg base y k ps m := ⟨⟨f, fd, h, hm, F.kp, hb⟩⟩
theorem hasK {x qual : Str} {st : Stmt} {f : Addr} {fd : FuncData} {ps ks : List Str} {k n : Nat} {idx : List Nat} {m : Fn} (F : Fun K x qual st f fd) {y : Str} (hm : mg y = some (.ref f)) (hp : 0 < ps.length)
    (hb : ∀ (kV doc pm : Value) (an : Option Addr) (cdv ct : Value) (us ws : List Value), us.length = n → ws.length = ks.length → bindArgs (PySem.W.fnOf x qual (defArgs st) (defBody st) (defScope st) .none kV doc pm an cdv ct) ⟨us, ks.zip ws⟩ = pure (ps.zip (gK n ks.length idx us ws)))
    (h : FnOk P w K mg base CX0 k f fd ps (SpD K m)) : HasK P w K mg base y k ps ks n idx m := by
  refine ⟨⟨f, fd, h, hm, F.kp, ⟨fun s us ws _ hl => ?_, fun r1 r2 => vals_gK r1 r2⟩⟩⟩
  obtain ⟨oc, od, kV, doc, pm, an, cdv, ct, osl, rfl, lk, hcd⟩ := F.ex
  obtain ⟨h1, h2⟩ := gK_len hl hp
  exact .of_eq (hb kV doc pm an cdv ct us ws h1 h2)
end
def eCallK (m : Fn) (n k : Nat) (idx : List Nat) (f g : Sa) : Sx := fun env st => (f env st).bind fun xs st => (g env st).bind fun ys st => m (gK n k idx xs ys) st
section
variable {X : Cx}
structure PKD (X : Cx) (kws : List Keyword) (f : Sa) : Prop where
  pk : PK X kws (tDA X.K f)
theorem dk_nil : PK X [] (tDA X.K aNil) := ⟨fun pos pins s σ H Q I ⟨W, env, st, hE, hS, hA⟩ => (pk_nil (X := X)).run pos pins s σ H Q I (ok_now hS (show Reps X.K W [] [] from rfl) hA)⟩
theorem dk_cons {e : Expr} {kws : List Keyword} {nm : Option Str} {kpos : Pos} {f : Sx} {fs : Sa} (ha : PE X e (tD X.K f)) (hr : PK X kws (tDA X.K fs)) : PK X (⟨nm, e, kpos⟩ :: kws) (tDA X.K (aCons f fs)) := by
  refine ⟨fun pos pins s σ H Q I h => (pk_cons ha hr).run pos pins s σ H Q I ?_⟩
  obtain ⟨W, env, st, hE, hS, hA⟩ := h
  refine part hE hS hA fun W1 H1 x v st1 hE1 hS1 r1 q1 => ?_
  refine ⟨W1, env, st1, hE1, hS1, q1.bind fun W2 H2 xs vs st2 g2 hS2 r2 q2 => ?_⟩
  exact ok_now hS2 (show Reps X.K W2 (x :: xs) (v :: vs) from ⟨v, vs, rfl, Rep.mono g2.le _ _ r1, r2⟩) q2
theorem de_callK {k n kl : Nat} {ps ks : List Str} {idx : List Nat} {m : Fn} {a : Expr} {es : List Expr} {kws : List Keyword} {fs gs : Sa} {p pos : Pos} {x : Str} (G : HasK X.prog X.w X.K X.mg X.base x k ps ks n idx m) (hr : Room k X.A) (hg : Gl X x) (ha : PA X (a :: es) (tDA X.K fs)) (hkw : PK X kws (tDA X.K gs))
    (hall : (backToKw pos (keywordEach kws X.env)).all (·.1.isSome) = true := by rfl) (hks : (backToKw pos (keywordEach kws X.env)).filterMap (·.1) = ks := by rfl)
    (hdb : (x == ("__debug__" : Str)) = false := by decide) (he : starEach (a :: es) X.env = (false, eval a X.env) :: starEach es X.env := by rfl)
    (hpl : ((backTo pos (starEach (a :: es) X.env)).any (·.1) || (backToKw pos (keywordEach kws X.env)).any (·.1.isNone)) = false := by rfl) (hl : ks.length = kl := by rfl) : PE X (.Call (.Name x p) (a :: es) kws pos) (tD X.K (eCallK m n kl idx fs gs)) := by
  subst hl
  obtain ⟨f, fd, F, h1, h2, h3⟩ := G.ex
  refine weakE (pe_callK F hr hg h1 h2 h3 pass0 ha hkw hall hks hdb he hpl) fun σ H Q ⟨W, env, st, hE, hS, hA⟩ => ?_
  refine part hE hS hA fun W1 H1 xs vs st1 hE1 hS1 r1 q1 => ?_
  refine ⟨W1, env, st1, hE1, hS1, q1.bind fun W2 H2 ys zs st2 g2 hS2 r2 q2 => ?_⟩
  exact ⟨W2, _, st2, reps_gK (Reps.mono g2.le _ _ r1) r2, hS2, q2⟩
theorem de_callK0 {k kl : Nat} {ps ks : List Str} {idx : List Nat} {m : Fn} {kws : List Keyword} {gs : Sa} {p pos : Pos} {x : Str} (G : HasK X.prog X.w X.K X.mg X.base x k ps ks 0 idx m) (hr : Room k X.A) (hg : Gl X x) (hkw : PK X kws (tDA X.K gs))
    (hall : (backToKw pos (keywordEach kws X.env)).all (·.1.isSome) = true := by rfl) (hks : (backToKw pos (keywordEach kws X.env)).filterMap (·.1) = ks := by rfl)
    (hdb : (x == ("__debug__" : Str)) = false := by decide) (hpl : (backToKw pos (keywordEach kws X.env)).any (·.1.isNone) = false := by rfl) (hl : ks.length = kl := by rfl) : PE X (.Call (.Name x p) [] kws pos) (tD X.K (eCallK m 0 kl idx aNil gs)) := by
  subst hl
  obtain ⟨f, fd, F, h1, h2, h3⟩ := G.ex
  refine ⟨fun pins s σ H Q I ⟨W, env, st, hE, hS, hA⟩ => ?_⟩
  refine wpAny_Call_Name_kw (ld_glob I hg h1 ?_ hdb)
  refine PySem.W.callWith_KW0 (h₀ := X.base) I.ok.mod.kin h2 hall (thn (hkw.run pos pins s σ H _ I ⟨W, env, st, hE, hS, AfterG.bind (f := fun ys st => m (gK 0 ks.length idx [] ys) st) hA fun W2 H2 ys zs st2 g2 hS2 r2 q2 => (show SpD X.K m (gK 0 ks.length idx [] zs) H2 Q E0 from ⟨W2, _, st2, reps_gK (show Reps X.K W2 [] [] from rfl) r2, hS2, q2⟩)⟩) fun ws s2 ⟨zs, H2, I2, rz, q2⟩ => ⟨I2.kIn, ?_⟩) hpl
  rw [hks]
  exact run_fnk F hr h3 pass0 I2 .nil rz q2
/-- a module's constant number -/
theorem de_gint {x : Str} {i : Int} {pos : Pos} (hg : Gl X x) (hm : ∃ t, X.mg x = some (.int i t)) (hd : (x == ("__debug__" : Str)) = false := by decide) : PE X (.Name x pos) (tD X.K (eC (.int i))) := by
  obtain ⟨t, hm⟩ := hm
  exact de_c (pe_glob hg hm (v := .int i) ⟨t, rfl⟩ hd) fun _ => rfl
end
theorem pow_lit {i j n : Int} (h' : 0 ≤ j ∧ (i.natAbs.log2 + 1) * j.toNat ≤ 2 ^ 27) (h2 : i ^ j.toNat = n) : eBin pPow (eC (.int i)) (eC (.int j)) = eC (.int n) := by
  have h := powOk_iff.mpr h'
  funext env st
  show (if powOk i j = true then Out.ok (T.int (i ^ j.toNat)) st else .no) = Out.ok (.int n) st
  rw [if_pos h, h2]
/-- a list that is handed on for good: from here on none changes it -/
def frz (x : T) (st : Sto) : Out T := match x with
  | .ref n => match st[n]? with
    | some (.lst xs) => .ok (.lst xs) (st.set n (.fz xs))
    | some (.fz xs) => .ok (.lst xs) st
    | none => .no
  | x => .ok x st
def eFrz (f : Sx) : Sx := fun env st => (f env st).bind frz
theorem de_frz {X : Cx} {e : Expr} {f : Sx} (h : PE X e (tD X.K f)) : PE X e (tD X.K (eFrz f)) := by
  refine weakE h fun σ H Q ⟨W, env, st, hE, hS, hA⟩ => ?_
  refine part hE hS hA fun W1 H1 x v st1 hE1 hS1 r1 q1 => ?_
  cases x with
  | ref n =>
    obtain ⟨a, e1, e2⟩ := r1
    cases q : st1[n]? with
    | none =>
      simp only [frz, q] at q1
      exact q1.elim
    | some o =>
      cases o with
      | lst xs =>
        simp only [frz, q] at q1
        obtain ⟨vs, hH, hz, r, s2, g2⟩ := hS1.freeze e2 q
        exact q1 _ _ _ g2 s2 ⟨a, vs, e1, .inl (.inl upd_same), hz, Reps.mono g2.le _ _ r⟩
      | fz xs =>
        simp only [frz, q] at q1
        obtain ⟨vs, hF, hz, r⟩ := hS1.ob _ _ _ e2 q
        exact ok_now hS1 ⟨a, vs, e1, .inl (.inl hF), hz, r⟩ q1
  | _ => exact ok_now hS1 r1 q1
/-- a law's promise -/
def spLaw (K : PySem.W.Frag) : Sp := fun vs H Q _ => ∃ (a : Addr) (ns : List Int), vs = [.ref a] ∧ SqL K H a (ns.map V.int) ∧ ns.length ≤ 63 ∧ (∀ n ∈ ns, Builtin.Int.intBits n ≤ 1048576) ∧ ∀ H', Q (.bl true) H'
theorem law_imp {K : PySem.W.Frag} {m : Fn} (h : ∀ ns : List Int, ns.length ≤ 63 → (∀ n ∈ ns, Builtin.Int.intBits n ≤ 1048576) → ∃ st', m [.lst (ns.map T.int)] [] = .ok (.bl true) st') (vs : List V) (H : Hp) (Q : VK) (E : XK) (q : spLaw K vs H Q E) : SpD K m vs H Q E := by
  obtain ⟨a, ns, e1, e2, e3, e4, q⟩ := q
  obtain ⟨st', e⟩ := h ns e3 e4
  refine ⟨⟨[], H⟩, [.lst (ns.map T.int)], [], ⟨.ref a, [], e1, ⟨a, ns.map V.int, rfl, e2, ?_, Reps.of_map (f := T.int) (g := V.int) (fun _ => rfl) ns⟩, rfl⟩, ⟨Same.refl _, rfl, List.nodup_nil, fun n a o h _ => by simp at h, fun n o h => by simp at h⟩, ?_⟩
  · rw [List.length_map, sizeLine_eq]
    omega
  · rw [e]
    intro W' H' v _ _ r
    have r : v = .bl true := r
    rw [r]
    exact q H'
end Dn

set_option Elab.async false
set_option linter.all false
set_option maxRecDepth 100000
set_option maxHeartbeats 4000000
/-! Dn, part M: reckoning with meanings. -/
namespace Dn
open PySem PySem.Spec PyProof.Rows L2

/-- it ends well, in what Q wants -/
def Ok {α : Type} (o : Out α) (Q : α → Sto → Prop) : Prop := match o with
  | .ok a st => Q a st
  | _ => False
@[simp] theorem ok_ok {α : Type} {a : α} {st : Sto} {Q : α → Sto → Prop} : Ok (.ok a st) Q = Q a st := rfl
@[simp] theorem ok_no {α : Type} {Q : α → Sto → Prop} : Ok (.no : Out α) Q = False := rfl
theorem ok_bind {α β : Type} {o : Out α} {f : α → Sto → Out β} {Q : β → Sto → Prop} : Ok (o.bind f) Q = Ok o fun a st => Ok (f a st) Q := by
  cases o <;> rfl
theorem ok_mono {α : Type} {o : Out α} {Q Q' : α → Sto → Prop} (h : Ok o Q) (q : ∀ a st, Q a st → Q' a st) : Ok o Q' := by
  cases o with
  | ok a st => exact q a st h
  | no => exact h
  | ex c x st => exact h
theorem ok_ex {α : Type} {o : Out α} {Q : α → Sto → Prop} (h : Ok o Q) : ∃ a st, o = .ok a st ∧ Q a st := by
  cases o with
  | ok a st => exact ⟨a, st, rfl, h⟩
  | no => exact h.elim
  | ex c x st => exact h.elim
theorem ok_of {α : Type} {o : Out α} {Q : α → Sto → Prop} {a : α} {st : Sto} (e : o = .ok a st) (h : Q a st) : Ok o Q := by rw [e]; exact h

/-! ### one step each: what follows a part is a closed word until the part is known -/
section
variable {env : Ev} {st : Sto} {i j n : Nat} {t x y : T} {ts : List T} {b : Bool} {f g h : Sx} {fs gs : Sa} {c d : Tst} {s u : Ss} {op op' : T → T → Sto → Out T} {uop : T → Sto → Out T} {m : Fn}
@[simp] theorem x_var : eVar i env st = match env[i]? with
  | some (some t) => .ok t st
  | _ => .no := rfl
def kCons2 (x : T) : List T → Sto → Out (List T) := fun xs st => .ok (x :: xs) st
def kCons (gs : Sa) (env : Ev) : T → Sto → Out (List T) := fun x st => (gs env st).bind (kCons2 x)
def kBin (op : T → T → Sto → Out T) (g : Sx) (env : Ev) : T → Sto → Out T := fun x st => (g env st).bind (op x)
def kIf (f g : Sx) (env : Ev) : Bool → Sto → Out T := fun b st => if b = true then f env st else g env st
def kAnd (g : Sx) (env : Ev) : T → Sto → Out T := fun x st => match x with
  | .bl true => g env st
  | .bl false => .ok (.bl false) st
  | _ => .no
def kOr (g : Sx) (env : Ev) : T → Sto → Out T := fun x st => match x with
  | .bl true => .ok (.bl true) st
  | .bl false => g env st
  | _ => .no
def kNot : T → Sto → Out T := fun x st => match x with
  | .bl b => .ok (.bl (!b)) st
  | _ => .no
def kChain3 (op' : T → T → Sto → Out T) (h : Sx) (env : Ev) (y : T) : T → Sto → Out T := fun z st => match z with
  | .bl true => (h env st).bind (op' y)
  | .bl false => .ok (.bl false) st
  | _ => .no
def kChain2 (op op' : T → T → Sto → Out T) (h : Sx) (env : Ev) (x : T) : T → Sto → Out T := fun y st => (op x y st).bind (kChain3 op' h env y)
def kChain (op op' : T → T → Sto → Out T) (g h : Sx) (env : Ev) : T → Sto → Out T := fun x st => (g env st).bind (kChain2 op op' h env x)
def kVal : T → Sto → Out Bool := fun x st => match x with
  | .bl b => .ok b st
  | _ => .no
def kCand (d : Tst) (env : Ev) : Bool → Sto → Out Bool := fun b st => if b = true then d env st else .ok false st
def kCor (d : Tst) (env : Ev) : Bool → Sto → Out Bool := fun b st => if b = true then .ok true st else d env st
def kCnot : Bool → Sto → Out Bool := fun b st => .ok (!b) st
def kMeth2 (o : Md) (x : T) : List T → Sto → Out T := fun ts st => o x ts st
def kMeth (o : Md) (fs : Sa) (env : Ev) : T → Sto → Out T := fun x st => if (lstOf x st).isSome = true then (fs env st).bind (kMeth2 o x) else .no
def kCK2 (m : Fn) (n k : Nat) (idx : List Nat) (xs : List T) : List T → Sto → Out T := fun ys st => m (gK n k idx xs ys) st
def kCK (m : Fn) (n k : Nat) (idx : List Nat) (gs : Sa) (env : Ev) : List T → Sto → Out T := fun xs st => (gs env st).bind (kCK2 m n k idx xs)
def kSeq (u : Ss) : Fl → Sto → Out Fl := fun f st => match f with
  | .nx env => u env st
  | .rt t => .ok (.rt t) st
  | .bk e => .ok (.bk e) st
  | .ct e => .ok (.ct e) st
def kExpr (env : Ev) : T → Sto → Out Fl := fun _ st => .ok (.nx env) st
def kRet : T → Sto → Out Fl := fun t st => .ok (.rt t) st
def kIfS (s u : Ss) (env : Ev) : Bool → Sto → Out Fl := fun b st => if b = true then s env st else u env st
def kSet (i : Nat) (env : Ev) : T → Sto → Out Fl := fun t st => .ok (.nx (env.set i (some t))) st
def kPar (i j : Nat) (env : Ev) : List T → Sto → Out Fl := fun ts st => match ts with
  | [x, y] => .ok (.nx ((env.set i (some x)).set j (some y))) st
  | _ => .no
def kAsg (g : Tg) (env : Ev) : T → Sto → Out Fl := fun t st => match g t env with
  | some env => .ok (.nx env) st
  | none => .no
def kPut3 (env : Ev) (v o : T) : T → Sto → Out Fl := fun i st => match o, i with
  | .ref n, .int k => match st[n]? with
    | some (.lst xs) => match ixN xs.length k with
      | some j => if T.bel n v = true then .ok (.nx env) (st.set n (.lst (xs.set j v))) else .no
      | none => .no
    | _ => .no
  | _, _ => .no
def kPut2 (h : Sx) (env : Ev) (v : T) : T → Sto → Out Fl := fun o st => (h env st).bind (kPut3 env v o)
def kPut (g h : Sx) (env : Ev) : T → Sto → Out Fl := fun v st => (g env st).bind (kPut2 h env v)
def kAug2 (i : Nat) (env : Ev) : T → Sto → Out Fl := fun z st => .ok (.nx (env.set i (some z))) st
def kAug (i : Nat) (op : T → T → Sto → Out T) (env : Ev) (x : T) : T → Sto → Out Fl := fun y st => (op x y st).bind (kAug2 i env)
def kFor (g : Tg) (s : Ss) (env : Ev) : List T → Sto → Out Fl := fun xs st => forL g s xs env st
def kLc2 : List T → Sto → Out T := fun ys st => .ok (.lst ys) st
def kLc (g : Tg) (c : Tst) (f : Sx) (env : Ev) : List T → Sto → Out T := fun xs st => if xs.length ≤ sizeLine then (lcL env g c f [] xs st).bind kLc2 else .no
noncomputable def kRange1 : List T → Sto → Out (List T) := fun ts st => match ts with
  | [.int j] => if in62 j = true then .ok (rangeT 0 j.toNat) st else .no
  | _ => .no
noncomputable def kRange2 : List T → Sto → Out (List T) := fun ts st => match ts with
  | [.int i, .int j] => if in62 i = true ∧ in62 j = true then .ok (rangeT i (j - i).toNat) st else .no
  | _ => .no
@[simp] theorem x_c : eC t env st = .ok t st := rfl
@[simp] theorem x_nil : aNil env st = .ok [] st := rfl
@[simp] theorem x_cons : aCons f gs env st = (f env st).bind (kCons gs env) := rfl
@[simp] theorem k_cons : kCons gs env x st = (gs env st).bind (kCons2 x) := rfl
@[simp] theorem k_cons2 : kCons2 x ts st = .ok (x :: ts) st := rfl
@[simp] theorem x_un : eUn uop f env st = (f env st).bind uop := rfl
@[simp] theorem x_bin : eBin op f g env st = (f env st).bind (kBin op g env) := rfl
@[simp] theorem k_bin : kBin op g env x st = (g env st).bind (op x) := rfl
@[simp] theorem x_prim : ePrim m fs env st = (fs env st).bind m := rfl
@[simp] theorem x_if : eIf c f g env st = (c env st).bind (kIf f g env) := rfl
@[simp] theorem k_ifT : kIf f g env true st = f env st := rfl
@[simp] theorem k_ifF : kIf f g env false st = g env st := rfl
theorem k_if : kIf f g env b st = if b = true then f env st else g env st := rfl
@[simp] theorem x_chain : eChain op op' f g h env st = (f env st).bind (kChain op op' g h env) := rfl
@[simp] theorem k_chain : kChain op op' g h env x st = (g env st).bind (kChain2 op op' h env x) := rfl
@[simp] theorem k_chain2 : kChain2 op op' h env x y st = (op x y st).bind (kChain3 op' h env y) := rfl
@[simp] theorem k_chain3T : kChain3 op' h env y (.bl true) st = (h env st).bind (op' y) := rfl
@[simp] theorem k_chain3F : kChain3 op' h env y (.bl false) st = .ok (.bl false) st := rfl
theorem k_chain3 : kChain3 op' h env y (.bl b) st = if b = true then (h env st).bind (op' y) else .ok (.bl false) st := by cases b <;> rfl
@[simp] theorem x_and : eAnd f g env st = (f env st).bind (kAnd g env) := rfl
@[simp] theorem k_andT : kAnd g env (.bl true) st = g env st := rfl
@[simp] theorem k_andF : kAnd g env (.bl false) st = .ok (.bl false) st := rfl
theorem k_and : kAnd g env (.bl b) st = if b = true then g env st else .ok (.bl false) st := by cases b <;> rfl
@[simp] theorem x_or : eOr f g env st = (f env st).bind (kOr g env) := rfl
@[simp] theorem k_orT : kOr g env (.bl true) st = .ok (.bl true) st := rfl
@[simp] theorem k_orF : kOr g env (.bl false) st = g env st := rfl
theorem k_or : kOr g env (.bl b) st = if b = true then .ok (.bl true) st else g env st := by cases b <;> rfl
@[simp] theorem x_not : eNot f env st = (f env st).bind kNot := rfl
@[simp] theorem k_not : kNot (.bl b) st = .ok (.bl (!b)) st := rfl
@[simp] theorem x_tup : eTup fs env st = (fs env st).bind nTup := rfl
@[simp] theorem x_lst : eLst fs env st = (fs env st).bind nLst := rfl
@[simp] theorem x_obj : eObj fs env st = (fs env st).bind nObj := rfl
@[simp] theorem x_val : cVal f env st = (f env st).bind kVal := rfl
@[simp] theorem k_val : kVal (.bl b) st = .ok b st := rfl
@[simp] theorem x_cand : cAnd c d env st = (c env st).bind (kCand d env) := rfl
@[simp] theorem k_candT : kCand d env true st = d env st := rfl
@[simp] theorem k_candF : kCand d env false st = .ok false st := rfl
theorem k_cand : kCand d env b st = if b = true then d env st else .ok false st := rfl
@[simp] theorem x_cor : cOr c d env st = (c env st).bind (kCor d env) := rfl
@[simp] theorem k_corT : kCor d env true st = .ok true st := rfl
@[simp] theorem k_corF : kCor d env false st = d env st := rfl
theorem k_cor : kCor d env b st = if b = true then .ok true st else d env st := rfl
@[simp] theorem x_cnot : cNot c env st = (c env st).bind kCnot := rfl
@[simp] theorem k_cnot : kCnot b st = .ok (!b) st := rfl
@[simp] theorem x_yes : cYes env st = .ok true st := rfl
@[simp] theorem x_frz : eFrz f env st = (f env st).bind frz := rfl
@[simp] theorem x_meth {o : Md} : eMeth o f fs env st = (f env st).bind (kMeth o fs env) := rfl
@[simp] theorem k_meth {o : Md} : kMeth o fs env x st = if (lstOf x st).isSome = true then (fs env st).bind (kMeth2 o x) else .no := rfl
@[simp] theorem k_meth2 {o : Md} : kMeth2 o x ts st = o x ts st := rfl
@[simp] theorem x_callK {k : Nat} {idx : List Nat} : eCallK m n k idx fs gs env st = (fs env st).bind (kCK m n k idx gs env) := rfl
@[simp] theorem k_ck {k : Nat} {idx : List Nat} : kCK m n k idx gs env ts st = (gs env st).bind (kCK2 m n k idx ts) := rfl
@[simp] theorem k_ck2 {k : Nat} {idx : List Nat} {us : List T} : kCK2 m n k idx ts us st = m (gK n k idx ts us) st := rfl
@[simp] theorem s_nil : sNil env st = .ok (.nx env) st := rfl
@[simp] theorem s_seq : sSeq s u env st = (s env st).bind (kSeq u) := rfl
@[simp] theorem k_seqN : kSeq u (.nx env) st = u env st := rfl
@[simp] theorem k_seqR : kSeq u (.rt t) st = .ok (.rt t) st := rfl
@[simp] theorem k_seqB : kSeq u (.bk env) st = .ok (.bk env) st := rfl
@[simp] theorem k_seqC : kSeq u (.ct env) st = .ok (.ct env) st := rfl
@[simp] theorem s_expr : sExpr f env st = (f env st).bind (kExpr env) := rfl
@[simp] theorem k_expr : kExpr env t st = .ok (.nx env) st := rfl
@[simp] theorem s_ret : sRet f env st = (f env st).bind kRet := rfl
@[simp] theorem k_ret : kRet t st = .ok (.rt t) st := rfl
@[simp] theorem s_retN : sRetN env st = .ok (.rt .non) st := rfl
@[simp] theorem s_if : sIf c s u env st = (c env st).bind (kIfS s u env) := rfl
@[simp] theorem k_ifST : kIfS s u env true st = s env st := rfl
@[simp] theorem k_ifSF : kIfS s u env false st = u env st := rfl
theorem k_ifS : kIfS s u env b st = if b = true then s env st else u env st := rfl
@[simp] theorem s_set : sSet i f env st = (f env st).bind (kSet i env) := rfl
@[simp] theorem k_set : kSet i env t st = .ok (.nx (env.set i (some t))) st := rfl
@[simp] theorem s_par : sPar i j fs env st = (fs env st).bind (kPar i j env) := rfl
@[simp] theorem k_par : kPar i j env [x, y] st = .ok (.nx ((env.set i (some x)).set j (some y))) st := rfl
@[simp] theorem s_break : sBreak env st = .ok (.bk env) st := rfl
@[simp] theorem s_cont : sCont env st = .ok (.ct env) st := rfl
@[simp] theorem s_asg {g : Tg} : sAsg f g env st = (f env st).bind (kAsg g env) := rfl
@[simp] theorem k_asg {g : Tg} : kAsg g env t st = match g t env with
  | some env => .ok (.nx env) st
  | none => .no := rfl
@[simp] theorem s_put : sPut f g h env st = (f env st).bind (kPut g h env) := rfl
@[simp] theorem k_put : kPut g h env x st = (g env st).bind (kPut2 h env x) := rfl
@[simp] theorem k_put2 : kPut2 h env x y st = (h env st).bind (kPut3 env x y) := rfl
@[simp] theorem k_put3 {k : Int} : kPut3 env x (.ref n) (.int k) st = match st[n]? with
    | some (.lst xs) => match ixN xs.length k with
      | some j => if T.bel n x = true then .ok (.nx env) (st.set n (.lst (xs.set j x))) else .no
      | none => .no
    | _ => .no := rfl
theorem s_aug : sAug i op f env st = match env[i]? with
  | some (some x) => (f env st).bind (kAug i op env x)
  | _ => .no := rfl
@[simp] theorem k_aug : kAug i op env x y st = (op x y st).bind (kAug2 i env) := rfl
@[simp] theorem k_aug2 : kAug2 i env x st = .ok (.nx (env.set i (some x))) st := rfl
@[simp] theorem s_for {f : Si} {g : Tg} : sFor f g s env st = (f env st).bind (kFor g s env) := rfl
@[simp] theorem k_for {g : Tg} : kFor g s env ts st = forL g s ts env st := rfl
@[simp] theorem x_seq : iSeq f env st = (f env st).bind itemsOf := rfl
@[simp] theorem x_range1 : iRange1 fs env st = (fs env st).bind kRange1 := rfl
@[simp] theorem k_range1 {j : Int} : kRange1 [.int j] st = if in62 j = true then .ok (rangeT 0 j.toNat) st else .no := rfl
@[simp] theorem x_range2 : iRange2 fs env st = (fs env st).bind kRange2 := rfl
@[simp] theorem k_range2 {i j : Int} : kRange2 [.int i, .int j] st = if in62 i = true ∧ in62 j = true then .ok (rangeT i (j - i).toNat) st else .no := rfl
@[simp] theorem g_name : gtName i t env = some (env.set i (some t)) := rfl
@[simp] theorem g_nil : gtNil [] env = some env := rfl
@[simp] theorem g_cons {g : Tg} {r : Tgs} {ts : List T} : gtCons g r (t :: ts) env = (g t env).bind fun env => r ts env := rfl
@[simp] theorem g_tup {r : Tgs} {xs : List T} : gtTup n r (.tup xs) env = if xs.length = n then r xs env else none := rfl
@[simp] theorem it_lst {xs : List T} : itemsOf (.lst xs) st = .ok xs st := rfl
@[simp] theorem it_tup {xs : List T} : itemsOf (.tup xs) st = .ok xs st := rfl
@[simp] theorem e_rt : endF n (.ok (.rt t) st) = if T.bel n t = true then .ok t (st.take n) else .ok t st := rfl
@[simp] theorem e_nx : endF n (.ok (.nx env) st) = .ok .non (st.take n) := rfl
@[simp] theorem p_addI {i j : Int} : pAdd (.int i) (.int j) st = .ok (.int (i + j)) st := rfl
@[simp] theorem p_subI {i j : Int} : pSub (.int i) (.int j) st = .ok (.int (i - j)) st := rfl
@[simp] theorem p_mulI {i j : Int} : pMul (.int i) (.int j) st = if mulOk i j = true then .ok (.int (i * j)) st else .no := rfl
@[simp] theorem p_divI {i j : Int} : pDiv (.int i) (.int j) st = if divOk j = true then .ok (.int (i / j)) st else .no := rfl
@[simp] theorem p_modI {i j : Int} : pMod (.int i) (.int j) st = if 0 < j then .ok (.int (i % j)) st else .no := rfl
@[simp] theorem p_powI {i j : Int} : pPow (.int i) (.int j) st = if powOk i j = true then .ok (.int (i ^ j.toNat)) st else .no := rfl
@[simp] theorem p_negI {i : Int} : pNeg (.int i) st = .ok (.int (-i)) st := rfl
@[simp] theorem p_cmpI {p : Int → Int → Bool} {i j : Int} : pCmp p (.int i) (.int j) st = .ok (.bl (p i j)) st := rfl
@[simp] theorem p_eqI {i j : Int} {b : Bool → Bool} : pEqB b (.int i) (.int j) st = .ok (.bl (b (i == j))) st := by
  show (if SeqAt.shaped (.int i) = true ∧ SeqAt.shaped (.int j) = true then Out.ok (T.bl (b (PyData.eqv (.int i) (.int j)))) st else .no) = _
  rw [if_pos ⟨by rfl, by rfl⟩]
  simp [PyData.eqv]
@[simp] theorem p_isN {x : T} {b : Bool → Bool} : pIsN b x .non st = .ok (.bl (b (isNon x))) st := rfl
@[simp] theorem p_ix {x : T} {i : Int} : pIx x (.int i) st = match seqOf x st with
    | some xs => match atI xs i with
      | some t => .ok t st
      | none => .no
    | none => .no := rfl
theorem p_len {x : T} {xs : List T} (h : seqOf x st = some xs) : pLen [x] st = .ok (.int xs.length) st := by
  cases x <;> first | (simp only [pLen, h]; done) | cases h
@[simp] theorem p_len_lst {xs : List T} : pLen [.lst xs] st = .ok (.int xs.length) st := rfl
@[simp] theorem p_len_tup {xs : List T} : pLen [.tup xs] st = .ok (.int xs.length) st := rfl
@[simp] theorem p_isi {x : T} {n : String} : pIsi [x, .ty n] st = match (tyN x st).bind fun a => isT a n with
    | some b => .ok (.bl b) st
    | none => .no := rfl
@[simp] theorem ty_int {i : Int} : tyN (.int i) st = some "int" := rfl
@[simp] theorem ty_bl {b : Bool} : tyN (.bl b) st = some "bool" := rfl
@[simp] theorem ty_tup {xs : List T} : tyN (.tup xs) st = some "tuple" := rfl
@[simp] theorem ty_lst {xs : List T} : tyN (.lst xs) st = some "list" := rfl
@[simp] theorem ty_non : tyN .non st = some "NoneType" := rfl
@[simp] theorem ty_str {z : Str} : tyN (.str z) st = some "str" := rfl
@[simp] theorem p_tuple_lst {xs : List T} : pTuple [.lst xs] st = .ok (.tup xs) st := rfl
@[simp] theorem p_tuple_tup {xs : List T} : pTuple [.tup xs] st = .ok (.tup xs) st := rfl
@[simp] theorem p_int {i : Int} : pInt [.int i] st = .ok (.int i) st := rfl
@[simp] theorem p_intb {b : Bool} : pInt [.bl b] st = .ok (.int (if b then 1 else 0)) st := rfl
@[simp] theorem p_abs {i : Int} : pAbs [.int i] st = .ok (.int (if i < 0 then -i else i)) st := rfl
@[simp] theorem p_max2 {i j : Int} : pMax [.int i, .int j] st = .ok (.int (max i j)) st := rfl
@[simp] theorem p_min2 {i j : Int} : pMin [.int i, .int j] st = .ok (.int (min i j)) st := rfl
theorem p_maxL {x : T} {n : Int} {r : List Int} (h : seqOf x st = some ((n :: r).map T.int)) : pMax [x] st = .ok (.int (maxI n r)) st := by
  have e : (seqOf x st).bind intL = some (n :: r) := by rw [h]; exact intL_map (n :: r)
  cases x <;> first | (simp only [pMax, e]; done) | cases h
theorem p_minL {x : T} {n : Int} {r : List Int} (h : seqOf x st = some ((n :: r).map T.int)) : pMin [x] st = .ok (.int (minI n r)) st := by
  have e : (seqOf x st).bind intL = some (n :: r) := by rw [h]; exact intL_map (n :: r)
  cases x <;> first | (simp only [pMin, e]; done) | cases h
theorem p_all {bs : List Bool} : pAll [.lst (bs.map T.bl)] st = .ok (.bl (bs.all id)) st := by
  simp only [pAll, lstOf_lst, Option.bind_some, boolL_map]
@[simp] theorem n_tup {xs : List T} : nTup xs st = if xs.length ≤ sizeLine then .ok (.tup xs) st else .no := rfl
@[simp] theorem n_lst {xs : List T} : nLst xs st = if xs.length ≤ sizeLine then .ok (.lst xs) st else .no := rfl
@[simp] theorem n_obj {xs : List T} : nObj xs st = if xs.length ≤ sizeLine ∧ T.bels st.length xs = true then .ok (.ref st.length) (st ++ [.lst xs]) else .no := rfl
end
@[simp] theorem sz0 : (0 : Nat) ≤ sizeLine := Nat.zero_le _
theorem szle {n : Nat} (h : n ≤ 16777216) : n ≤ sizeLine := by rw [sizeLine_eq]; exact h
theorem szlt {n : Nat} (h : n < 16777216) : n < sizeLine := by rw [sizeLine_eq]; exact h
theorem in62_nat {n : Nat} (h : n < 4611686018427387904) : in62 (n : Int) = true := by
  rw [in62_iff]
  omega
theorem in62_of {i : Int} (h : -4611686018427387904 ≤ i) (h2 : i < 4611686018427387904) : in62 i = true := by
  rw [in62_iff]
  omega
@[simp] theorem x_lc {it : Si} {g : Tg} {c : Tst} {f : Sx} {vs : List Nat} {env : Ev} {st : Sto} : eLc it g c f vs env st = (it env st).bind (kLc g c f (wipeE env vs)) := by
  unfold eLc lcItems
  cases it env st with
  | no => rfl
  | ex c x st => rfl
  | ok xs st =>
    simp only [bind_ok, kLc]
    split <;> rfl
@[simp] theorem k_lc {g : Tg} {c : Tst} {f : Sx} {env : Ev} {st : Sto} {xs : List T} : kLc g c f env xs st = if xs.length ≤ sizeLine then (lcL env g c f [] xs st).bind kLc2 else .no := rfl
@[simp] theorem k_lc2 {st : Sto} {xs : List T} : kLc2 xs st = .ok (.lst xs) st := rfl
@[simp] theorem wipe_nil {env : Ev} : wipeE env [] = env := rfl
@[simp] theorem wipe_cons {env : Ev} {v : Nat} {vs : List Nat} : wipeE env (v :: vs) = (wipeE env vs).set v none := rfl
/-- a comprehension whose store stays -/
theorem lc_map {env : Ev} {g : Tg} {f : Sx} {st : Sto} {φ : T → T} : ∀ {items acc : List T}, (∀ x ∈ items, ∃ e, g x env = some e ∧ f e st = .ok (φ x) st) → lcL env g cYes f acc items st = .ok (acc ++ items.map φ) st
  | [], acc, _ => by simp [lcL]
  | x :: r, acc, h => by
    obtain ⟨e, h1, h2⟩ := h x (by simp)
    have ih := lc_map (acc := acc ++ [φ x]) (fun y hy => h y (by simp [hy]) : ∀ y ∈ r, _)
    unfold lcL
    rw [h1]
    simp only [x_yes, bind_ok, if_true, h2]
    rw [ih]
    simp
/-- .. with an invariant over the turns -/
theorem ok_lc {env : Ev} {g : Tg} {c : Tst} {f : Sx} {items : List T} {P : Nat → List T → Sto → Prop} : ∀ (k : Nat) {acc : List T} {st : Sto}, k ≤ items.length → P k acc st →
    (∀ i x acc st, items[i]? = some x → P i acc st → ∃ e, g x env = some e ∧ Ok (c e st) fun b st => if b = true then Ok (f e st) fun y st => P (i + 1) (acc ++ [y]) st else P (i + 1) acc st) →
    Ok (lcL env g c f acc (items.drop k) st) (P items.length) := by
  intro k
  induction hn : items.length - k generalizing k with
  | zero =>
    intro acc st hk hp hs
    have e : k = items.length := by omega
    subst e
    rw [List.drop_length]
    exact hp
  | succ n ih =>
    intro acc st hk hp hs
    have hlt : k < items.length := by omega
    rw [List.drop_eq_getElem_cons hlt]
    obtain ⟨e, h1, h2⟩ := hs k items[k] acc st (List.getElem?_eq_getElem hlt) hp
    unfold lcL
    rw [h1]
    simp only [ok_bind]
    refine ok_mono h2 fun b st1 q => ?_
    cases b with
    | true =>
      simp only [if_true, ok_bind] at q ⊢
      exact ok_mono q fun y st2 q => ih (k + 1) (by omega) (by omega) q hs
    | false =>
      simp only [Bool.false_eq_true, if_false] at q ⊢
      exact ih (k + 1) (by omega) (by omega) q hs
theorem ok_for {g : Tg} {body : Ss} {items : List T} {P : Nat → Ev → Sto → Prop} {Q : Fl → Sto → Prop} : ∀ (k : Nat) {env : Ev} {st : Sto}, k ≤ items.length → P k env st →
    (∀ i x env st, items[i]? = some x → P i env st → ∃ e, g x env = some e ∧ Ok (body e st) fun fl st => match fl with
      | .nx e => P (i + 1) e st
      | .ct e => P (i + 1) e st
      | .bk e => Q (.nx e) st
      | .rt t => Q (.rt t) st) → (∀ env st, P items.length env st → Q (.nx env) st) →
    Ok (forL g body (items.drop k) env st) Q := by
  intro k
  induction hn : items.length - k generalizing k with
  | zero =>
    intro env st hk hp hs hd
    have e : k = items.length := by omega
    subst e
    rw [List.drop_length]
    exact hd _ _ hp
  | succ n ih =>
    intro env st hk hp hs hd
    have hlt : k < items.length := by omega
    rw [List.drop_eq_getElem_cons hlt]
    obtain ⟨e, h1, h2⟩ := hs k items[k] env st (List.getElem?_eq_getElem hlt) hp
    unfold forL
    rw [h1]
    simp only
    obtain ⟨fl, st1, e1, q⟩ := ok_ex h2
    rw [e1]
    cases fl with
    | nx e' => exact ih (k + 1) (by omega) (by omega) q hs hd
    | ct e' => exact ih (k + 1) (by omega) (by omega) q hs hd
    | bk e' => exact q
    | rt t => exact q
theorem ok_for0 {g : Tg} {body : Ss} {items : List T} {env : Ev} {st : Sto} (P : Nat → Ev → Sto → Prop) {Q : Fl → Sto → Prop} (h0 : P 0 env st)
    (hs : ∀ i x env st, items[i]? = some x → P i env st → ∃ e, g x env = some e ∧ Ok (body e st) fun fl st => match fl with
      | .nx e => P (i + 1) e st
      | .ct e => P (i + 1) e st
      | .bk e => Q (.nx e) st
      | .rt t => Q (.rt t) st) (hd : ∀ env st, P items.length env st → Q (.nx env) st) : Ok (forL g body items env st) Q := by
  have := ok_for (items := items) 0 (Nat.zero_le _) h0 hs hd
  simpa using this
theorem ok_lc0 {env : Ev} {g : Tg} {c : Tst} {f : Sx} {items : List T} {st : Sto} (P : Nat → List T → Sto → Prop) (h0 : P 0 [] st)
    (hs : ∀ i x acc st, items[i]? = some x → P i acc st → ∃ e, g x env = some e ∧ Ok (c e st) fun b st => if b = true then Ok (f e st) fun y st => P (i + 1) (acc ++ [y]) st else P (i + 1) acc st) : Ok (lcL env g c f [] items st) (P items.length) := by
  have := ok_lc (items := items) 0 (Nat.zero_le _) h0 hs
  simpa using this
@[simp] theorem atI_0 {α : Type} {x : α} {r : List α} : atI (x :: r) 0 = some x := by
  have := atI_nat (xs := x :: r) (j := 0) (v := x) rfl
  simpa using this
@[simp] theorem atI_1 {α : Type} {x y : α} {r : List α} : atI (x :: y :: r) 1 = some y := by
  have := atI_nat (xs := x :: y :: r) (j := 1) (v := y) rfl
  simpa using this
@[simp] theorem atI_2 {α : Type} {x y z : α} {r : List α} : atI (x :: y :: z :: r) 2 = some z := by
  have := atI_nat (xs := x :: y :: z :: r) (j := 2) (v := z) rfl
  simpa using this
theorem range_at {lo : Int} {n i : Nat} {x : T} (h : (rangeT lo n)[i]? = some x) : x = .int (lo + (i : Nat)) ∧ i < n := by
  unfold rangeT at h
  rw [List.getElem?_map] at h
  cases q : (List.range n)[i]? with
  | none => rw [q] at h; cases h
  | some k =>
    rw [q] at h
    have hi := (List.getElem?_eq_some_iff.mp q).1
    have hi : i < n := by simpa using hi
    rw [List.getElem?_range hi] at q
    cases q
    cases h
    exact ⟨rfl, hi⟩
@[simp] theorem range_len {lo : Int} {n : Nat} : (rangeT lo n).length = n := by simp [rangeT]
theorem mul_lt {i j : Int} {a b : Nat} (ha : i.natAbs < 2 ^ a) (hb : j.natAbs < 2 ^ b) (h0 : 0 < a) (h1 : 0 < b) (h : a + b ≤ 100000000) : mulOk i j = true := by
  have x := PySem.Flt.log2_lt_of h0 ha
  have y := PySem.Flt.log2_lt_of h1 hb
  rw [mulOk_iff]
  omega
@[simp] theorem take_self {st : Sto} : st.take st.length = st := List.take_length
@[simp] theorem take_set {st : Sto} {p : Nat} {v : Ob} : (st.set p v).take st.length = st.set p v := List.take_of_length_le (by simp)
@[simp] theorem take_app {st r : Sto} : (st ++ r).take st.length = st := List.take_left
@[simp] theorem take_setapp {st r : Sto} {p : Nat} {v : Ob} : (st.set p v ++ r).take st.length = st.set p v := by
  have : st.length = (st.set p v).length := by simp
  rw [this, List.take_left]
theorem set_get {st : Sto} {p : Nat} {v o : Ob} (h : st[p]? = some o) : (st.set p v)[p]? = some v := List.getElem?_set_self (List.getElem?_eq_some_iff.mp h).1
@[simp] theorem ix30 : ixN 3 0 = some 0 := rfl
@[simp] theorem ix31 : ixN 3 1 = some 1 := rfl
@[simp] theorem ix32 : ixN 3 2 = some 2 := rfl
theorem mul_ok (a b : Nat) {i j : Int} (ha : i.natAbs < 2 ^ a) (hb : j.natAbs < 2 ^ b) (h0 : 0 < a := by decide) (h1 : 0 < b := by decide) (h : a + b ≤ 100000000 := by decide) : mulOk i j = true := mul_lt ha hb h0 h1 h
theorem div_ok {j : Int} (h : 0 < j) (h2 : j < 2 ^ 60) : divOk j = true := by
  rw [divOk_iff]
  refine ⟨h, ?_⟩
  have : j.natAbs.log2 < 60 := PySem.Flt.log2_lt_of (by decide) (by omega)
  omega
theorem mod_abs {x m : Int} {k : Nat} (h : 0 < m) (hk : m ≤ 2 ^ k) : (x % m).natAbs < 2 ^ k := by
  have h1 := Int.emod_nonneg x (show m ≠ 0 by omega)
  have h2 := Int.emod_lt_of_pos x h
  have h3 : ((2 ^ k : Nat) : Int) = 2 ^ k := by norm_cast
  omega
theorem mul_abs {i j : Int} {a b : Nat} (ha : i.natAbs < 2 ^ a) (hb : j.natAbs < 2 ^ b) : (i * j).natAbs < 2 ^ (a + b) := wide_lt ha hb
@[simp] theorem seqOf_ref {n : Nat} {st : Sto} : seqOf (.ref n) st = match st[n]? with
    | some (.lst xs) => some xs
    | some (.fz xs) => some xs
    | none => none := rfl
@[simp] theorem lstOf_ref {n : Nat} {st : Sto} : lstOf (.ref n) st = match st[n]? with
    | some (.lst xs) => some xs
    | some (.fz xs) => some xs
    | none => none := rfl
@[simp] theorem it_ref {n : Nat} {st : Sto} : itemsOf (.ref n) st = match st[n]? with
    | some (.lst xs) => .ok xs (st.set n (.fz xs))
    | some (.fz xs) => .ok xs st
    | none => .no := rfl
@[simp] theorem frz_ref {n : Nat} {st : Sto} : frz (.ref n) st = match st[n]? with
    | some (.lst xs) => .ok (.lst xs) (st.set n (.fz xs))
    | some (.fz xs) => .ok (.lst xs) st
    | none => .no := rfl
@[simp] theorem frz_lst {xs : List T} {st : Sto} : frz (.lst xs) st = .ok (.lst xs) st := rfl
@[simp] theorem frz_int {i : Int} {st : Sto} : frz (.int i) st = .ok (.int i) st := rfl
@[simp] theorem frz_tup {xs : List T} {st : Sto} : frz (.tup xs) st = .ok (.tup xs) st := rfl
@[simp] theorem m_append {n : Nat} {y : T} {st : Sto} : mAppend (.ref n) [y] st = match st[n]? with
    | some (.lst xs) => if xs.length < sizeLine ∧ T.bel n y = true then .ok .non (st.set n (.lst (xs ++ [y]))) else .no
    | _ => .no := rfl
@[simp] theorem ty_ref {n : Nat} {st : Sto} : tyN (.ref n) st = if n < st.length then some "list" else none := rfl
theorem ok_end {n : Nat} {o : Out Fl} {Q : T → Sto → Prop} : Ok (endF n o) Q = Ok o fun fl st => Ok (endF n (.ok fl st)) Q := by
  cases o <;> rfl
theorem app_get {st r : Sto} {p : Nat} {o : Ob} (h : st[p]? = some o) : (st ++ r)[p]? = some o := by
  rw [List.getElem?_append_left (List.getElem?_eq_some_iff.mp h).1]
  exact h
theorem app_last {st : Sto} {o : Ob} {n : Nat} (h : st.length = n) : (st ++ [o])[n]? = some o := by
  subst h
  simp
theorem set_app {st : Sto} {p : Nat} {v : Ob} {r : Sto} (h : p < st.length) : (st ++ r).set p v = st.set p v ++ r := by
  rw [List.set_append]
  simp [h]
theorem set_last {st : Sto} {o v : Ob} {n : Nat} (h : st.length = n) : (st ++ [o]).set n v = st ++ [v] := by
  subst h
  rw [List.set_append]
  simp
/-- statements in a row -/
theorem ok_seq {s u : Ss} {env : Ev} {st : Sto} {Q : Fl → Sto → Prop} : Ok (sSeq s u env st) Q = Ok (s env st) fun fl st => Ok (kSeq u fl st) Q := ok_bind
theorem set_same {st : Sto} {p : Nat} {o : Ob} (h : st[p]? = some o) : st.set p o = st := by
  apply List.ext_getElem?
  intro j
  by_cases hj : j = p
  · subst hj; rw [List.getElem?_set_self (List.getElem?_eq_some_iff.mp h).1, h]
  · rw [List.getElem?_set_ne (Ne.symm hj)]
theorem lc_mapE {α : Type} {env : Ev} {g : Tg} {f : Sx} {st : Sto} (enc φ : α → T) : ∀ {l : List α} {acc : List T}, (∀ x ∈ l, ∃ e, g (enc x) env = some e ∧ f e st = .ok (φ x) st) → lcL env g cYes f acc (l.map enc) st = .ok (acc ++ l.map φ) st
  | [], acc, _ => by simp [lcL]
  | x :: r, acc, h => by
    obtain ⟨e, h1, h2⟩ := h x (by simp)
    have ih := lc_mapE enc φ (acc := acc ++ [φ x]) (fun y hy => h y (by simp [hy]) : ∀ y ∈ r, _)
    rw [List.map_cons]
    unfold lcL
    rw [h1]
    simp only [x_yes, bind_ok, if_true, h2]
    rw [ih]
    simp
/-- over range(n) -/
theorem lc_range {env : Ev} {g : Tg} {f : Sx} {st : Sto} {n : Nat} (φ : Nat → T) (h : ∀ i, i < n → ∃ e, g (.int (i : Nat)) env = some e ∧ f e st = .ok (φ i) st) : lcL env g cYes f [] (rangeT 0 n) st = .ok ((List.range n).map φ) st := by
  have := lc_mapE (env := env) (g := g) (f := f) (st := st) (fun k : Nat => T.int (0 + (k : Nat))) φ (l := List.range n) (acc := []) fun x hx => by
    have := h x (List.mem_range.mp hx)
    simpa using this
  simpa [rangeT] using this
/-- the greatest, the least of a list; where the least stands first -/
def mx : List Int → Int
  | [] => 0
  | n :: r => maxI n r
def mn : List Int → Int
  | [] => 0
  | n :: r => minI n r
theorem p_mx {x : T} {l : List Int} {st : Sto} (h : seqOf x st = some (l.map T.int)) (h0 : l ≠ []) : pMax [x] st = .ok (.int (mx l)) st := by
  cases l with
  | nil => exact absurd rfl h0
  | cons n r => exact p_maxL h
theorem p_mn {x : T} {l : List Int} {st : Sto} (h : seqOf x st = some (l.map T.int)) (h0 : l ≠ []) : pMin [x] st = .ok (.int (mn l)) st := by
  cases l with
  | nil => exact absurd rfl h0
  | cons n r => exact p_minL h
theorem mn_mem {l : List Int} (h : l ≠ []) : mn l ∈ l := by
  cases l with
  | nil => exact absurd rfl h
  | cons n r => exact (minI_spec r n).1
theorem mx_mem {l : List Int} (h : l ≠ []) : mx l ∈ l := by
  cases l with
  | nil => exact absurd rfl h
  | cons n r => exact (maxI_spec r n).1
theorem mn_le {l : List Int} {y : Int} (h : y ∈ l) : mn l ≤ y := by
  cases l with
  | nil => cases h
  | cons n r => exact (minI_spec r n).2 y h
theorem le_mx {l : List Int} {y : Int} (h : y ∈ l) : y ≤ mx l := by
  cases l with
  | nil => cases h
  | cons n r => exact (maxI_spec r n).2 y h
def firstAt (l : List Int) (y : Int) : Nat := (l.findIdx? fun n => n == y).getD 0
theorem m_index {x : T} {ns : List Int} {i : Int} {st : Sto} (h : lstOf x st = some (ns.map T.int)) (hi : i ∈ ns) : mIndex x [.int i] st = .ok (.int (firstAt ns i : Nat)) st := by
  have e : (lstOf x st).bind intL = some ns := by rw [h]; exact intL_map ns
  obtain ⟨j, hj⟩ : ∃ j, (ns.findIdx? fun n => n == i) = some j := by
    cases q : ns.findIdx? fun n => n == i with
    | some j => exact ⟨j, rfl⟩
    | none =>
      have := List.findIdx?_eq_none_iff.mp q i hi
      simp at this
  unfold mIndex firstAt
  simp only [e, hj, Option.getD_some]
theorem seq_of_lst {x : T} {xs : List T} {st : Sto} (h : lstOf x st = some xs) : seqOf x st = some xs := by
  cases x <;> first | exact h | cases h
theorem p_eqD {x y : T} {d e : PyData} {b : Bool → Bool} {st : Sto} (h1 : pd x st = some d) (h2 : pd y st = some e) (s1 : SeqAt.shaped d = true) (s2 : SeqAt.shaped e = true) : pEqB b x y st = .ok (.bl (b (PyData.eqv d e))) st := by
  simp only [pEqB, h1, h2, s1, s2, and_self, if_true]
/-- all(..) of a comprehension that tells True of each item -/
theorem all_items {env : Ev} {g : Tg} {f : Sx} {st : Sto} {items : List T} (h : ∀ x ∈ items, ∃ e, g x env = some e ∧ f e st = .ok (.bl true) st) : lcL env g cYes f [] items st = .ok (List.replicate items.length (.bl true)) st := by
  rw [lc_map (φ := fun _ => T.bl true) h, List.nil_append, List.map_const']
@[simp] theorem boolL_rep {n : Nat} {b : Bool} : boolL (List.replicate n (.bl b)) = some (List.replicate n b) := by
  have e : List.replicate n (T.bl b) = (List.replicate n b).map T.bl := by simp
  rw [e, boolL_map]
@[simp] theorem p_allx {xs : List T} {st : Sto} : pAll [.lst xs] st = match boolL xs with
    | some bs => .ok (.bl (bs.all id)) st
    | none => .no := rfl
@[simp] theorem p_anyx {xs : List T} {st : Sto} : pAny [.lst xs] st = match boolL xs with
    | some bs => .ok (.bl (bs.any id)) st
    | none => .no := rfl
@[simp] theorem p_sumx {xs : List T} {st : Sto} : pSum [.lst xs] st = match intL xs with
    | some ns => .ok (.int ns.sum) st
    | none => .no := rfl
end Dn

set_option Elab.async false
set_option linter.all false
set_option maxRecDepth 100000
set_option maxHeartbeats 4000000
namespace NSP
open PySem PySem.Spec PyProof.Rows L2 Dn
/-! ### the meanings of the defs (printed by gen.py) -/
noncomputable def b__law_pool : Ss :=
    sSeq (sSet 2 (eBin pAdd (eBin pMul (eC (.int 40009)) (eVar 1)) (eC (.int 271))))
    (sSeq (sIf (cVal (eBin pLt (eVar 1) (ePrim pLen (aCons (eVar 0) (aNil))))) (sSet 2 (ePrim pInt (aCons (eBin pIx (eVar 0) (eVar 1)) (aNil)))) (sNil))
    (sSeq (sSet 3 (eBin pAdd (eBin pAdd (eBin pMul (eC (.int 1009)) (ePrim pLen (aCons (eVar 0) (aNil)))) (eBin pMul (eC (.int 31)) (eVar 1))) (eC (.int 5))))
    (sSeq (sFor (iSeq (eVar 0)) (gtName 4) (sSet 3 (eBin pMod (ePrim pInt (aCons (eBin pAdd (eBin pMul (eVar 3) (eC (.int 6151))) (eBin pMod (ePrim pInt (aCons (eVar 4) (aNil))) (eBin pAdd (eC (.int 10000000000000000000000)) (eC (.int 9))))) (aNil))) (eBin pAdd (eC (.int 1000000000000000000000000000)) (eC (.int 103))))))
    (sSeq (sSet 3 (eBin pMod (ePrim pInt (aCons (eBin pAdd (eBin pAdd (eBin pAdd (eBin pMul (eVar 3) (eC (.int 17))) (eBin pMul (ePrim pAbs (aCons (eVar 2) (aNil))) (eC (.int 12007)))) (eBin pMul (ePrim pInt (aCons (eBin pLt (eVar 2) (eC (.int 0))) (aNil))) (eC (.int 5)))) (eBin pMul (eC (.int 211)) (eVar 1))) (aNil))) (eBin pAdd (eC (.int 1000000000000000000000000000)) (eC (.int 103)))))
    (sRet (eObj (aCons (ePrim pMax (aCons (eC (.int 0)) (aCons (eBin pSub (ePrim pAbs (aCons (eVar 2) (aNil))) (eC (.int 1000000000000000000))) (aNil)))) (aCons (eVar 3) (aCons (eC (.int 0)) (aNil))))))))))
noncomputable def m__law_pool : Fn := mkFn 2 5 b__law_pool
theorem e__law_pool {x0 x1 : T} {st : Sto} : m__law_pool [x0, x1] st = endF st.length (b__law_pool [some x0, some x1, none, none, none] st) := rfl
noncomputable def b__law_take : Ss :=
    sSeq (sIf (cVal (eBin pGt (eBin pIx (eVar 0) (eC (.int 0))) (eC (.int 0)))) (sSeq (sSet 2 (eBin pMod (ePrim pInt (aCons (eBin pIx (eVar 0) (eC (.int 0))) (aNil))) (eVar 1)))
    (sSeq (sPut (eBin pDiv (eBin pIx (eVar 0) (eC (.int 0))) (eVar 1)) (eVar 0) (eC (.int 0)))
    (sRet (eVar 2)))) (sNil))
    (sSeq (sPut (eBin pAdd (eBin pIx (eVar 0) (eC (.int 2))) (eC (.int 1))) (eVar 0) (eC (.int 2)))
    (sSeq (sSet 3 (eBin pMod (ePrim pInt (aCons (eBin pAdd (eBin pAdd (eBin pIx (eVar 0) (eC (.int 1))) (eBin pMul (eBin pMul (eC (.int 7368787)) (eBin pIx (eVar 0) (eC (.int 2)))) (eBin pIx (eVar 0) (eC (.int 2))))) (eBin pMul (eC (.int 86028121)) (eBin pIx (eVar 0) (eC (.int 2))))) (aNil))) (eBin pAdd (eC (.int 1000000000000000000000000000)) (eC (.int 103)))))
    (sSeq (sSet 3 (eBin pMod (ePrim pInt (aCons (eBin pAdd (eBin pAdd (eBin pMul (eBin pMul (eVar 3) (eVar 3)) (eVar 3)) (eBin pMul (eC (.int 29)) (eBin pIx (eVar 0) (eC (.int 2))))) (eC (.int 3))) (aNil))) (eBin pAdd (eC (.int 100000000000000000000000000000)) (eC (.int 319)))))
    (sSeq (sSet 3 (eBin pDiv (eBin pMod (ePrim pInt (aCons (eBin pMul (eVar 3) (eBin pAdd (eVar 3) (eC (.int 99991)))) (aNil))) (eBin pAdd (eC (.int 1000000000000000000000000000000000)) (eC (.int 603)))) (eC (.int 7001))))
    (sRet (eBin pMod (ePrim pInt (aCons (eVar 3) (aNil))) (eVar 1)))))))
noncomputable def m__law_take : Fn := mkFn 2 4 b__law_take
theorem e__law_take {x0 x1 : T} {st : Sto} : m__law_take [x0, x1] st = endF st.length (b__law_take [some x0, some x1, none, none] st) := rfl
noncomputable def b__law_lines : Ss :=
    sSeq (sSet 4 (eObj (aNil)))
    (sSeq (sFor (iRange1 (aCons (eVar 1) (aNil))) (gtName 5) (sExpr (eMeth mAppend (eVar 4) (aCons (eLc (iRange1 (aCons (eVar 2) (aNil))) (gtName 6) (cYes) (eBin pSub (ePrim m__law_take (aCons (eVar 0) (aCons (eVar 3) (aNil)))) (eBin pDiv (eVar 3) (eC (.int 2)))) [6]) (aNil)))))
    (sSeq (sIf (cVal (eBin pEq (eVar 3) (eC (.int 4)))) (sSet 4 (eLc (iSeq (eVar 4)) (gtName 7) (cYes) (eLc (iSeq (eVar 7)) (gtName 8) (cYes) (eBin pIx (eLst (aCons (eUn pNeg (eC (.int 1000))) (aCons (eC (.int 1000)) (aCons (eC (.int 0)) (aCons (eC (.int 999)) (aNil)))))) (eBin pAdd (eVar 8) (eC (.int 2)))) [8]) [7])) (sNil))
    (sRet (eFrz (eVar 4)))))
noncomputable def m__law_lines : Fn := mkFn 4 9 b__law_lines
theorem e__law_lines {x0 x1 x2 x3 : T} {st : Sto} : m__law_lines [x0, x1, x2, x3] st = endF st.length (b__law_lines [some x0, some x1, some x2, some x3, none, none, none, none, none] st) := rfl
noncomputable def b__law_frozen : Ss :=
    sRet (ePrim pTuple (aCons (eLc (iSeq (eVar 0)) (gtName 1) (cYes) (ePrim pTuple (aCons (eVar 1) (aNil))) [1]) (aNil)))
noncomputable def m__law_frozen : Fn := mkFn 1 2 b__law_frozen
theorem e__law_frozen {x0 : T} {st : Sto} : m__law_frozen [x0] st = endF st.length (b__law_frozen [some x0, none] st) := rfl
noncomputable def b__law_game : Ss :=
    sSeq (sPar 2 3 (aCons (ePrim m__law_take (aCons (eVar 0) (aCons (eC (.int 7)) (aNil)))) (aCons (eBin pIx (eLst (aCons (eC (.int 2)) (aCons (eC (.int 3)) (aCons (eC (.int 5)) (aCons (eC (.int 9)) (aCons (eC (.int 41)) (aCons (eC (.int 2001)) (aCons (eC (.int 4)) (aNil))))))))) (ePrim m__law_take (aCons (eVar 0) (aCons (eC (.int 7)) (aNil))))) (aNil))))
    (sSeq (sPar 4 5 (aCons (eBin pAdd (eC (.int 1)) (ePrim m__law_take (aCons (eVar 0) (aCons (eVar 1) (aNil))))) (aCons (eBin pAdd (eC (.int 1)) (ePrim m__law_take (aCons (eVar 0) (aCons (eVar 1) (aNil))))) (aNil))))
    (sSeq (sIf (cVal (eBin pEq (eVar 2) (eC (.int 2)))) (sSet 5 (eVar 4)) (sNil))
    (sSeq (sSet 6 (ePrim m__law_lines (aCons (eVar 0) (aCons (eVar 4) (aCons (eVar 5) (aCons (eVar 3) (aNil)))))))
    (sSeq (sIf (cVal (eBin pEq (eVar 2) (eC (.int 0)))) (sRet (eTup (aCons (ePrim m__law_frozen (aCons (eVar 6) (aNil))) (aCons (ePrim m__law_frozen (aCons (eLc (iSeq (eVar 6)) (gtName 7) (cYes) (eLc (iSeq (eVar 7)) (gtName 8) (cYes) (eUn pNeg (eVar 8)) [8]) [7]) (aNil))) (aNil))))) (sNil))
    (sSeq (sIf (cVal (eBin pEq (eVar 2) (eC (.int 1)))) (sRet (eTup (aCons (ePrim m__law_frozen (aCons (eVar 6) (aNil))) (aCons (ePrim m__law_frozen (aCons (eVar 6) (aNil))) (aNil))))) (sNil))
    (sSeq (sIf (cVal (eBin pEq (eVar 2) (eC (.int 2)))) (sRet (eTup (aCons (ePrim m__law_frozen (aCons (eVar 6) (aNil))) (aCons (ePrim pTuple (aCons (eLc (iRange1 (aCons (eVar 4) (aNil))) (gtName 9) (cYes) (ePrim pTuple (aCons (eLc (iSeq (eVar 6)) (gtName 7) (cYes) (eBin pIx (eVar 7) (eVar 9)) [7]) (aNil))) [9]) (aNil))) (aNil))))) (sNil))
    (sRet (eTup (aCons (ePrim m__law_frozen (aCons (eVar 6) (aNil))) (aCons (ePrim m__law_frozen (aCons (ePrim m__law_lines (aCons (eVar 0) (aCons (eVar 4) (aCons (eVar 5) (aCons (eVar 3) (aNil)))))) (aNil))) (aNil)))))))))))
noncomputable def m__law_game : Fn := mkFn 2 10 b__law_game
theorem e__law_game {x0 x1 : T} {st : Sto} : m__law_game [x0, x1] st = endF st.length (b__law_game [some x0, some x1, none, none, none, none, none, none, none, none] st) := rfl
noncomputable def b_is_integer : Ss :=
    sRet (eAnd (ePrim pIsi (aCons (eVar 0) (aCons (eC (.ty "int")) (aNil)))) (eNot (ePrim pIsi (aCons (eVar 0) (aCons (eC (.ty "bool")) (aNil))))))
noncomputable def m_is_integer : Fn := mkFn 1 1 b_is_integer
theorem e_is_integer {x0 : T} {st : Sto} : m_is_integer [x0] st = endF st.length (b_is_integer [some x0] st) := rfl
noncomputable def b_is_within : Ss :=
    sRet (eAnd (ePrim m_is_integer (aCons (eVar 0) (aNil))) (eChain pLe pLe (eVar 1) (eVar 0) (eVar 2)))
noncomputable def m_is_within : Fn := mkFn 3 3 b_is_within
theorem e_is_within {x0 x1 x2 : T} {st : Sto} : m_is_within [x0, x1, x2] st = endF st.length (b_is_within [some x0, some x1, some x2] st) := rfl
noncomputable def b_is_a_row : Ss :=
    sSeq (sIf (cOr (cNot (cVal (ePrim pIsi (aCons (eVar 0) (aCons (eC (.ty "tuple")) (aNil)))))) (cVal (eBin pNe (ePrim pLen (aCons (eVar 0) (aNil))) (eVar 1)))) (sRet (eC (.bl false))) (sNil))
    (sRet (ePrim pAll (aCons (eLc (iSeq (eVar 0)) (gtName 2) (cYes) (ePrim m_is_within (aCons (eVar 2) (aCons (eUn pNeg (eC (.int 1000))) (aCons (eC (.int 1000)) (aNil))))) [2]) (aNil))))
noncomputable def m_is_a_row : Fn := mkFn 2 3 b_is_a_row
theorem e_is_a_row {x0 x1 : T} {st : Sto} : m_is_a_row [x0, x1] st = endF st.length (b_is_a_row [some x0, some x1, none] st) := rfl
noncomputable def b_is_a_table : Ss :=
    sSeq (sIf (cOr (cNot (cVal (ePrim pIsi (aCons (eVar 0) (aCons (eC (.ty "tuple")) (aNil)))))) (cOr (cNot (cVal (eChain pLe pLe (eC (.int 1)) (ePrim pLen (aCons (eVar 0) (aNil))) (eC (.int 5))))) (cNot (cVal (ePrim pIsi (aCons (eBin pIx (eVar 0) (eC (.int 0))) (aCons (eC (.ty "tuple")) (aNil)))))))) (sRet (eC (.bl false))) (sNil))
    (sRet (eAnd (eChain pLe pLe (eC (.int 1)) (ePrim pLen (aCons (eBin pIx (eVar 0) (eC (.int 0))) (aNil))) (eC (.int 5))) (ePrim pAll (aCons (eLc (iSeq (eVar 0)) (gtName 1) (cYes) (ePrim m_is_a_row (aCons (eVar 1) (aCons (ePrim pLen (aCons (eBin pIx (eVar 0) (eC (.int 0))) (aNil))) (aNil)))) [1]) (aNil)))))
noncomputable def m_is_a_table : Fn := mkFn 1 2 b_is_a_table
theorem e_is_a_table {x0 : T} {st : Sto} : m_is_a_table [x0] st = endF st.length (b_is_a_table [some x0, none] st) := rfl
noncomputable def b_are_tables_like : Ss :=
    sSeq (sIf (cOr (cNot (cVal (ePrim pIsi (aCons (eVar 0) (aCons (eC (.ty "tuple")) (aNil)))))) (cOr (cVal (eBin pNe (ePrim pLen (aCons (eVar 0) (aNil))) (eC (.int 2)))) (cNot (cVal (ePrim pAll (aCons (eLc (iSeq (eVar 0)) (gtName 3) (cYes) (ePrim m_is_a_table (aCons (eVar 3) (aNil))) [3]) (aNil))))))) (sRet (eC (.bl false))) (sNil))
    (sRet (ePrim pAll (aCons (eLc (iSeq (eVar 0)) (gtName 3) (cYes) (eAnd (eBin pEq (ePrim pLen (aCons (eVar 3) (aNil))) (eVar 1)) (eBin pEq (ePrim pLen (aCons (eBin pIx (eVar 3) (eC (.int 0))) (aNil))) (eVar 2))) [3]) (aNil))))
noncomputable def m_are_tables_like : Fn := mkFn 3 4 b_are_tables_like
theorem e_are_tables_like {x0 x1 x2 : T} {st : Sto} : m_are_tables_like [x0, x1, x2] st = endF st.length (b_are_tables_like [some x0, some x1, some x2, none] st) := rfl
noncomputable def b_is_a_game : Ss :=
    sSeq (sIf (cOr (cNot (cVal (ePrim pIsi (aCons (eVar 0) (aCons (eC (.ty "tuple")) (aNil)))))) (cOr (cVal (eBin pNe (ePrim pLen (aCons (eVar 0) (aNil))) (eC (.int 2)))) (cNot (cVal (ePrim m_is_a_table (aCons (eBin pIx (eVar 0) (eC (.int 0))) (aNil))))))) (sRet (eC (.bl false))) (sNil))
    (sRet (ePrim m_are_tables_like (aCons (eVar 0) (aCons (ePrim pLen (aCons (eBin pIx (eVar 0) (eC (.int 0))) (aNil))) (aCons (ePrim pLen (aCons (eBin pIx (eBin pIx (eVar 0) (eC (.int 0))) (eC (.int 0))) (aNil))) (aNil))))))
noncomputable def m_is_a_game : Fn := mkFn 1 1 b_is_a_game
theorem e_is_a_game {x0 : T} {st : Sto} : m_is_a_game [x0] st = endF st.length (b_is_a_game [some x0] st) := rfl
noncomputable def b_need_game : Ss :=
    sIf (cNot (cVal (ePrim m_is_a_game (aCons (eVar 0) (aNil))))) (sNo) (sNil)
noncomputable def m_need_game : Fn := mkFn 1 1 b_need_game
theorem e_need_game {x0 : T} {st : Sto} : m_need_game [x0] st = endF st.length (b_need_game [some x0] st) := rfl
noncomputable def b_is_a_side : Ss :=
    sRet (ePrim m_is_within (aCons (eVar 0) (aCons (eC (.int 0)) (aCons (eC (.int 1)) (aNil)))))
noncomputable def m_is_a_side : Fn := mkFn 1 1 b_is_a_side
theorem e_is_a_side {x0 : T} {st : Sto} : m_is_a_side [x0] st = endF st.length (b_is_a_side [some x0] st) := rfl
noncomputable def b_need_side : Ss :=
    sIf (cNot (cVal (ePrim m_is_a_side (aCons (eVar 0) (aNil))))) (sNo) (sNil)
noncomputable def m_need_side : Fn := mkFn 1 1 b_need_side
theorem e_need_side {x0 : T} {st : Sto} : m_need_side [x0] st = endF st.length (b_need_side [some x0] st) := rfl
noncomputable def b_many_of : Ss :=
    sRet (eIf (cVal (eBin pEq (eVar 1) (eC (.int 0)))) (ePrim pLen (aCons (eBin pIx (eVar 0) (eC (.int 0))) (aNil))) (ePrim pLen (aCons (eBin pIx (eBin pIx (eVar 0) (eC (.int 0))) (eC (.int 0))) (aNil))))
noncomputable def m_many_of : Fn := mkFn 2 2 b_many_of
theorem e_many_of {x0 x1 : T} {st : Sto} : m_many_of [x0, x1] st = endF st.length (b_many_of [some x0, some x1] st) := rfl
noncomputable def b_got : Ss :=
    sRet (eIf (cVal (eBin pEq (eVar 1) (eC (.int 0)))) (eBin pIx (eBin pIx (eBin pIx (eVar 0) (eC (.int 0))) (eVar 2)) (eVar 3)) (eBin pIx (eBin pIx (eBin pIx (eVar 0) (eC (.int 1))) (eVar 3)) (eVar 2)))
noncomputable def m_got : Fn := mkFn 4 4 b_got
theorem e_got {x0 x1 x2 x3 : T} {st : Sto} : m_got [x0, x1, x2, x3] st = endF st.length (b_got [some x0, some x1, some x2, some x3] st) := rfl
noncomputable def b_guard_of : Ss :=
    sSeq (sSet 2 (eObj (aNil)))
    (sSeq (sFor (iRange1 (aCons (ePrim m_many_of (aCons (eVar 0) (aCons (eBin pSub (eC (.int 1)) (eVar 1)) (aNil)))) (aNil))) (gtName 3) (sExpr (eMeth mAppend (eVar 2) (aCons (ePrim pMax (aCons (eLc (iRange1 (aCons (ePrim m_many_of (aCons (eVar 0) (aCons (eVar 1) (aNil)))) (aNil))) (gtName 4) (cYes) (ePrim m_got (aCons (eVar 0) (aCons (eVar 1) (aCons (eVar 4) (aCons (eVar 3) (aNil)))))) [4]) (aNil))) (aNil)))))
    (sRet (eTup (aCons (ePrim pMin (aCons (eVar 2) (aNil))) (aCons (eMeth mIndex (eVar 2) (aCons (ePrim pMin (aCons (eVar 2) (aNil))) (aNil))) (aNil))))))
noncomputable def m_guard_of : Fn := mkFn 2 5 b_guard_of
theorem e_guard_of {x0 x1 : T} {st : Sto} : m_guard_of [x0, x1] st = endF st.length (b_guard_of [some x0, some x1, none, none, none] st) := rfl
noncomputable def b_guard : Ss :=
    sSeq (sExpr (ePrim m_need_game (aCons (eVar 0) (aNil))))
    (sSeq (sExpr (ePrim m_need_side (aCons (eVar 1) (aNil))))
    (sRet (ePrim m_guard_of (aCons (eVar 0) (aCons (eVar 1) (aNil))))))
noncomputable def m_guard : Fn := mkFn 2 2 b_guard
theorem e_guard {x0 x1 : T} {st : Sto} : m_guard [x0, x1] st = endF st.length (b_guard [some x0, some x1] st) := rfl
noncomputable def b__law_due : Ss :=
    sSeq (sSet 2 (eBin pIx (eVar 0) (eC (.int 1))))
    (sSeq (sIf (cVal (eBin pEq (eVar 1) (eC (.int 0)))) (sSet 2 (eLc (iRange1 (aCons (ePrim pLen (aCons (eBin pIx (eBin pIx (eVar 0) (eC (.int 0))) (eC (.int 0))) (aNil))) (aNil))) (gtName 3) (cYes) (eLc (iSeq (eBin pIx (eVar 0) (eC (.int 0)))) (gtName 4) (cYes) (eBin pIx (eVar 4) (eVar 3)) [4]) [3])) (sNil))
    (sSeq (sSet 5 (eLc (iSeq (eVar 2)) (gtName 4) (cYes) (ePrim pMax (aCons (eVar 4) (aNil))) [4]))
    (sRet (eTup (aCons (ePrim pMin (aCons (eVar 5) (aNil))) (aCons (eMeth mIndex (eVar 5) (aCons (ePrim pMin (aCons (eVar 5) (aNil))) (aNil))) (aNil)))))))
noncomputable def m__law_due : Fn := mkFn 2 6 b__law_due
theorem e__law_due {x0 x1 : T} {st : Sto} : m__law_due [x0, x1] st = endF st.length (b__law_due [some x0, some x1, none, none, none, none] st) := rfl
noncomputable def b__law_right : Ss :=
    sSeq (sSet 3 (eIf (cVal (eBin pEq (eVar 2) (eC (.int 1)))) (eCallK m_guard 0 2 [1, 0] (aNil) (aCons (eVar 1) (aCons (eVar 0) (aNil)))) (ePrim m_guard (aCons (eVar 0) (aCons (eVar 1) (aNil))))))
    (sSeq (sIf (cOr (cNot (cVal (ePrim pIsi (aCons (eVar 3) (aCons (eC (.ty "tuple")) (aNil)))))) (cVal (eBin pNe (ePrim pLen (aCons (eVar 3) (aNil))) (eC (.int 2))))) (sRet (eC (.bl false))) (sNil))
    (sSeq (sFor (iSeq (eVar 3)) (gtName 4) (sIf (cOr (cNot (cVal (ePrim pIsi (aCons (eVar 4) (aCons (eC (.ty "int")) (aNil)))))) (cVal (ePrim pIsi (aCons (eVar 4) (aCons (eC (.ty "bool")) (aNil)))))) (sRet (eC (.bl false))) (sNil)))
    (sRet (eBin pEq (eVar 3) (ePrim m__law_due (aCons (eVar 0) (aCons (eVar 1) (aNil))))))))
noncomputable def m__law_right : Fn := mkFn 3 5 b__law_right
theorem e__law_right {x0 x1 x2 : T} {st : Sto} : m__law_right [x0, x1, x2] st = endF st.length (b__law_right [some x0, some x1, some x2, none, none] st) := rfl
noncomputable def b__law_cell_right : Ss :=
    sSeq (sSet 2 (ePrim m__law_pool (aCons (eVar 0) (aCons (eVar 1) (aNil)))))
    (sSeq (sPar 3 4 (aCons (ePrim m__law_game (aCons (eVar 2) (aCons (eC (.int 4)) (aNil)))) (aCons (ePrim m__law_game (aCons (eVar 2) (aCons (eC (.int 4)) (aNil)))) (aNil))))
    (sSeq (sPar 5 6 (aCons (ePrim m__law_take (aCons (eVar 2) (aCons (eC (.int 2)) (aNil)))) (aCons (ePrim m__law_take (aCons (eVar 2) (aCons (eC (.int 2)) (aNil)))) (aNil))))
    (sSeq (sFor (iSeq (eLst (aCons (eVar 3) (aCons (eVar 4) (aCons (eVar 3) (aNil)))))) (gtName 7) (sFor (iSeq (eLst (aCons (eVar 5) (aCons (eBin pSub (eC (.int 1)) (eVar 5)) (aNil))))) (gtName 8) (sSeq (sIf (cNot (cVal (ePrim m__law_right (aCons (eVar 7) (aCons (eVar 8) (aCons (eVar 6) (aNil))))))) (sRet (eC (.bl false))) (sNil))
    (sSet 6 (eBin pSub (eC (.int 1)) (eVar 6))))))
    (sRet (eC (.bl true))))))
noncomputable def m__law_cell_right : Fn := mkFn 2 9 b__law_cell_right
theorem e__law_cell_right {x0 x1 : T} {st : Sto} : m__law_cell_right [x0, x1] st = endF st.length (b__law_cell_right [some x0, some x1, none, none, none, none, none, none, none] st) := rfl
noncomputable def b_law : Ss :=
    sSeq (sFor (iRange1 (aCons (ePrim pMax (aCons (eC (.int 1)) (aCons (ePrim pMin (aCons (eC (.int 8)) (aCons (ePrim pLen (aCons (eVar 0) (aNil))) (aNil)))) (aNil)))) (aNil))) (gtName 1) (sIf (cNot (cVal (ePrim m__law_cell_right (aCons (eVar 0) (aCons (eVar 1) (aNil)))))) (sRet (eC (.bl false))) (sNil)))
    (sRet (eC (.bl true)))
noncomputable def m_law : Fn := mkFn 1 2 b_law
theorem e_law {x0 : T} {st : Sto} : m_law [x0] st = endF st.length (b_law [some x0, none] st) := rfl
end NSP

set_option Elab.async false
set_option linter.all false
set_option maxRecDepth 100000
set_option maxHeartbeats 4000000
namespace NSP
open PySem PySem.Spec PyProof.Rows L2 Dn
/-! ### each def means that (printed by gen.py) -/
def topS (i : Nat) : Stmt := PySem.Challenge.pw_steadyhands_k66_guards_of_both_sides.main.body.getD i (.Pass ⟨0, 0, 0, 0⟩)
abbrev st__law_pool : Stmt := topS 24
theorem sc__law_pool : FnScope ["script", "k", "own", "mixed", "cell"] ["script", "k"] (defScope st__law_pool) := ⟨rfl, rfl, rfl, by decide +kernel, rfl, by decide +kernel, by decide +kernel⟩
abbrev st__law_take : Stmt := topS 25
theorem sc__law_take : FnScope ["pool", "many", "found", "mixed"] ["pool", "many"] (defScope st__law_take) := ⟨rfl, rfl, rfl, by decide +kernel, rfl, by decide +kernel, by decide +kernel⟩
abbrev st__law_lines : Stmt := topS 27
theorem sc__law_lines : FnScope ["pool", "rows", "columns", "reach", "found", "row", "column", "line", "number"] ["pool", "rows", "columns", "reach"] (defScope st__law_lines) := ⟨rfl, rfl, rfl, by decide +kernel, rfl, by decide +kernel, by decide +kernel⟩
abbrev st__law_frozen : Stmt := topS 26
theorem sc__law_frozen : FnScope ["lines", "line"] ["lines"] (defScope st__law_frozen) := ⟨rfl, rfl, rfl, by decide +kernel, rfl, by decide +kernel, by decide +kernel⟩
abbrev st__law_game : Stmt := topS 28
theorem sc__law_game : FnScope ["pool", "most", "kind", "reach", "rows", "columns", "first", "line", "number", "row"] ["pool", "most"] (defScope st__law_game) := ⟨rfl, rfl, rfl, by decide +kernel, rfl, by decide +kernel, by decide +kernel⟩
abbrev st_is_integer : Stmt := topS 7
theorem sc_is_integer : FnScope ["value"] ["value"] (defScope st_is_integer) := ⟨rfl, rfl, rfl, by decide +kernel, rfl, by decide +kernel, by decide +kernel⟩
abbrev st_is_within : Stmt := topS 9
theorem sc_is_within : FnScope ["value", "least", "most"] ["value", "least", "most"] (defScope st_is_within) := ⟨rfl, rfl, rfl, by decide +kernel, rfl, by decide +kernel, by decide +kernel⟩
abbrev st_is_a_row : Stmt := topS 10
theorem sc_is_a_row : FnScope ["value", "wide", "number"] ["value", "wide"] (defScope st_is_a_row) := ⟨rfl, rfl, rfl, by decide +kernel, rfl, by decide +kernel, by decide +kernel⟩
abbrev st_is_a_table : Stmt := topS 11
theorem sc_is_a_table : FnScope ["value", "row"] ["value"] (defScope st_is_a_table) := ⟨rfl, rfl, rfl, by decide +kernel, rfl, by decide +kernel, by decide +kernel⟩
abbrev st_are_tables_like : Stmt := topS 12
theorem sc_are_tables_like : FnScope ["value", "rows", "columns", "table"] ["value", "rows", "columns"] (defScope st_are_tables_like) := ⟨rfl, rfl, rfl, by decide +kernel, rfl, by decide +kernel, by decide +kernel⟩
abbrev st_is_a_game : Stmt := topS 13
theorem sc_is_a_game : FnScope ["value"] ["value"] (defScope st_is_a_game) := ⟨rfl, rfl, rfl, by decide +kernel, rfl, by decide +kernel, by decide +kernel⟩
abbrev st_need_game : Stmt := topS 16
theorem sc_need_game : FnScope ["game"] ["game"] (defScope st_need_game) := ⟨rfl, rfl, rfl, by decide +kernel, rfl, by decide +kernel, by decide +kernel⟩
abbrev st_is_a_side : Stmt := topS 14
theorem sc_is_a_side : FnScope ["value"] ["value"] (defScope st_is_a_side) := ⟨rfl, rfl, rfl, by decide +kernel, rfl, by decide +kernel, by decide +kernel⟩
abbrev st_need_side : Stmt := topS 17
theorem sc_need_side : FnScope ["side"] ["side"] (defScope st_need_side) := ⟨rfl, rfl, rfl, by decide +kernel, rfl, by decide +kernel, by decide +kernel⟩
abbrev st_many_of : Stmt := topS 15
theorem sc_many_of : FnScope ["game", "side"] ["game", "side"] (defScope st_many_of) := ⟨rfl, rfl, rfl, by decide +kernel, rfl, by decide +kernel, by decide +kernel⟩
abbrev st_got : Stmt := topS 19
theorem sc_got : FnScope ["game", "side", "own", "others"] ["game", "side", "own", "others"] (defScope st_got) := ⟨rfl, rfl, rfl, by decide +kernel, rfl, by decide +kernel, by decide +kernel⟩
abbrev st_guard_of : Stmt := topS 21
theorem sc_guard_of : FnScope ["game", "side", "mosts", "others", "own"] ["game", "side"] (defScope st_guard_of) := ⟨rfl, rfl, rfl, by decide +kernel, rfl, by decide +kernel, by decide +kernel⟩
abbrev st_guard : Stmt := topS 22
theorem sc_guard : FnScope ["game", "side"] ["game", "side"] (defScope st_guard) := ⟨rfl, rfl, rfl, by decide +kernel, rfl, by decide +kernel, by decide +kernel⟩
abbrev st__law_due : Stmt := topS 29
theorem sc__law_due : FnScope ["game", "side", "lines", "column", "line", "tops"] ["game", "side"] (defScope st__law_due) := ⟨rfl, rfl, rfl, by decide +kernel, rfl, by decide +kernel, by decide +kernel⟩
abbrev st__law_right : Stmt := topS 30
theorem sc__law_right : FnScope ["game", "side", "named", "found", "part"] ["game", "side", "named"] (defScope st__law_right) := ⟨rfl, rfl, rfl, by decide +kernel, rfl, by decide +kernel, by decide +kernel⟩
abbrev st__law_cell_right : Stmt := topS 31
theorem sc__law_cell_right : FnScope ["script", "k", "pool", "game", "other", "first", "named", "asked", "side"] ["script", "k"] (defScope st__law_cell_right) := ⟨rfl, rfl, rfl, by decide +kernel, rfl, by decide +kernel, by decide +kernel⟩
abbrev st_law : Stmt := topS 32
theorem sc_law : FnScope ["script", "k"] ["script"] (defScope st_law) := ⟨rfl, rfl, rfl, by decide +kernel, rfl, by decide +kernel, by decide +kernel⟩
section
variable {P : Program} {w : World} {K : PySem.W.Frag} {mg : Str → Option Value} {base : Heap}
theorem ok__law_pool {f : Addr} {fd : FuncData} (F : Fun K "_law_pool" "_law_pool" st__law_pool f fd) (z_abs : mg "abs" = none) (z_int : mg "int" = none) (z_len : mg "len" = none) (z_max : mg "max" = none) : FnOk P w K mg base CX0 1 f fd ["script", "k"] (SpD K m__law_pool) :=
  fnD (N := ["script", "k", "own", "mixed", "cell"]) F sc__law_pool fun cdv A outer s H E hr =>
    have nd := sc__law_pool.nd
    (ds_cons (ds_set (i := 2) nd (de_op op_addD d_add (de_op op_mulD d_mul de_int (de_var 1)) de_int))
    (ds_cons (ds_if (dt_cmp op_lt d_cmp (de_var 1) (de_callB call_lenD' d_len (by rfl) z_len boot_len (da_cons (de_var 0) da_nil))) (ds_one (ds_set (i := 2) nd (de_callTy call_int1 d_int (by rfl) z_int boot_int (da_cons (de_ix ix_D d_ix (de_var 0) (de_var 1) (fun _ _ => rfl)) da_nil)))) ds_nil)
    (ds_cons (ds_set (i := 3) nd (de_op op_addD d_add (de_op op_addD d_add (de_op op_mulD d_mul de_int (de_callB call_lenD' d_len (by rfl) z_len boot_len (da_cons (de_var 0) da_nil))) (de_op op_mulD d_mul de_int (de_var 1))) de_int))
    (ds_cons (ds_for PassesOwn.never rfl (di_seq (de_var 0)) (pg_name (i := 4) nd (by rfl) (by first | exact Or.inl rfl | exact Or.inr rfl)) gd_name (ds_one (ds_set (i := 3) nd (de_op op_mod d_mod (de_callTy call_int1 d_int (by rfl) z_int boot_int (da_cons (de_op op_addD d_add (de_op op_mulD d_mul (de_var 3) de_int) (de_op op_mod d_mod (de_callTy call_int1 d_int (by rfl) z_int boot_int (da_cons (de_var 4) da_nil)) (de_op op_addD d_add (de_re (de_op op_powD d_pow de_int de_int) (pow_lit (by decide +kernel) (by decide +kernel))) de_int))) da_nil)) (de_op op_addD d_add (de_re (de_op op_powD d_pow de_int de_int) (pow_lit (by decide +kernel) (by decide +kernel))) de_int)))))
    (ds_cons (ds_set (i := 3) nd (de_op op_mod d_mod (de_callTy call_int1 d_int (by rfl) z_int boot_int (da_cons (de_op op_addD d_add (de_op op_addD d_add (de_op op_addD d_add (de_op op_mulD d_mul (de_var 3) de_int) (de_op op_mulD d_mul (de_callB call_abs d_abs (by rfl) z_abs boot_abs (da_cons (de_var 2) da_nil)) de_int)) (de_op op_mulD d_mul (de_callTy call_int1 d_int (by rfl) z_int boot_int (da_cons (de_cmp op_lt d_cmp (de_var 2) de_int) da_nil)) de_int)) (de_op op_mulD d_mul de_int (de_var 1))) da_nil)) (de_op op_addD d_add (de_re (de_op op_powD d_pow de_int de_int) (pow_lit (by decide +kernel) (by decide +kernel))) de_int)))
    (ds_one (ds_ret (de_obj (da_cons (de_callB (call_maxD rfl hr.units) d_max (by rfl) z_max boot_max (da_cons de_int (da_cons (de_op op_sub d_sub (de_callB call_abs d_abs (by rfl) z_abs boot_abs (da_cons (de_var 2) da_nil)) (de_re (de_op op_powD d_pow de_int de_int) (pow_lit (by decide +kernel) (by decide +kernel)))) da_nil))) (da_cons (de_var 3) (da_cons de_int da_nil)))))))))))
theorem ok__law_take {f : Addr} {fd : FuncData} (F : Fun K "_law_take" "_law_take" st__law_take f fd) (z_int : mg "int" = none) : FnOk P w K mg base CX0 1 f fd ["pool", "many"] (SpD K m__law_take) :=
  fnD (N := ["pool", "many", "found", "mixed"]) F sc__law_take fun cdv A outer s H E hr =>
    have nd := sc__law_take.nd
    (ds_cons (ds_if (dt_cmp op_gt d_cmp (de_ix ix_D d_ix (de_var 0) de_int (fun _ _ => rfl)) de_int) (ds_cons (ds_set (i := 2) nd (de_op op_mod d_mod (de_callTy call_int1 d_int (by rfl) z_int boot_int (da_cons (de_ix ix_D d_ix (de_var 0) de_int (fun _ _ => rfl)) da_nil)) (de_var 1)))
    (ds_cons (ds_put (de_op op_fdivW d_div (de_ix ix_D d_ix (de_var 0) de_int (fun _ _ => rfl)) (de_var 1)) (de_var 0) de_int)
    (ds_one (ds_ret (de_var 2))))) ds_nil)
    (ds_cons (ds_put (de_op op_addD d_add (de_ix ix_D d_ix (de_var 0) de_int (fun _ _ => rfl)) de_int) (de_var 0) de_int)
    (ds_cons (ds_set (i := 3) nd (de_op op_mod d_mod (de_callTy call_int1 d_int (by rfl) z_int boot_int (da_cons (de_op op_addD d_add (de_op op_addD d_add (de_ix ix_D d_ix (de_var 0) de_int (fun _ _ => rfl)) (de_op op_mulD d_mul (de_op op_mulD d_mul de_int (de_ix ix_D d_ix (de_var 0) de_int (fun _ _ => rfl))) (de_ix ix_D d_ix (de_var 0) de_int (fun _ _ => rfl)))) (de_op op_mulD d_mul de_int (de_ix ix_D d_ix (de_var 0) de_int (fun _ _ => rfl)))) da_nil)) (de_op op_addD d_add (de_re (de_op op_powD d_pow de_int de_int) (pow_lit (by decide +kernel) (by decide +kernel))) de_int)))
    (ds_cons (ds_set (i := 3) nd (de_op op_mod d_mod (de_callTy call_int1 d_int (by rfl) z_int boot_int (da_cons (de_op op_addD d_add (de_op op_addD d_add (de_op op_mulD d_mul (de_op op_mulD d_mul (de_var 3) (de_var 3)) (de_var 3)) (de_op op_mulD d_mul de_int (de_ix ix_D d_ix (de_var 0) de_int (fun _ _ => rfl)))) de_int) da_nil)) (de_op op_addD d_add (de_re (de_op op_powD d_pow de_int de_int) (pow_lit (by decide +kernel) (by decide +kernel))) de_int)))
    (ds_cons (ds_set (i := 3) nd (de_op op_fdivW d_div (de_op op_mod d_mod (de_callTy call_int1 d_int (by rfl) z_int boot_int (da_cons (de_op op_mulD d_mul (de_var 3) (de_op op_addD d_add (de_var 3) de_int)) da_nil)) (de_op op_addD d_add (de_re (de_op op_powD d_pow de_int de_int) (pow_lit (by decide +kernel) (by decide +kernel))) de_int)) de_int))
    (ds_one (ds_ret (de_op op_mod d_mod (de_callTy call_int1 d_int (by rfl) z_int boot_int (da_cons (de_var 3) da_nil)) (de_var 1)))))))))
theorem ok__law_lines {f : Addr} {fd : FuncData} (F : Fun K "_law_lines" "_law_lines" st__law_lines f fd) (z_range : mg "range" = none) (H__law_take : Has P w K mg base "_law_take" 1 ["pool", "many"] m__law_take) : FnOk P w K mg base CX0 2 f fd ["pool", "rows", "columns", "reach"] (SpD K m__law_lines) :=
  fnD (N := ["pool", "rows", "columns", "reach", "found", "row", "column", "line", "number"]) F sc__law_lines fun cdv A outer s H E hr =>
    have nd := sc__law_lines.nd
    (ds_cons (ds_set (i := 4) nd (de_obj da_nil))
    (ds_cons (ds_for PassesOwn.never rfl (di_range1 (by rfl) z_range (da_cons (de_var 1) da_nil)) (pg_name (i := 5) nd (by rfl) (by first | exact Or.inl rfl | exact Or.inr rfl)) gd_name (ds_one (ds_expr (de_meth PySem.F.slot_list_append PySem.F.type_list_append mt_append d_append (de_var 4) (da_cons (de_lc [("column", 6)] rfl nd (di_range1 (by rfl) z_range (da_cons (de_var 2) da_nil)) (blkOk_by (by kernel_rfl)) (fun _ _ _ _ _ => (pg_name (i := 6) nd (by rfl) (by first | exact Or.inl rfl | exact Or.inr rfl))) gd_name (sets_name (by decide)) (fun _ _ _ _ _ => dts_nil) (fun _ _ _ _ _ => (de_op op_sub d_sub (de_call H__law_take (hr.mono (by decide)) (by rfl) (da_cons (de_var 0) (da_cons (de_var 3) da_nil))) (de_op op_fdivW d_div (de_var 3) de_int)))) da_nil)))))
    (ds_cons (ds_if (dt_cmp (op_eqD hr.units) d_eq (de_var 3) de_int) (ds_one (ds_setLc (i := 4) [("line", 7)] rfl nd (di_seq (de_var 4)) (blkOk_by (by kernel_rfl)) (fun _ _ _ _ _ => (pg_name (i := 7) nd (by rfl) (by first | exact Or.inl rfl | exact Or.inr rfl))) gd_name (sets_name (by decide)) (fun _ _ _ _ _ => dts_nil) (fun _ _ _ _ _ => (de_lc [("number", 8)] rfl nd (di_seq (de_var 7)) (blkOk_by (by kernel_rfl)) (fun _ _ _ _ _ => (pg_name (i := 8) nd (by rfl) (by first | exact Or.inl rfl | exact Or.inr rfl))) gd_name (sets_name (by decide)) (fun _ _ _ _ _ => dts_nil) (fun _ _ _ _ _ => (de_ix ix_D d_ix (de_lst (da_cons (de_un un_neg d_neg de_int) (da_cons de_int (da_cons de_int (da_cons de_int da_nil))))) (de_op op_addD d_add (de_var 8) de_int) (fun _ _ => rfl))))) (sw_true rfl rfl rfl (by kernel_rfl)))) ds_nil)
    (ds_one (ds_ret (de_frz (de_var 4)))))))
theorem ok__law_frozen {f : Addr} {fd : FuncData} (F : Fun K "_law_frozen" "_law_frozen" st__law_frozen f fd) (z_tuple : mg "tuple" = none) : FnOk P w K mg base CX0 1 f fd ["lines"] (SpD K m__law_frozen) :=
  fnD (N := ["lines", "line"]) F sc__law_frozen fun cdv A outer s H E hr =>
    have nd := sc__law_frozen.nd
    (ds_one (ds_ret (de_callTy call_tuple_of d_tuple (by rfl) z_tuple boot_tuple (da_cons (de_lc [("line", 1)] rfl nd (di_seq (de_var 0)) (blkOk_by (by kernel_rfl)) (fun _ _ _ _ _ => (pg_name (i := 1) nd (by rfl) (by first | exact Or.inl rfl | exact Or.inr rfl))) gd_name (sets_name (by decide)) (fun _ _ _ _ _ => dts_nil) (fun _ _ _ _ _ => (de_callTy call_tuple_of d_tuple (by rfl) z_tuple boot_tuple (da_cons (de_var 1) da_nil)))) da_nil))))
theorem ok__law_game {f : Addr} {fd : FuncData} (F : Fun K "_law_game" "_law_game" st__law_game f fd) (z_range : mg "range" = none) (z_tuple : mg "tuple" = none) (H__law_take : Has P w K mg base "_law_take" 1 ["pool", "many"] m__law_take) (H__law_lines : Has P w K mg base "_law_lines" 2 ["pool", "rows", "columns", "reach"] m__law_lines) (H__law_frozen : Has P w K mg base "_law_frozen" 1 ["lines"] m__law_frozen) : FnOk P w K mg base CX0 3 f fd ["pool", "most"] (SpD K m__law_game) :=
  fnD (N := ["pool", "most", "kind", "reach", "rows", "columns", "first", "line", "number", "row"]) F sc__law_game fun cdv A outer s H E hr =>
    have nd := sc__law_game.nd
    (ds_cons (ds_par (i := 2) (j := 3) rfl nd (by decide) (da_cons (de_call H__law_take (hr.mono (by decide)) (by rfl) (da_cons (de_var 0) (da_cons de_int da_nil))) (da_cons (de_ix ix_D d_ix (de_lst (da_cons de_int (da_cons de_int (da_cons de_int (da_cons de_int (da_cons de_int (da_cons de_int (da_cons de_int da_nil)))))))) (de_call H__law_take (hr.mono (by decide)) (by rfl) (da_cons (de_var 0) (da_cons de_int da_nil))) (fun _ _ => rfl)) da_nil)))
    (ds_cons (ds_par (i := 4) (j := 5) rfl nd (by decide) (da_cons (de_op op_addD d_add de_int (de_call H__law_take (hr.mono (by decide)) (by rfl) (da_cons (de_var 0) (da_cons (de_var 1) da_nil)))) (da_cons (de_op op_addD d_add de_int (de_call H__law_take (hr.mono (by decide)) (by rfl) (da_cons (de_var 0) (da_cons (de_var 1) da_nil)))) da_nil)))
    (ds_cons (ds_if (dt_cmp (op_eqD hr.units) d_eq (de_var 2) de_int) (ds_one (ds_set (i := 5) nd (de_var 4))) ds_nil)
    (ds_cons (ds_set (i := 6) nd (de_call H__law_lines (hr.mono (by decide)) (by rfl) (da_cons (de_var 0) (da_cons (de_var 4) (da_cons (de_var 5) (da_cons (de_var 3) da_nil))))))
    (ds_cons (ds_if (dt_cmp (op_eqD hr.units) d_eq (de_var 2) de_int) (ds_one (ds_ret (de_tup (da_cons (de_call H__law_frozen (hr.mono (by decide)) (by rfl) (da_cons (de_var 6) da_nil)) (da_cons (de_call H__law_frozen (hr.mono (by decide)) (by rfl) (da_cons (de_lc [("line", 7)] rfl nd (di_seq (de_var 6)) (blkOk_by (by kernel_rfl)) (fun _ _ _ _ _ => (pg_name (i := 7) nd (by rfl) (by first | exact Or.inl rfl | exact Or.inr rfl))) gd_name (sets_name (by decide)) (fun _ _ _ _ _ => dts_nil) (fun _ _ _ _ _ => (de_lc [("number", 8)] rfl nd (di_seq (de_var 7)) (blkOk_by (by kernel_rfl)) (fun _ _ _ _ _ => (pg_name (i := 8) nd (by rfl) (by first | exact Or.inl rfl | exact Or.inr rfl))) gd_name (sets_name (by decide)) (fun _ _ _ _ _ => dts_nil) (fun _ _ _ _ _ => (de_un un_neg d_neg (de_var 8)))))) da_nil)) da_nil))))) ds_nil)
    (ds_cons (ds_if (dt_cmp (op_eqD hr.units) d_eq (de_var 2) de_int) (ds_one (ds_ret (de_tup (da_cons (de_call H__law_frozen (hr.mono (by decide)) (by rfl) (da_cons (de_var 6) da_nil)) (da_cons (de_call H__law_frozen (hr.mono (by decide)) (by rfl) (da_cons (de_var 6) da_nil)) da_nil))))) ds_nil)
    (ds_cons (ds_if (dt_cmp (op_eqD hr.units) d_eq (de_var 2) de_int) (ds_one (ds_ret (de_tup (da_cons (de_call H__law_frozen (hr.mono (by decide)) (by rfl) (da_cons (de_var 6) da_nil)) (da_cons (de_callTy call_tuple_of d_tuple (by rfl) z_tuple boot_tuple (da_cons (de_lc [("row", 9)] rfl nd (di_range1 (by rfl) z_range (da_cons (de_var 4) da_nil)) (blkOk_by (by kernel_rfl)) (fun _ _ _ _ _ => (pg_name (i := 9) nd (by rfl) (by first | exact Or.inl rfl | exact Or.inr rfl))) gd_name (sets_name (by decide)) (fun _ _ _ _ _ => dts_nil) (fun _ _ _ _ _ => (de_callTy call_tuple_of d_tuple (by rfl) z_tuple boot_tuple (da_cons (de_lc [("line", 7)] rfl nd (di_seq (de_var 6)) (blkOk_by (by kernel_rfl)) (fun _ _ _ _ _ => (pg_name (i := 7) nd (by rfl) (by first | exact Or.inl rfl | exact Or.inr rfl))) gd_name (sets_name (by decide)) (fun _ _ _ _ _ => dts_nil) (fun _ _ _ _ _ => (de_ix ix_D d_ix (de_var 7) (de_var 9) (fun _ _ => rfl)))) da_nil)))) da_nil)) da_nil))))) ds_nil)
    (ds_one (ds_ret (de_tup (da_cons (de_call H__law_frozen (hr.mono (by decide)) (by rfl) (da_cons (de_var 6) da_nil)) (da_cons (de_call H__law_frozen (hr.mono (by decide)) (by rfl) (da_cons (de_call H__law_lines (hr.mono (by decide)) (by rfl) (da_cons (de_var 0) (da_cons (de_var 4) (da_cons (de_var 5) (da_cons (de_var 3) da_nil))))) da_nil)) da_nil))))))))))))
theorem ok_is_integer {f : Addr} {fd : FuncData} (F : Fun K "is_integer" "is_integer" st_is_integer f fd) (z_bool : mg "bool" = none) (z_int : mg "int" = none) (z_isinstance : mg "isinstance" = none) : FnOk P w K mg base CX0 1 f fd ["value"] (SpD K m_is_integer) :=
  fnD (N := ["value"]) F sc_is_integer fun cdv A outer s H E hr =>
    have nd := sc_is_integer.nd
    (ds_one (ds_ret (de_and (de_callB call_isi d_isi (by rfl) z_isinstance boot_isinstance (da_cons (de_var 0) (da_cons (de_ty (by rfl) z_int boot_int) da_nil))) (de_one (de_not (de_callB call_isi d_isi (by rfl) z_isinstance boot_isinstance (da_cons (de_var 0) (da_cons (de_ty (by rfl) z_bool boot_bool) da_nil))))))))
theorem ok_is_within {f : Addr} {fd : FuncData} (F : Fun K "is_within" "is_within" st_is_within f fd) (H_is_integer : Has P w K mg base "is_integer" 1 ["value"] m_is_integer) : FnOk P w K mg base CX0 2 f fd ["value", "least", "most"] (SpD K m_is_within) :=
  fnD (N := ["value", "least", "most"]) F sc_is_within fun cdv A outer s H E hr =>
    have nd := sc_is_within.nd
    (ds_one (ds_ret (de_and (de_call H_is_integer (hr.mono (by decide)) (by rfl) (da_cons (de_var 0) da_nil)) (de_one (de_chain op_le op_le d_cmp d_cmp (de_var 1) (de_var 0) (de_var 2))))))
theorem ok_is_a_row {f : Addr} {fd : FuncData} (F : Fun K "is_a_row" "is_a_row" st_is_a_row f fd) (z_all : mg "all" = none) (z_isinstance : mg "isinstance" = none) (z_len : mg "len" = none) (z_tuple : mg "tuple" = none) (c_MOST_NUMBER : ∃ t, mg "MOST_NUMBER" = some (.int 1000 t)) (H_is_within : Has P w K mg base "is_within" 2 ["value", "least", "most"] m_is_within) : FnOk P w K mg base CX0 3 f fd ["value", "wide"] (SpD K m_is_a_row) :=
  fnD (N := ["value", "wide", "number"]) F sc_is_a_row fun cdv A outer s H E hr =>
    have nd := sc_is_a_row.nd
    (ds_cons (ds_if ((dw_or (dt_not (dt_val (de_callB call_isi d_isi (by rfl) z_isinstance boot_isinstance (da_cons (de_var 0) (da_cons (de_ty (by rfl) z_tuple boot_tuple) da_nil))))) (dw_or1 (dt_cmp (op_neD hr.units) d_ne (de_callB call_lenD' d_len (by rfl) z_len boot_len (da_cons (de_var 0) da_nil)) (de_var 1))))).pt (ds_one (ds_ret de_bl)) ds_nil)
    (ds_one (ds_ret (de_callB (cr_all rfl) d_all (by rfl) z_all boot_all (da_cons (de_lc [("number", 2)] rfl nd (di_seq (de_var 0)) (blkOk_by (by kernel_rfl)) (fun _ _ _ _ _ => (pg_name (i := 2) nd (by rfl) (by first | exact Or.inl rfl | exact Or.inr rfl))) gd_name (sets_name (by decide)) (fun _ _ _ _ _ => dts_nil) (fun _ _ _ _ _ => (de_call H_is_within (hr.mono (by decide)) (by rfl) (da_cons (de_var 2) (da_cons (de_un un_neg d_neg (de_gint (by rfl) c_MOST_NUMBER)) (da_cons (de_gint (by rfl) c_MOST_NUMBER) da_nil)))))) da_nil)))))
theorem ok_is_a_table {f : Addr} {fd : FuncData} (F : Fun K "is_a_table" "is_a_table" st_is_a_table f fd) (z_all : mg "all" = none) (z_isinstance : mg "isinstance" = none) (z_len : mg "len" = none) (z_tuple : mg "tuple" = none) (c_MOST_CHOICES : ∃ t, mg "MOST_CHOICES" = some (.int 5 t)) (H_is_a_row : Has P w K mg base "is_a_row" 3 ["value", "wide"] m_is_a_row) : FnOk P w K mg base CX0 4 f fd ["value"] (SpD K m_is_a_table) :=
  fnD (N := ["value", "row"]) F sc_is_a_table fun cdv A outer s H E hr =>
    have nd := sc_is_a_table.nd
    (ds_cons (ds_if ((dw_or (dt_not (dt_val (de_callB call_isi d_isi (by rfl) z_isinstance boot_isinstance (da_cons (de_var 0) (da_cons (de_ty (by rfl) z_tuple boot_tuple) da_nil))))) (dw_or (dt_not (dt_chain op_le op_le d_cmp d_cmp de_int (de_callB call_lenD' d_len (by rfl) z_len boot_len (da_cons (de_var 0) da_nil)) (de_gint (by rfl) c_MOST_CHOICES))) (dw_or1 (dt_not (dt_val (de_callB call_isi d_isi (by rfl) z_isinstance boot_isinstance (da_cons (de_ix ix_D d_ix (de_var 0) de_int (fun _ _ => rfl)) (da_cons (de_ty (by rfl) z_tuple boot_tuple) da_nil))))))))).pt (ds_one (ds_ret de_bl)) ds_nil)
    (ds_one (ds_ret (de_and (de_chain op_le op_le d_cmp d_cmp de_int (de_callB call_lenD' d_len (by rfl) z_len boot_len (da_cons (de_ix ix_D d_ix (de_var 0) de_int (fun _ _ => rfl)) da_nil)) (de_gint (by rfl) c_MOST_CHOICES)) (de_one (de_callB (cr_all rfl) d_all (by rfl) z_all boot_all (da_cons (de_lc [("row", 1)] rfl nd (di_seq (de_var 0)) (blkOk_by (by kernel_rfl)) (fun _ _ _ _ _ => (pg_name (i := 1) nd (by rfl) (by first | exact Or.inl rfl | exact Or.inr rfl))) gd_name (sets_name (by decide)) (fun _ _ _ _ _ => dts_nil) (fun _ _ _ _ _ => (de_call H_is_a_row (hr.mono (by decide)) (by rfl) (da_cons (de_var 1) (da_cons (de_callB call_lenD' d_len (by rfl) z_len boot_len (da_cons (de_ix ix_D d_ix (de_var 0) de_int (fun _ _ => rfl)) da_nil)) da_nil))))) da_nil)))))))
theorem ok_are_tables_like {f : Addr} {fd : FuncData} (F : Fun K "are_tables_like" "are_tables_like" st_are_tables_like f fd) (z_all : mg "all" = none) (z_isinstance : mg "isinstance" = none) (z_len : mg "len" = none) (z_tuple : mg "tuple" = none) (H_is_a_table : Has P w K mg base "is_a_table" 4 ["value"] m_is_a_table) : FnOk P w K mg base CX0 5 f fd ["value", "rows", "columns"] (SpD K m_are_tables_like) :=
  fnD (N := ["value", "rows", "columns", "table"]) F sc_are_tables_like fun cdv A outer s H E hr =>
    have nd := sc_are_tables_like.nd
    (ds_cons (ds_if ((dw_or (dt_not (dt_val (de_callB call_isi d_isi (by rfl) z_isinstance boot_isinstance (da_cons (de_var 0) (da_cons (de_ty (by rfl) z_tuple boot_tuple) da_nil))))) (dw_or (dt_cmp (op_neD hr.units) d_ne (de_callB call_lenD' d_len (by rfl) z_len boot_len (da_cons (de_var 0) da_nil)) de_int) (dw_or1 (dt_not (dt_val (de_callB (cr_all rfl) d_all (by rfl) z_all boot_all (da_cons (de_lc [("table", 3)] rfl nd (di_seq (de_var 0)) (blkOk_by (by kernel_rfl)) (fun _ _ _ _ _ => (pg_name (i := 3) nd (by rfl) (by first | exact Or.inl rfl | exact Or.inr rfl))) gd_name (sets_name (by decide)) (fun _ _ _ _ _ => dts_nil) (fun _ _ _ _ _ => (de_call H_is_a_table (hr.mono (by decide)) (by rfl) (da_cons (de_var 3) da_nil)))) da_nil)))))))).pt (ds_one (ds_ret de_bl)) ds_nil)
    (ds_one (ds_ret (de_callB (cr_all rfl) d_all (by rfl) z_all boot_all (da_cons (de_lc [("table", 3)] rfl nd (di_seq (de_var 0)) (blkOk_by (by kernel_rfl)) (fun _ _ _ _ _ => (pg_name (i := 3) nd (by rfl) (by first | exact Or.inl rfl | exact Or.inr rfl))) gd_name (sets_name (by decide)) (fun _ _ _ _ _ => dts_nil) (fun _ _ _ _ _ => (de_and (de_cmp (op_eqD hr.units) d_eq (de_callB call_lenD' d_len (by rfl) z_len boot_len (da_cons (de_var 3) da_nil)) (de_var 1)) (de_one (de_cmp (op_eqD hr.units) d_eq (de_callB call_lenD' d_len (by rfl) z_len boot_len (da_cons (de_ix ix_D d_ix (de_var 3) de_int (fun _ _ => rfl)) da_nil)) (de_var 2)))))) da_nil)))))
theorem ok_is_a_game {f : Addr} {fd : FuncData} (F : Fun K "is_a_game" "is_a_game" st_is_a_game f fd) (z_isinstance : mg "isinstance" = none) (z_len : mg "len" = none) (z_tuple : mg "tuple" = none) (H_is_a_table : Has P w K mg base "is_a_table" 4 ["value"] m_is_a_table) (H_are_tables_like : Has P w K mg base "are_tables_like" 5 ["value", "rows", "columns"] m_are_tables_like) : FnOk P w K mg base CX0 6 f fd ["value"] (SpD K m_is_a_game) :=
  fnD (N := ["value"]) F sc_is_a_game fun cdv A outer s H E hr =>
    have nd := sc_is_a_game.nd
    (ds_cons (ds_if ((dw_or (dt_not (dt_val (de_callB call_isi d_isi (by rfl) z_isinstance boot_isinstance (da_cons (de_var 0) (da_cons (de_ty (by rfl) z_tuple boot_tuple) da_nil))))) (dw_or (dt_cmp (op_neD hr.units) d_ne (de_callB call_lenD' d_len (by rfl) z_len boot_len (da_cons (de_var 0) da_nil)) de_int) (dw_or1 (dt_not (dt_val (de_call H_is_a_table (hr.mono (by decide)) (by rfl) (da_cons (de_ix ix_D d_ix (de_var 0) de_int (fun _ _ => rfl)) da_nil)))))))).pt (ds_one (ds_ret de_bl)) ds_nil)
    (ds_one (ds_ret (de_call H_are_tables_like (hr.mono (by decide)) (by rfl) (da_cons (de_var 0) (da_cons (de_callB call_lenD' d_len (by rfl) z_len boot_len (da_cons (de_ix ix_D d_ix (de_var 0) de_int (fun _ _ => rfl)) da_nil)) (da_cons (de_callB call_lenD' d_len (by rfl) z_len boot_len (da_cons (de_ix ix_D d_ix (de_ix ix_D d_ix (de_var 0) de_int (fun _ _ => rfl)) de_int (fun _ _ => rfl)) da_nil)) da_nil)))))))
theorem ok_need_game {f : Addr} {fd : FuncData} (F : Fun K "need_game" "need_game" st_need_game f fd) (H_is_a_game : Has P w K mg base "is_a_game" 6 ["value"] m_is_a_game) : FnOk P w K mg base CX0 7 f fd ["game"] (SpD K m_need_game) :=
  fnD (N := ["game"]) F sc_need_game fun cdv A outer s H E hr =>
    have nd := sc_need_game.nd
    (ds_one (ds_if (dt_not (dt_val (de_call H_is_a_game (hr.mono (by decide)) (by rfl) (da_cons (de_var 0) da_nil)))) (ds_one ds_no) ds_nil))
theorem ok_is_a_side {f : Addr} {fd : FuncData} (F : Fun K "is_a_side" "is_a_side" st_is_a_side f fd) (H_is_within : Has P w K mg base "is_within" 2 ["value", "least", "most"] m_is_within) : FnOk P w K mg base CX0 3 f fd ["value"] (SpD K m_is_a_side) :=
  fnD (N := ["value"]) F sc_is_a_side fun cdv A outer s H E hr =>
    have nd := sc_is_a_side.nd
    (ds_one (ds_ret (de_call H_is_within (hr.mono (by decide)) (by rfl) (da_cons (de_var 0) (da_cons de_int (da_cons de_int da_nil))))))
theorem ok_need_side {f : Addr} {fd : FuncData} (F : Fun K "need_side" "need_side" st_need_side f fd) (H_is_a_side : Has P w K mg base "is_a_side" 3 ["value"] m_is_a_side) : FnOk P w K mg base CX0 4 f fd ["side"] (SpD K m_need_side) :=
  fnD (N := ["side"]) F sc_need_side fun cdv A outer s H E hr =>
    have nd := sc_need_side.nd
    (ds_one (ds_if (dt_not (dt_val (de_call H_is_a_side (hr.mono (by decide)) (by rfl) (da_cons (de_var 0) da_nil)))) (ds_one ds_no) ds_nil))
theorem ok_many_of {f : Addr} {fd : FuncData} (F : Fun K "many_of" "many_of" st_many_of f fd) (z_len : mg "len" = none) : FnOk P w K mg base CX0 1 f fd ["game", "side"] (SpD K m_many_of) :=
  fnD (N := ["game", "side"]) F sc_many_of fun cdv A outer s H E hr =>
    have nd := sc_many_of.nd
    (ds_one (ds_ret (de_if (dt_cmp (op_eqD hr.units) d_eq (de_var 1) de_int) (de_callB call_lenD' d_len (by rfl) z_len boot_len (da_cons (de_ix ix_D d_ix (de_var 0) de_int (fun _ _ => rfl)) da_nil)) (de_callB call_lenD' d_len (by rfl) z_len boot_len (da_cons (de_ix ix_D d_ix (de_ix ix_D d_ix (de_var 0) de_int (fun _ _ => rfl)) de_int (fun _ _ => rfl)) da_nil)))))
theorem ok_got {f : Addr} {fd : FuncData} (F : Fun K "got" "got" st_got f fd)  : FnOk P w K mg base CX0 1 f fd ["game", "side", "own", "others"] (SpD K m_got) :=
  fnD (N := ["game", "side", "own", "others"]) F sc_got fun cdv A outer s H E hr =>
    have nd := sc_got.nd
    (ds_one (ds_ret (de_if (dt_cmp (op_eqD hr.units) d_eq (de_var 1) de_int) (de_ix ix_D d_ix (de_ix ix_D d_ix (de_ix ix_D d_ix (de_var 0) de_int (fun _ _ => rfl)) (de_var 2) (fun _ _ => rfl)) (de_var 3) (fun _ _ => rfl)) (de_ix ix_D d_ix (de_ix ix_D d_ix (de_ix ix_D d_ix (de_var 0) de_int (fun _ _ => rfl)) (de_var 3) (fun _ _ => rfl)) (de_var 2) (fun _ _ => rfl)))))
theorem ok_guard_of {f : Addr} {fd : FuncData} (F : Fun K "guard_of" "guard_of" st_guard_of f fd) (z_max : mg "max" = none) (z_min : mg "min" = none) (z_range : mg "range" = none) (H_many_of : Has P w K mg base "many_of" 1 ["game", "side"] m_many_of) (H_got : Has P w K mg base "got" 1 ["game", "side", "own", "others"] m_got) : FnOk P w K mg base CX0 2 f fd ["game", "side"] (SpD K m_guard_of) :=
  fnD (N := ["game", "side", "mosts", "others", "own"]) F sc_guard_of fun cdv A outer s H E hr =>
    have nd := sc_guard_of.nd
    (ds_cons (ds_set (i := 2) nd (de_obj da_nil))
    (ds_cons (ds_for PassesOwn.never rfl (di_range1 (by rfl) z_range (da_cons (de_call H_many_of (hr.mono (by decide)) (by rfl) (da_cons (de_var 0) (da_cons (de_op op_sub d_sub de_int (de_var 1)) da_nil))) da_nil)) (pg_name (i := 3) nd (by rfl) (by first | exact Or.inl rfl | exact Or.inr rfl)) gd_name (ds_one (ds_expr (de_meth PySem.F.slot_list_append PySem.F.type_list_append mt_append d_append (de_var 2) (da_cons (de_callB (call_maxD rfl hr.units) d_max (by rfl) z_max boot_max (da_cons (de_lc [("own", 4)] rfl nd (di_range1 (by rfl) z_range (da_cons (de_call H_many_of (hr.mono (by decide)) (by rfl) (da_cons (de_var 0) (da_cons (de_var 1) da_nil))) da_nil)) (blkOk_by (by kernel_rfl)) (fun _ _ _ _ _ => (pg_name (i := 4) nd (by rfl) (by first | exact Or.inl rfl | exact Or.inr rfl))) gd_name (sets_name (by decide)) (fun _ _ _ _ _ => dts_nil) (fun _ _ _ _ _ => (de_call H_got (hr.mono (by decide)) (by rfl) (da_cons (de_var 0) (da_cons (de_var 1) (da_cons (de_var 4) (da_cons (de_var 3) da_nil))))))) da_nil)) da_nil)))))
    (ds_one (ds_ret (de_tup (da_cons (de_callB (call_minD rfl hr.units) d_min (by rfl) z_min boot_min (da_cons (de_var 2) da_nil)) (da_cons (de_meth PySem.F.slot_list_index PySem.F.type_list_index mt_index d_index (de_var 2) (da_cons (de_callB (call_minD rfl hr.units) d_min (by rfl) z_min boot_min (da_cons (de_var 2) da_nil)) da_nil)) da_nil)))))))
theorem ok_guard {f : Addr} {fd : FuncData} (F : Fun K "guard" "guard" st_guard f fd) (H_need_game : Has P w K mg base "need_game" 7 ["game"] m_need_game) (H_need_side : Has P w K mg base "need_side" 4 ["side"] m_need_side) (H_guard_of : Has P w K mg base "guard_of" 2 ["game", "side"] m_guard_of) : FnOk P w K mg base CX0 8 f fd ["game", "side"] (SpD K m_guard) :=
  fnD (N := ["game", "side"]) F sc_guard fun cdv A outer s H E hr =>
    have nd := sc_guard.nd
    (ds_cons (ds_expr (de_call H_need_game (hr.mono (by decide)) (by rfl) (da_cons (de_var 0) da_nil)))
    (ds_cons (ds_expr (de_call H_need_side (hr.mono (by decide)) (by rfl) (da_cons (de_var 1) da_nil)))
    (ds_one (ds_ret (de_call H_guard_of (hr.mono (by decide)) (by rfl) (da_cons (de_var 0) (da_cons (de_var 1) da_nil)))))))
theorem ok__law_due {f : Addr} {fd : FuncData} (F : Fun K "_law_due" "_law_due" st__law_due f fd) (z_len : mg "len" = none) (z_max : mg "max" = none) (z_min : mg "min" = none) (z_range : mg "range" = none) : FnOk P w K mg base CX0 1 f fd ["game", "side"] (SpD K m__law_due) :=
  fnD (N := ["game", "side", "lines", "column", "line", "tops"]) F sc__law_due fun cdv A outer s H E hr =>
    have nd := sc__law_due.nd
    (ds_cons (ds_set (i := 2) nd (de_ix ix_D d_ix (de_var 0) de_int (fun _ _ => rfl)))
    (ds_cons (ds_if (dt_cmp (op_eqD hr.units) d_eq (de_var 1) de_int) (ds_one (ds_setLc (i := 2) [("column", 3)] rfl nd (di_range1 (by rfl) z_range (da_cons (de_callB call_lenD' d_len (by rfl) z_len boot_len (da_cons (de_ix ix_D d_ix (de_ix ix_D d_ix (de_var 0) de_int (fun _ _ => rfl)) de_int (fun _ _ => rfl)) da_nil)) da_nil)) (blkOk_by (by kernel_rfl)) (fun _ _ _ _ _ => (pg_name (i := 3) nd (by rfl) (by first | exact Or.inl rfl | exact Or.inr rfl))) gd_name (sets_name (by decide)) (fun _ _ _ _ _ => dts_nil) (fun _ _ _ _ _ => (de_lc [("line", 4)] rfl nd (di_seq (de_ix ix_D d_ix (de_var 0) de_int (fun _ _ => rfl))) (blkOk_by (by kernel_rfl)) (fun _ _ _ _ _ => (pg_name (i := 4) nd (by rfl) (by first | exact Or.inl rfl | exact Or.inr rfl))) gd_name (sets_name (by decide)) (fun _ _ _ _ _ => dts_nil) (fun _ _ _ _ _ => (de_ix ix_D d_ix (de_var 4) (de_var 3) (fun _ _ => rfl))))) (sw_true rfl rfl rfl (by kernel_rfl)))) ds_nil)
    (ds_cons (ds_setLc (i := 5) [("line", 4)] rfl nd (di_seq (de_var 2)) (blkOk_by (by kernel_rfl)) (fun _ _ _ _ _ => (pg_name (i := 4) nd (by rfl) (by first | exact Or.inl rfl | exact Or.inr rfl))) gd_name (sets_name (by decide)) (fun _ _ _ _ _ => dts_nil) (fun _ _ _ _ _ => (de_callB (call_maxD rfl hr.units) d_max (by rfl) z_max boot_max (da_cons (de_var 4) da_nil))) (sw_true rfl rfl rfl (by kernel_rfl)))
    (ds_one (ds_ret (de_tup (da_cons (de_callB (call_minD rfl hr.units) d_min (by rfl) z_min boot_min (da_cons (de_var 5) da_nil)) (da_cons (de_meth PySem.F.slot_list_index PySem.F.type_list_index mt_index d_index (de_var 5) (da_cons (de_callB (call_minD rfl hr.units) d_min (by rfl) z_min boot_min (da_cons (de_var 5) da_nil)) da_nil)) da_nil))))))))
theorem ok__law_right {f : Addr} {fd : FuncData} (F : Fun K "_law_right" "_law_right" st__law_right f fd) (z_bool : mg "bool" = none) (z_int : mg "int" = none) (z_isinstance : mg "isinstance" = none) (z_len : mg "len" = none) (z_tuple : mg "tuple" = none) (H_guard : Has P w K mg base "guard" 8 ["game", "side"] m_guard) (H__law_due : Has P w K mg base "_law_due" 1 ["game", "side"] m__law_due) (KH_guard_1_0 : HasK P w K mg base "guard" 8 ["game", "side"] ["side", "game"] 0 [1, 0] m_guard) : FnOk P w K mg base CX0 9 f fd ["game", "side", "named"] (SpD K m__law_right) :=
  fnD (N := ["game", "side", "named", "found", "part"]) F sc__law_right fun cdv A outer s H E hr =>
    have nd := sc__law_right.nd
    (ds_cons (ds_set (i := 3) nd (de_if (dt_cmp (op_eqD hr.units) d_eq (de_var 2) de_int) (de_callK0 KH_guard_1_0 (hr.mono (by decide)) (by rfl) (dk_cons (de_var 1) (dk_cons (de_var 0) dk_nil))) (de_call H_guard (hr.mono (by decide)) (by rfl) (da_cons (de_var 0) (da_cons (de_var 1) da_nil)))))
    (ds_cons (ds_if ((dw_or (dt_not (dt_val (de_callB call_isi d_isi (by rfl) z_isinstance boot_isinstance (da_cons (de_var 3) (da_cons (de_ty (by rfl) z_tuple boot_tuple) da_nil))))) (dw_or1 (dt_cmp (op_neD hr.units) d_ne (de_callB call_lenD' d_len (by rfl) z_len boot_len (da_cons (de_var 3) da_nil)) de_int)))).pt (ds_one (ds_ret de_bl)) ds_nil)
    (ds_cons (ds_for PassesOwn.never rfl (di_seq (de_var 3)) (pg_name (i := 4) nd (by rfl) (by first | exact Or.inl rfl | exact Or.inr rfl)) gd_name (ds_one (ds_if ((dw_or (dt_not (dt_val (de_callB call_isi d_isi (by rfl) z_isinstance boot_isinstance (da_cons (de_var 4) (da_cons (de_ty (by rfl) z_int boot_int) da_nil))))) (dw_or1 (dt_val (de_callB call_isi d_isi (by rfl) z_isinstance boot_isinstance (da_cons (de_var 4) (da_cons (de_ty (by rfl) z_bool boot_bool) da_nil))))))).pt (ds_one (ds_ret de_bl)) ds_nil)))
    (ds_one (ds_ret (de_cmp (op_eqD hr.units) d_eq (de_var 3) (de_call H__law_due (hr.mono (by decide)) (by rfl) (da_cons (de_var 0) (da_cons (de_var 1) da_nil)))))))))
theorem ok__law_cell_right {f : Addr} {fd : FuncData} (F : Fun K "_law_cell_right" "_law_cell_right" st__law_cell_right f fd) (H__law_pool : Has P w K mg base "_law_pool" 1 ["script", "k"] m__law_pool) (H__law_game : Has P w K mg base "_law_game" 3 ["pool", "most"] m__law_game) (H__law_take : Has P w K mg base "_law_take" 1 ["pool", "many"] m__law_take) (H__law_right : Has P w K mg base "_law_right" 9 ["game", "side", "named"] m__law_right) : FnOk P w K mg base CX0 10 f fd ["script", "k"] (SpD K m__law_cell_right) :=
  fnD (N := ["script", "k", "pool", "game", "other", "first", "named", "asked", "side"]) F sc__law_cell_right fun cdv A outer s H E hr =>
    have nd := sc__law_cell_right.nd
    (ds_cons (ds_set (i := 2) nd (de_call H__law_pool (hr.mono (by decide)) (by rfl) (da_cons (de_var 0) (da_cons (de_var 1) da_nil))))
    (ds_cons (ds_par (i := 3) (j := 4) rfl nd (by decide) (da_cons (de_call H__law_game (hr.mono (by decide)) (by rfl) (da_cons (de_var 2) (da_cons de_int da_nil))) (da_cons (de_call H__law_game (hr.mono (by decide)) (by rfl) (da_cons (de_var 2) (da_cons de_int da_nil))) da_nil)))
    (ds_cons (ds_par (i := 5) (j := 6) rfl nd (by decide) (da_cons (de_call H__law_take (hr.mono (by decide)) (by rfl) (da_cons (de_var 2) (da_cons de_int da_nil))) (da_cons (de_call H__law_take (hr.mono (by decide)) (by rfl) (da_cons (de_var 2) (da_cons de_int da_nil))) da_nil)))
    (ds_cons (ds_for PassesOwn.never rfl (di_seq (de_lst (da_cons (de_var 3) (da_cons (de_var 4) (da_cons (de_var 3) da_nil))))) (pg_name (i := 7) nd (by rfl) (by first | exact Or.inl rfl | exact Or.inr rfl)) gd_name (ds_one (ds_for PassesOwn.never rfl (di_seq (de_lst (da_cons (de_var 5) (da_cons (de_op op_sub d_sub de_int (de_var 5)) da_nil)))) (pg_name (i := 8) nd (by rfl) (by first | exact Or.inl rfl | exact Or.inr rfl)) gd_name (ds_cons (ds_if (dt_not (dt_val (de_call H__law_right (hr.mono (by decide)) (by rfl) (da_cons (de_var 7) (da_cons (de_var 8) (da_cons (de_var 6) da_nil)))))) (ds_one (ds_ret de_bl)) ds_nil)
    (ds_one (ds_set (i := 6) nd (de_op op_sub d_sub de_int (de_var 6))))))))
    (ds_one (ds_ret de_bl))))))
theorem ok_law {f : Addr} {fd : FuncData} (F : Fun K "law" "law" st_law f fd) (z_len : mg "len" = none) (z_max : mg "max" = none) (z_min : mg "min" = none) (z_range : mg "range" = none) (H__law_cell_right : Has P w K mg base "_law_cell_right" 10 ["script", "k"] m__law_cell_right) : FnOk P w K mg base CX0 11 f fd ["script"] (SpD K m_law) :=
  fnD (N := ["script", "k"]) F sc_law fun cdv A outer s H E hr =>
    have nd := sc_law.nd
    (ds_cons (ds_for PassesOwn.never rfl (di_range1 (by rfl) z_range (da_cons (de_callB (call_maxD rfl hr.units) d_max (by rfl) z_max boot_max (da_cons de_int (da_cons (de_callB (call_minD rfl hr.units) d_min (by rfl) z_min boot_min (da_cons de_int (da_cons (de_callB call_lenD' d_len (by rfl) z_len boot_len (da_cons (de_var 0) da_nil)) da_nil))) da_nil))) da_nil)) (pg_name (i := 1) nd (by rfl) (by first | exact Or.inl rfl | exact Or.inr rfl)) gd_name (ds_one (ds_if (dt_not (dt_val (de_call H__law_cell_right (hr.mono (by decide)) (by rfl) (da_cons (de_var 0) (da_cons (de_var 1) da_nil))))) (ds_one (ds_ret de_bl)) ds_nil)))
    (ds_one (ds_ret de_bl)))
end
end NSP

set_option Elab.async false
set_option linter.all false
set_option maxRecDepth 100000
set_option maxHeartbeats 4000000
namespace NSP
open PySem PySem.Spec PyProof.Rows L2 Dn
theorem all_mk {l : PySem.W.OpenLaw} {w : World} {K : PySem.W.Frag} {h : Heap} {mg : Str → Option Value} {fa : Addr} (X : K.In h) (G : h.Ns mainGlobals mg) (hfa : mg "law" = some (.ref fa))
    {f__law_pool : Addr} {od__law_pool an__law_pool : Option Addr} {sl__law_pool : Array (Option Value)} {oc__law_pool kV__law_pool dc__law_pool pm__law_pool cd__law_pool ct__law_pool : Value}
    (a__law_pool : PySem.W.nsIn K mainGlobals "_law_pool" = some (some (.ref f__law_pool))) (l__law_pool : K.lookup f__law_pool = some ⟨oc__law_pool, od__law_pool, .func (PySem.W.fnOf "_law_pool" "_law_pool" (defArgs st__law_pool) (defBody st__law_pool) (defScope st__law_pool) .none kV__law_pool dc__law_pool pm__law_pool an__law_pool cd__law_pool ct__law_pool), sl__law_pool⟩) (k__law_pool : PySem.W.codeIn K cd__law_pool "_law_pool" = true) (q__law_pool : PySem.W.keepIn K (.ref f__law_pool) = true)
    {f__law_take : Addr} {od__law_take an__law_take : Option Addr} {sl__law_take : Array (Option Value)} {oc__law_take kV__law_take dc__law_take pm__law_take cd__law_take ct__law_take : Value}
    (a__law_take : PySem.W.nsIn K mainGlobals "_law_take" = some (some (.ref f__law_take))) (l__law_take : K.lookup f__law_take = some ⟨oc__law_take, od__law_take, .func (PySem.W.fnOf "_law_take" "_law_take" (defArgs st__law_take) (defBody st__law_take) (defScope st__law_take) .none kV__law_take dc__law_take pm__law_take an__law_take cd__law_take ct__law_take), sl__law_take⟩) (k__law_take : PySem.W.codeIn K cd__law_take "_law_take" = true) (q__law_take : PySem.W.keepIn K (.ref f__law_take) = true)
    {f__law_lines : Addr} {od__law_lines an__law_lines : Option Addr} {sl__law_lines : Array (Option Value)} {oc__law_lines kV__law_lines dc__law_lines pm__law_lines cd__law_lines ct__law_lines : Value}
    (a__law_lines : PySem.W.nsIn K mainGlobals "_law_lines" = some (some (.ref f__law_lines))) (l__law_lines : K.lookup f__law_lines = some ⟨oc__law_lines, od__law_lines, .func (PySem.W.fnOf "_law_lines" "_law_lines" (defArgs st__law_lines) (defBody st__law_lines) (defScope st__law_lines) .none kV__law_lines dc__law_lines pm__law_lines an__law_lines cd__law_lines ct__law_lines), sl__law_lines⟩) (k__law_lines : PySem.W.codeIn K cd__law_lines "_law_lines" = true) (q__law_lines : PySem.W.keepIn K (.ref f__law_lines) = true)
    {f__law_frozen : Addr} {od__law_frozen an__law_frozen : Option Addr} {sl__law_frozen : Array (Option Value)} {oc__law_frozen kV__law_frozen dc__law_frozen pm__law_frozen cd__law_frozen ct__law_frozen : Value}
    (a__law_frozen : PySem.W.nsIn K mainGlobals "_law_frozen" = some (some (.ref f__law_frozen))) (l__law_frozen : K.lookup f__law_frozen = some ⟨oc__law_frozen, od__law_frozen, .func (PySem.W.fnOf "_law_frozen" "_law_frozen" (defArgs st__law_frozen) (defBody st__law_frozen) (defScope st__law_frozen) .none kV__law_frozen dc__law_frozen pm__law_frozen an__law_frozen cd__law_frozen ct__law_frozen), sl__law_frozen⟩) (k__law_frozen : PySem.W.codeIn K cd__law_frozen "_law_frozen" = true) (q__law_frozen : PySem.W.keepIn K (.ref f__law_frozen) = true)
    {f__law_game : Addr} {od__law_game an__law_game : Option Addr} {sl__law_game : Array (Option Value)} {oc__law_game kV__law_game dc__law_game pm__law_game cd__law_game ct__law_game : Value}
    (a__law_game : PySem.W.nsIn K mainGlobals "_law_game" = some (some (.ref f__law_game))) (l__law_game : K.lookup f__law_game = some ⟨oc__law_game, od__law_game, .func (PySem.W.fnOf "_law_game" "_law_game" (defArgs st__law_game) (defBody st__law_game) (defScope st__law_game) .none kV__law_game dc__law_game pm__law_game an__law_game cd__law_game ct__law_game), sl__law_game⟩) (k__law_game : PySem.W.codeIn K cd__law_game "_law_game" = true) (q__law_game : PySem.W.keepIn K (.ref f__law_game) = true)
    {f_is_integer : Addr} {od_is_integer an_is_integer : Option Addr} {sl_is_integer : Array (Option Value)} {oc_is_integer kV_is_integer dc_is_integer pm_is_integer cd_is_integer ct_is_integer : Value}
    (a_is_integer : PySem.W.nsIn K mainGlobals "is_integer" = some (some (.ref f_is_integer))) (l_is_integer : K.lookup f_is_integer = some ⟨oc_is_integer, od_is_integer, .func (PySem.W.fnOf "is_integer" "is_integer" (defArgs st_is_integer) (defBody st_is_integer) (defScope st_is_integer) .none kV_is_integer dc_is_integer pm_is_integer an_is_integer cd_is_integer ct_is_integer), sl_is_integer⟩) (k_is_integer : PySem.W.codeIn K cd_is_integer "is_integer" = true) (q_is_integer : PySem.W.keepIn K (.ref f_is_integer) = true)
    {f_is_within : Addr} {od_is_within an_is_within : Option Addr} {sl_is_within : Array (Option Value)} {oc_is_within kV_is_within dc_is_within pm_is_within cd_is_within ct_is_within : Value}
    (a_is_within : PySem.W.nsIn K mainGlobals "is_within" = some (some (.ref f_is_within))) (l_is_within : K.lookup f_is_within = some ⟨oc_is_within, od_is_within, .func (PySem.W.fnOf "is_within" "is_within" (defArgs st_is_within) (defBody st_is_within) (defScope st_is_within) .none kV_is_within dc_is_within pm_is_within an_is_within cd_is_within ct_is_within), sl_is_within⟩) (k_is_within : PySem.W.codeIn K cd_is_within "is_within" = true) (q_is_within : PySem.W.keepIn K (.ref f_is_within) = true)
    {f_is_a_row : Addr} {od_is_a_row an_is_a_row : Option Addr} {sl_is_a_row : Array (Option Value)} {oc_is_a_row kV_is_a_row dc_is_a_row pm_is_a_row cd_is_a_row ct_is_a_row : Value}
    (a_is_a_row : PySem.W.nsIn K mainGlobals "is_a_row" = some (some (.ref f_is_a_row))) (l_is_a_row : K.lookup f_is_a_row = some ⟨oc_is_a_row, od_is_a_row, .func (PySem.W.fnOf "is_a_row" "is_a_row" (defArgs st_is_a_row) (defBody st_is_a_row) (defScope st_is_a_row) .none kV_is_a_row dc_is_a_row pm_is_a_row an_is_a_row cd_is_a_row ct_is_a_row), sl_is_a_row⟩) (k_is_a_row : PySem.W.codeIn K cd_is_a_row "is_a_row" = true) (q_is_a_row : PySem.W.keepIn K (.ref f_is_a_row) = true)
    {f_is_a_table : Addr} {od_is_a_table an_is_a_table : Option Addr} {sl_is_a_table : Array (Option Value)} {oc_is_a_table kV_is_a_table dc_is_a_table pm_is_a_table cd_is_a_table ct_is_a_table : Value}
    (a_is_a_table : PySem.W.nsIn K mainGlobals "is_a_table" = some (some (.ref f_is_a_table))) (l_is_a_table : K.lookup f_is_a_table = some ⟨oc_is_a_table, od_is_a_table, .func (PySem.W.fnOf "is_a_table" "is_a_table" (defArgs st_is_a_table) (defBody st_is_a_table) (defScope st_is_a_table) .none kV_is_a_table dc_is_a_table pm_is_a_table an_is_a_table cd_is_a_table ct_is_a_table), sl_is_a_table⟩) (k_is_a_table : PySem.W.codeIn K cd_is_a_table "is_a_table" = true) (q_is_a_table : PySem.W.keepIn K (.ref f_is_a_table) = true)
    {f_are_tables_like : Addr} {od_are_tables_like an_are_tables_like : Option Addr} {sl_are_tables_like : Array (Option Value)} {oc_are_tables_like kV_are_tables_like dc_are_tables_like pm_are_tables_like cd_are_tables_like ct_are_tables_like : Value}
    (a_are_tables_like : PySem.W.nsIn K mainGlobals "are_tables_like" = some (some (.ref f_are_tables_like))) (l_are_tables_like : K.lookup f_are_tables_like = some ⟨oc_are_tables_like, od_are_tables_like, .func (PySem.W.fnOf "are_tables_like" "are_tables_like" (defArgs st_are_tables_like) (defBody st_are_tables_like) (defScope st_are_tables_like) .none kV_are_tables_like dc_are_tables_like pm_are_tables_like an_are_tables_like cd_are_tables_like ct_are_tables_like), sl_are_tables_like⟩) (k_are_tables_like : PySem.W.codeIn K cd_are_tables_like "are_tables_like" = true) (q_are_tables_like : PySem.W.keepIn K (.ref f_are_tables_like) = true)
    {f_is_a_game : Addr} {od_is_a_game an_is_a_game : Option Addr} {sl_is_a_game : Array (Option Value)} {oc_is_a_game kV_is_a_game dc_is_a_game pm_is_a_game cd_is_a_game ct_is_a_game : Value}
    (a_is_a_game : PySem.W.nsIn K mainGlobals "is_a_game" = some (some (.ref f_is_a_game))) (l_is_a_game : K.lookup f_is_a_game = some ⟨oc_is_a_game, od_is_a_game, .func (PySem.W.fnOf "is_a_game" "is_a_game" (defArgs st_is_a_game) (defBody st_is_a_game) (defScope st_is_a_game) .none kV_is_a_game dc_is_a_game pm_is_a_game an_is_a_game cd_is_a_game ct_is_a_game), sl_is_a_game⟩) (k_is_a_game : PySem.W.codeIn K cd_is_a_game "is_a_game" = true) (q_is_a_game : PySem.W.keepIn K (.ref f_is_a_game) = true)
    {f_need_game : Addr} {od_need_game an_need_game : Option Addr} {sl_need_game : Array (Option Value)} {oc_need_game kV_need_game dc_need_game pm_need_game cd_need_game ct_need_game : Value}
    (a_need_game : PySem.W.nsIn K mainGlobals "need_game" = some (some (.ref f_need_game))) (l_need_game : K.lookup f_need_game = some ⟨oc_need_game, od_need_game, .func (PySem.W.fnOf "need_game" "need_game" (defArgs st_need_game) (defBody st_need_game) (defScope st_need_game) .none kV_need_game dc_need_game pm_need_game an_need_game cd_need_game ct_need_game), sl_need_game⟩) (k_need_game : PySem.W.codeIn K cd_need_game "need_game" = true) (q_need_game : PySem.W.keepIn K (.ref f_need_game) = true)
    {f_is_a_side : Addr} {od_is_a_side an_is_a_side : Option Addr} {sl_is_a_side : Array (Option Value)} {oc_is_a_side kV_is_a_side dc_is_a_side pm_is_a_side cd_is_a_side ct_is_a_side : Value}
    (a_is_a_side : PySem.W.nsIn K mainGlobals "is_a_side" = some (some (.ref f_is_a_side))) (l_is_a_side : K.lookup f_is_a_side = some ⟨oc_is_a_side, od_is_a_side, .func (PySem.W.fnOf "is_a_side" "is_a_side" (defArgs st_is_a_side) (defBody st_is_a_side) (defScope st_is_a_side) .none kV_is_a_side dc_is_a_side pm_is_a_side an_is_a_side cd_is_a_side ct_is_a_side), sl_is_a_side⟩) (k_is_a_side : PySem.W.codeIn K cd_is_a_side "is_a_side" = true) (q_is_a_side : PySem.W.keepIn K (.ref f_is_a_side) = true)
    {f_need_side : Addr} {od_need_side an_need_side : Option Addr} {sl_need_side : Array (Option Value)} {oc_need_side kV_need_side dc_need_side pm_need_side cd_need_side ct_need_side : Value}
    (a_need_side : PySem.W.nsIn K mainGlobals "need_side" = some (some (.ref f_need_side))) (l_need_side : K.lookup f_need_side = some ⟨oc_need_side, od_need_side, .func (PySem.W.fnOf "need_side" "need_side" (defArgs st_need_side) (defBody st_need_side) (defScope st_need_side) .none kV_need_side dc_need_side pm_need_side an_need_side cd_need_side ct_need_side), sl_need_side⟩) (k_need_side : PySem.W.codeIn K cd_need_side "need_side" = true) (q_need_side : PySem.W.keepIn K (.ref f_need_side) = true)
    {f_many_of : Addr} {od_many_of an_many_of : Option Addr} {sl_many_of : Array (Option Value)} {oc_many_of kV_many_of dc_many_of pm_many_of cd_many_of ct_many_of : Value}
    (a_many_of : PySem.W.nsIn K mainGlobals "many_of" = some (some (.ref f_many_of))) (l_many_of : K.lookup f_many_of = some ⟨oc_many_of, od_many_of, .func (PySem.W.fnOf "many_of" "many_of" (defArgs st_many_of) (defBody st_many_of) (defScope st_many_of) .none kV_many_of dc_many_of pm_many_of an_many_of cd_many_of ct_many_of), sl_many_of⟩) (k_many_of : PySem.W.codeIn K cd_many_of "many_of" = true) (q_many_of : PySem.W.keepIn K (.ref f_many_of) = true)
    {f_got : Addr} {od_got an_got : Option Addr} {sl_got : Array (Option Value)} {oc_got kV_got dc_got pm_got cd_got ct_got : Value}
    (a_got : PySem.W.nsIn K mainGlobals "got" = some (some (.ref f_got))) (l_got : K.lookup f_got = some ⟨oc_got, od_got, .func (PySem.W.fnOf "got" "got" (defArgs st_got) (defBody st_got) (defScope st_got) .none kV_got dc_got pm_got an_got cd_got ct_got), sl_got⟩) (k_got : PySem.W.codeIn K cd_got "got" = true) (q_got : PySem.W.keepIn K (.ref f_got) = true)
    {f_guard_of : Addr} {od_guard_of an_guard_of : Option Addr} {sl_guard_of : Array (Option Value)} {oc_guard_of kV_guard_of dc_guard_of pm_guard_of cd_guard_of ct_guard_of : Value}
    (a_guard_of : PySem.W.nsIn K mainGlobals "guard_of" = some (some (.ref f_guard_of))) (l_guard_of : K.lookup f_guard_of = some ⟨oc_guard_of, od_guard_of, .func (PySem.W.fnOf "guard_of" "guard_of" (defArgs st_guard_of) (defBody st_guard_of) (defScope st_guard_of) .none kV_guard_of dc_guard_of pm_guard_of an_guard_of cd_guard_of ct_guard_of), sl_guard_of⟩) (k_guard_of : PySem.W.codeIn K cd_guard_of "guard_of" = true) (q_guard_of : PySem.W.keepIn K (.ref f_guard_of) = true)
    {f_guard : Addr} {od_guard an_guard : Option Addr} {sl_guard : Array (Option Value)} {oc_guard kV_guard dc_guard pm_guard cd_guard ct_guard : Value}
    (a_guard : PySem.W.nsIn K mainGlobals "guard" = some (some (.ref f_guard))) (l_guard : K.lookup f_guard = some ⟨oc_guard, od_guard, .func (PySem.W.fnOf "guard" "guard" (defArgs st_guard) (defBody st_guard) (defScope st_guard) .none kV_guard dc_guard pm_guard an_guard cd_guard ct_guard), sl_guard⟩) (k_guard : PySem.W.codeIn K cd_guard "guard" = true) (q_guard : PySem.W.keepIn K (.ref f_guard) = true)
    {f__law_due : Addr} {od__law_due an__law_due : Option Addr} {sl__law_due : Array (Option Value)} {oc__law_due kV__law_due dc__law_due pm__law_due cd__law_due ct__law_due : Value}
    (a__law_due : PySem.W.nsIn K mainGlobals "_law_due" = some (some (.ref f__law_due))) (l__law_due : K.lookup f__law_due = some ⟨oc__law_due, od__law_due, .func (PySem.W.fnOf "_law_due" "_law_due" (defArgs st__law_due) (defBody st__law_due) (defScope st__law_due) .none kV__law_due dc__law_due pm__law_due an__law_due cd__law_due ct__law_due), sl__law_due⟩) (k__law_due : PySem.W.codeIn K cd__law_due "_law_due" = true) (q__law_due : PySem.W.keepIn K (.ref f__law_due) = true)
    {f__law_right : Addr} {od__law_right an__law_right : Option Addr} {sl__law_right : Array (Option Value)} {oc__law_right kV__law_right dc__law_right pm__law_right cd__law_right ct__law_right : Value}
    (a__law_right : PySem.W.nsIn K mainGlobals "_law_right" = some (some (.ref f__law_right))) (l__law_right : K.lookup f__law_right = some ⟨oc__law_right, od__law_right, .func (PySem.W.fnOf "_law_right" "_law_right" (defArgs st__law_right) (defBody st__law_right) (defScope st__law_right) .none kV__law_right dc__law_right pm__law_right an__law_right cd__law_right ct__law_right), sl__law_right⟩) (k__law_right : PySem.W.codeIn K cd__law_right "_law_right" = true) (q__law_right : PySem.W.keepIn K (.ref f__law_right) = true)
    {f__law_cell_right : Addr} {od__law_cell_right an__law_cell_right : Option Addr} {sl__law_cell_right : Array (Option Value)} {oc__law_cell_right kV__law_cell_right dc__law_cell_right pm__law_cell_right cd__law_cell_right ct__law_cell_right : Value}
    (a__law_cell_right : PySem.W.nsIn K mainGlobals "_law_cell_right" = some (some (.ref f__law_cell_right))) (l__law_cell_right : K.lookup f__law_cell_right = some ⟨oc__law_cell_right, od__law_cell_right, .func (PySem.W.fnOf "_law_cell_right" "_law_cell_right" (defArgs st__law_cell_right) (defBody st__law_cell_right) (defScope st__law_cell_right) .none kV__law_cell_right dc__law_cell_right pm__law_cell_right an__law_cell_right cd__law_cell_right ct__law_cell_right), sl__law_cell_right⟩) (k__law_cell_right : PySem.W.codeIn K cd__law_cell_right "_law_cell_right" = true) (q__law_cell_right : PySem.W.keepIn K (.ref f__law_cell_right) = true)
    {f_law : Addr} {od_law an_law : Option Addr} {sl_law : Array (Option Value)} {oc_law kV_law dc_law pm_law cd_law ct_law : Value}
    (a_law : PySem.W.nsIn K mainGlobals "law" = some (some (.ref f_law))) (l_law : K.lookup f_law = some ⟨oc_law, od_law, .func (PySem.W.fnOf "law" "law" (defArgs st_law) (defBody st_law) (defScope st_law) .none kV_law dc_law pm_law an_law cd_law ct_law), sl_law⟩) (k_law : PySem.W.codeIn K cd_law "law" = true) (q_law : PySem.W.keepIn K (.ref f_law) = true)
    (y_abs : PySem.W.nsIn K mainGlobals "abs" = some none)
    (y_all : PySem.W.nsIn K mainGlobals "all" = some none)
    (y_bool : PySem.W.nsIn K mainGlobals "bool" = some none)
    (y_int : PySem.W.nsIn K mainGlobals "int" = some none)
    (y_isinstance : PySem.W.nsIn K mainGlobals "isinstance" = some none)
    (y_len : PySem.W.nsIn K mainGlobals "len" = some none)
    (y_max : PySem.W.nsIn K mainGlobals "max" = some none)
    (y_min : PySem.W.nsIn K mainGlobals "min" = some none)
    (y_range : PySem.W.nsIn K mainGlobals "range" = some none)
    (y_tuple : PySem.W.nsIn K mainGlobals "tuple" = some none)
    {t_MOST_CHOICES : Tok} (x_MOST_CHOICES : PySem.W.nsIn K mainGlobals "MOST_CHOICES" = some (some (.int 5 t_MOST_CHOICES)))
    {t_MOST_NUMBER : Tok} (x_MOST_NUMBER : PySem.W.nsIn K mainGlobals "MOST_NUMBER" = some (some (.int 1000 t_MOST_NUMBER)))
    : ∃ fd : FuncData, (∀ (s : Shared) (v : Value), BindsTo s fd ⟨[v], []⟩ [("script", v)]) ∧ ∀ base : Heap, K.In base → base.Ns mainGlobals mg → FnOk l.prog w K mg base CX0 11 fa fd ["script"] (SpD K m_law) := by
  have e := hfa.symm.trans (PySem.W.mg_of X G a_law)
  cases e
  have z_abs := PySem.W.mg_none_of X G y_abs
  have z_all := PySem.W.mg_none_of X G y_all
  have z_bool := PySem.W.mg_none_of X G y_bool
  have z_int := PySem.W.mg_none_of X G y_int
  have z_isinstance := PySem.W.mg_none_of X G y_isinstance
  have z_len := PySem.W.mg_none_of X G y_len
  have z_max := PySem.W.mg_none_of X G y_max
  have z_min := PySem.W.mg_none_of X G y_min
  have z_range := PySem.W.mg_none_of X G y_range
  have z_tuple := PySem.W.mg_none_of X G y_tuple
  have c_MOST_CHOICES : ∃ t, mg "MOST_CHOICES" = some (.int 5 t) := ⟨_, PySem.W.mg_of X G x_MOST_CHOICES⟩
  have c_MOST_NUMBER : ∃ t, mg "MOST_NUMBER" = some (.int 1000 t) := ⟨_, PySem.W.mg_of X G x_MOST_NUMBER⟩
  have F__law_pool := fun_mk (st := st__law_pool) l__law_pool k__law_pool q__law_pool
  have F__law_take := fun_mk (st := st__law_take) l__law_take k__law_take q__law_take
  have F__law_lines := fun_mk (st := st__law_lines) l__law_lines k__law_lines q__law_lines
  have F__law_frozen := fun_mk (st := st__law_frozen) l__law_frozen k__law_frozen q__law_frozen
  have F__law_game := fun_mk (st := st__law_game) l__law_game k__law_game q__law_game
  have F_is_integer := fun_mk (st := st_is_integer) l_is_integer k_is_integer q_is_integer
  have F_is_within := fun_mk (st := st_is_within) l_is_within k_is_within q_is_within
  have F_is_a_row := fun_mk (st := st_is_a_row) l_is_a_row k_is_a_row q_is_a_row
  have F_is_a_table := fun_mk (st := st_is_a_table) l_is_a_table k_is_a_table q_is_a_table
  have F_are_tables_like := fun_mk (st := st_are_tables_like) l_are_tables_like k_are_tables_like q_are_tables_like
  have F_is_a_game := fun_mk (st := st_is_a_game) l_is_a_game k_is_a_game q_is_a_game
  have F_need_game := fun_mk (st := st_need_game) l_need_game k_need_game q_need_game
  have F_is_a_side := fun_mk (st := st_is_a_side) l_is_a_side k_is_a_side q_is_a_side
  have F_need_side := fun_mk (st := st_need_side) l_need_side k_need_side q_need_side
  have F_many_of := fun_mk (st := st_many_of) l_many_of k_many_of q_many_of
  have F_got := fun_mk (st := st_got) l_got k_got q_got
  have F_guard_of := fun_mk (st := st_guard_of) l_guard_of k_guard_of q_guard_of
  have F_guard := fun_mk (st := st_guard) l_guard k_guard q_guard
  have F__law_due := fun_mk (st := st__law_due) l__law_due k__law_due q__law_due
  have F__law_right := fun_mk (st := st__law_right) l__law_right k__law_right q__law_right
  have F__law_cell_right := fun_mk (st := st__law_cell_right) l__law_cell_right k__law_cell_right q__law_cell_right
  have F_law := fun_mk (st := st_law) l_law k_law q_law
  refine ⟨PySem.W.fnOf "law" "law" (defArgs st_law) (defBody st_law) (defScope st_law) .none kV_law dc_law pm_law an_law cd_law ct_law, fun s v => .of_eq rfl, fun base _ _ => ?_⟩
  have H__law_pool : Has l.prog w K mg base "_law_pool" 1 ["script", "k"] m__law_pool := hasD F__law_pool (PySem.W.mg_of X G a__law_pool) (F__law_pool.binds (ps := ["script", "k"]) fun _ _ _ _ _ _ us hl => match us, hl with | [_, _], _ => rfl) (ok__law_pool F__law_pool z_abs z_int z_len z_max)
  have H__law_take : Has l.prog w K mg base "_law_take" 1 ["pool", "many"] m__law_take := hasD F__law_take (PySem.W.mg_of X G a__law_take) (F__law_take.binds (ps := ["pool", "many"]) fun _ _ _ _ _ _ us hl => match us, hl with | [_, _], _ => rfl) (ok__law_take F__law_take z_int)
  have H__law_lines : Has l.prog w K mg base "_law_lines" 2 ["pool", "rows", "columns", "reach"] m__law_lines := hasD F__law_lines (PySem.W.mg_of X G a__law_lines) (F__law_lines.binds (ps := ["pool", "rows", "columns", "reach"]) fun _ _ _ _ _ _ us hl => match us, hl with | [_, _, _, _], _ => rfl) (ok__law_lines F__law_lines z_range H__law_take)
  have H__law_frozen : Has l.prog w K mg base "_law_frozen" 1 ["lines"] m__law_frozen := hasD F__law_frozen (PySem.W.mg_of X G a__law_frozen) (F__law_frozen.binds (ps := ["lines"]) fun _ _ _ _ _ _ us hl => match us, hl with | [_], _ => rfl) (ok__law_frozen F__law_frozen z_tuple)
  have H__law_game : Has l.prog w K mg base "_law_game" 3 ["pool", "most"] m__law_game := hasD F__law_game (PySem.W.mg_of X G a__law_game) (F__law_game.binds (ps := ["pool", "most"]) fun _ _ _ _ _ _ us hl => match us, hl with | [_, _], _ => rfl) (ok__law_game F__law_game z_range z_tuple H__law_take H__law_lines H__law_frozen)
  have H_is_integer : Has l.prog w K mg base "is_integer" 1 ["value"] m_is_integer := hasD F_is_integer (PySem.W.mg_of X G a_is_integer) (F_is_integer.binds (ps := ["value"]) fun _ _ _ _ _ _ us hl => match us, hl with | [_], _ => rfl) (ok_is_integer F_is_integer z_bool z_int z_isinstance)
  have H_is_within : Has l.prog w K mg base "is_within" 2 ["value", "least", "most"] m_is_within := hasD F_is_within (PySem.W.mg_of X G a_is_within) (F_is_within.binds (ps := ["value", "least", "most"]) fun _ _ _ _ _ _ us hl => match us, hl with | [_, _, _], _ => rfl) (ok_is_within F_is_within H_is_integer)
  have H_is_a_row : Has l.prog w K mg base "is_a_row" 3 ["value", "wide"] m_is_a_row := hasD F_is_a_row (PySem.W.mg_of X G a_is_a_row) (F_is_a_row.binds (ps := ["value", "wide"]) fun _ _ _ _ _ _ us hl => match us, hl with | [_, _], _ => rfl) (ok_is_a_row F_is_a_row z_all z_isinstance z_len z_tuple c_MOST_NUMBER H_is_within)
  have H_is_a_table : Has l.prog w K mg base "is_a_table" 4 ["value"] m_is_a_table := hasD F_is_a_table (PySem.W.mg_of X G a_is_a_table) (F_is_a_table.binds (ps := ["value"]) fun _ _ _ _ _ _ us hl => match us, hl with | [_], _ => rfl) (ok_is_a_table F_is_a_table z_all z_isinstance z_len z_tuple c_MOST_CHOICES H_is_a_row)
  have H_are_tables_like : Has l.prog w K mg base "are_tables_like" 5 ["value", "rows", "columns"] m_are_tables_like := hasD F_are_tables_like (PySem.W.mg_of X G a_are_tables_like) (F_are_tables_like.binds (ps := ["value", "rows", "columns"]) fun _ _ _ _ _ _ us hl => match us, hl with | [_, _, _], _ => rfl) (ok_are_tables_like F_are_tables_like z_all z_isinstance z_len z_tuple H_is_a_table)
  have H_is_a_game : Has l.prog w K mg base "is_a_game" 6 ["value"] m_is_a_game := hasD F_is_a_game (PySem.W.mg_of X G a_is_a_game) (F_is_a_game.binds (ps := ["value"]) fun _ _ _ _ _ _ us hl => match us, hl with | [_], _ => rfl) (ok_is_a_game F_is_a_game z_isinstance z_len z_tuple H_is_a_table H_are_tables_like)
  have H_need_game : Has l.prog w K mg base "need_game" 7 ["game"] m_need_game := hasD F_need_game (PySem.W.mg_of X G a_need_game) (F_need_game.binds (ps := ["game"]) fun _ _ _ _ _ _ us hl => match us, hl with | [_], _ => rfl) (ok_need_game F_need_game H_is_a_game)
  have H_is_a_side : Has l.prog w K mg base "is_a_side" 3 ["value"] m_is_a_side := hasD F_is_a_side (PySem.W.mg_of X G a_is_a_side) (F_is_a_side.binds (ps := ["value"]) fun _ _ _ _ _ _ us hl => match us, hl with | [_], _ => rfl) (ok_is_a_side F_is_a_side H_is_within)
  have H_need_side : Has l.prog w K mg base "need_side" 4 ["side"] m_need_side := hasD F_need_side (PySem.W.mg_of X G a_need_side) (F_need_side.binds (ps := ["side"]) fun _ _ _ _ _ _ us hl => match us, hl with | [_], _ => rfl) (ok_need_side F_need_side H_is_a_side)
  have H_many_of : Has l.prog w K mg base "many_of" 1 ["game", "side"] m_many_of := hasD F_many_of (PySem.W.mg_of X G a_many_of) (F_many_of.binds (ps := ["game", "side"]) fun _ _ _ _ _ _ us hl => match us, hl with | [_, _], _ => rfl) (ok_many_of F_many_of z_len)
  have H_got : Has l.prog w K mg base "got" 1 ["game", "side", "own", "others"] m_got := hasD F_got (PySem.W.mg_of X G a_got) (F_got.binds (ps := ["game", "side", "own", "others"]) fun _ _ _ _ _ _ us hl => match us, hl with | [_, _, _, _], _ => rfl) (ok_got F_got )
  have H_guard_of : Has l.prog w K mg base "guard_of" 2 ["game", "side"] m_guard_of := hasD F_guard_of (PySem.W.mg_of X G a_guard_of) (F_guard_of.binds (ps := ["game", "side"]) fun _ _ _ _ _ _ us hl => match us, hl with | [_, _], _ => rfl) (ok_guard_of F_guard_of z_max z_min z_range H_many_of H_got)
  have H_guard : Has l.prog w K mg base "guard" 8 ["game", "side"] m_guard := hasD F_guard (PySem.W.mg_of X G a_guard) (F_guard.binds (ps := ["game", "side"]) fun _ _ _ _ _ _ us hl => match us, hl with | [_, _], _ => rfl) (ok_guard F_guard H_need_game H_need_side H_guard_of)
  have KH_guard_1_0 : HasK l.prog w K mg base "guard" 8 ["game", "side"] ["side", "game"] 0 [1, 0] m_guard := hasK F_guard (PySem.W.mg_of X G a_guard) (by decide) (fun _ _ _ _ _ _ us ws h1 h2 => match us, h1, ws, h2 with | [], _, [_, _], _ => rfl) (ok_guard F_guard H_need_game H_need_side H_guard_of)
  have H__law_due : Has l.prog w K mg base "_law_due" 1 ["game", "side"] m__law_due := hasD F__law_due (PySem.W.mg_of X G a__law_due) (F__law_due.binds (ps := ["game", "side"]) fun _ _ _ _ _ _ us hl => match us, hl with | [_, _], _ => rfl) (ok__law_due F__law_due z_len z_max z_min z_range)
  have H__law_right : Has l.prog w K mg base "_law_right" 9 ["game", "side", "named"] m__law_right := hasD F__law_right (PySem.W.mg_of X G a__law_right) (F__law_right.binds (ps := ["game", "side", "named"]) fun _ _ _ _ _ _ us hl => match us, hl with | [_, _, _], _ => rfl) (ok__law_right F__law_right z_bool z_int z_isinstance z_len z_tuple H_guard H__law_due KH_guard_1_0)
  have H__law_cell_right : Has l.prog w K mg base "_law_cell_right" 10 ["script", "k"] m__law_cell_right := hasD F__law_cell_right (PySem.W.mg_of X G a__law_cell_right) (F__law_cell_right.binds (ps := ["script", "k"]) fun _ _ _ _ _ _ us hl => match us, hl with | [_, _], _ => rfl) (ok__law_cell_right F__law_cell_right H__law_pool H__law_game H__law_take H__law_right)
  exact ok_law F_law z_len z_max z_min z_range H__law_cell_right
end NSP

set_option Elab.async false
set_option linter.all false
set_option maxRecDepth 100000
set_option maxHeartbeats 4000000
namespace NSP
open PySem PySem.Spec PyProof.Rows L2 Dn
def poolO (a b c : Int) : Ob := .lst [.int a, .int b, .int c]
theorem take_spec {st : Sto} {p : Nat} {a b c many : Int} (hp : st[p]? = some (poolO a b c)) (hc : 0 ≤ c ∧ c < 1000000) (hm : 1 ≤ many ∧ many ≤ 10000) :
    Ok (m__law_take [.ref p, .int many] st) fun r st' => ∃ i a' c', r = .int i ∧ 0 ≤ i ∧ i < many ∧ st' = st.set p (poolO a' b c') ∧ 0 ≤ c' ∧ c' ≤ c + 1 := by
  have hlt := (List.getElem?_eq_some_iff.mp hp).1
  unfold poolO at hp
  have hm0 : 0 < many := by omega
  have hd : divOk many = true := div_ok hm0 (by omega)
  by_cases h0 : 0 < a
  · simp [e__law_take, b__law_take, hp, h0, hm0, hd]
    exact ⟨Int.emod_nonneg a (by omega), Int.emod_lt_of_pos a hm0, _, _, rfl, hc.1, by omega⟩
  · have hs : ∀ v, (st.set p v)[p]? = some v := fun v => set_get hp
    have m1 : mulOk 7368787 (c + 1) = true := mul_ok 30 30 (by omega) (by omega)
    have m2 : mulOk (7368787 * (c + 1)) (c + 1) = true := mul_ok 60 30 (mul_abs (a := 30) (b := 30) (by omega) (by omega)) (by omega)
    have m3 : mulOk 86028121 (c + 1) = true := mul_ok 30 30 (by omega) (by omega)
    have m4 : mulOk 29 (c + 1) = true := mul_ok 30 30 (by omega) (by omega)
    have m5 : ∀ x y : Int, mulOk (x % 1000000000000000000000000103) (y % 1000000000000000000000000103) = true := fun x y => mul_ok 100 100 (mod_abs (by omega) (by omega)) (mod_abs (by omega) (by omega))
    have m6 : ∀ x y z : Int, mulOk (x % 1000000000000000000000000103 * (y % 1000000000000000000000000103)) (z % 1000000000000000000000000103) = true := fun x y z => mul_ok 200 100 (mul_abs (a := 100) (b := 100) (mod_abs (by omega) (by omega)) (mod_abs (by omega) (by omega))) (mod_abs (by omega) (by omega))
    have m7 : ∀ x : Int, mulOk (x % 100000000000000000000000000319) (x % 100000000000000000000000000319 + 99991) = true := fun x => mul_ok 100 110 (mod_abs (by omega) (by omega)) (by have := Int.emod_nonneg x (show (100000000000000000000000000319 : Int) ≠ 0 by decide); have := Int.emod_lt_of_pos x (show (0 : Int) < 100000000000000000000000000319 by decide); omega)
    have d1 : divOk 7001 = true := div_ok (by decide) (by decide)
    simp [e__law_take, b__law_take, hp, h0, hm0, hd, hs, m1, m2, m3, m4, m5, m6, m7, d1]
    exact ⟨Int.emod_nonneg _ (by omega), Int.emod_lt_of_pos _ hm0, _, _, rfl, by omega, by omega⟩
def rowT (r : List Int) : T := .tup (r.map .int)
def rowL (r : List Int) : T := .lst (r.map .int)
def tabT (t : List (List Int)) : T := .tup (t.map rowT)
def tabL (t : List (List Int)) : T := .lst (t.map rowL)
def Row (C : Nat) (r : List Int) : Prop := r.length = C ∧ ∀ x ∈ r, -1000 ≤ x ∧ x ≤ 1000
def Tab (R C : Nat) (t : List (List Int)) : Prop := t.length = R ∧ ∀ r ∈ t, Row C r
@[simp] theorem sq_rowT {r : List Int} {st : Sto} : seqOf (rowT r) st = some (r.map .int) := rfl
@[simp] theorem sq_tabT {t : List (List Int)} {st : Sto} : seqOf (tabT t) st = some (t.map rowT) := rfl
@[simp] theorem it_rowT {r : List Int} {st : Sto} : itemsOf (rowT r) st = .ok (r.map .int) st := rfl
@[simp] theorem it_tabT {t : List (List Int)} {st : Sto} : itemsOf (tabT t) st = .ok (t.map rowT) st := rfl
@[simp] theorem it_rowL {r : List Int} {st : Sto} : itemsOf (rowL r) st = .ok (r.map .int) st := rfl
@[simp] theorem it_tabL {t : List (List Int)} {st : Sto} : itemsOf (tabL t) st = .ok (t.map rowL) st := rfl
@[simp] theorem tp_rowL {r : List Int} {st : Sto} : pTuple [rowL r] st = .ok (rowT r) st := rfl
@[simp] theorem sq_rowL {r : List Int} {st : Sto} : seqOf (rowL r) st = some (r.map .int) := rfl
@[simp] theorem sq_tabL {t : List (List Int)} {st : Sto} : seqOf (tabL t) st = some (t.map rowL) := rfl
@[simp] theorem ln_rowT {r : List Int} {st : Sto} : pLen [rowT r] st = .ok (.int r.length) st := by rw [p_len sq_rowT]; simp
@[simp] theorem ln_tabT {t : List (List Int)} {st : Sto} : pLen [tabT t] st = .ok (.int t.length) st := by rw [p_len sq_tabT]; simp
@[simp] theorem ty_rowT {r : List Int} {st : Sto} : tyN (rowT r) st = some "tuple" := rfl
@[simp] theorem ty_tabT {t : List (List Int)} {st : Sto} : tyN (tabT t) st = some "tuple" := rfl
theorem bels_ints {n : Nat} (r : List Int) : T.bels n (r.map .int) = true := bels_map fun _ _ => rfl
theorem bel_rowL {n : Nat} {r : List Int} : T.bel n (rowL r) = true := bels_ints r
theorem bel_rowT {n : Nat} {r : List Int} : T.bel n (rowT r) = true := bels_ints r
theorem bels_rowL {n : Nat} (t : List (List Int)) : T.bels n (t.map rowL) = true := bels_map fun _ _ => bel_rowL
theorem bels_rowT {n : Nat} (t : List (List Int)) : T.bels n (t.map rowT) = true := bels_map fun _ _ => bel_rowT
def RowIn (C : Nat) (k : Int) (r : List Int) : Prop := r.length = C ∧ ∀ x ∈ r, -(k / 2) ≤ x ∧ x < k - k / 2
def bound (v : Int) : Int := if v = -2 then -1000 else if v = -1 then 1000 else if v = 0 then 0 else 999
/-- what reach may be -/
def Reach (k : Int) : Prop := k = 2 ∨ k = 3 ∨ k = 5 ∨ k = 9 ∨ k = 41 ∨ k = 2001 ∨ k = 4
theorem lines_spec {st : Sto} {p : Nat} {a b c reach : Int} {R C : Nat} (hp : st[p]? = some (poolO a b c)) (hc : 0 ≤ c ∧ c < 900000) (hR : R ≤ 4) (hC : C ≤ 4) (hr : Reach reach) :
    Ok (m__law_lines [.ref p, .int R, .int C, .int reach] st) fun r st' => ∃ t a' c', r = tabL t ∧ Tab R C t ∧ st' = st.set p (poolO a' b c') ∧ 0 ≤ c' ∧ c' ≤ c + 16 := by
  have hlt := (List.getElem?_eq_some_iff.mp hp).1
  have i1 : in62 (R : Int) = true := in62_nat (by omega)
  have i2 : in62 (C : Int) = true := in62_nat (by omega)
  have z1 : C ≤ sizeLine := szle (by omega)
  have dv : divOk 2 = true := div_ok (by decide) (by decide)
  have n0 : (st ++ [Ob.lst []]).length = st.length + 1 := by simp
  generalize hQ : (fun (r : T) (st' : Sto) => ∃ t a' c', r = tabL t ∧ Tab R C t ∧ st' = st.set p (poolO a' b c') ∧ 0 ≤ c' ∧ c' ≤ c + 16) = Q
  simp [e__law_lines, b__law_lines, i1, i2, z1]
  rw [ok_end, ok_bind]
  obtain ⟨P, hP⟩ : ∃ P : Nat → Ev → Sto → Prop, P = fun i env st' => ∃ (t : List (List Int)) (a' c' : Int) (z : Option T), env = [some (T.ref p), some (T.int R), some (T.int C), some (T.int reach), some (T.ref st.length), z, none, none, none] ∧ st' = st.set p (poolO a' b c') ++ [.lst (t.map rowL)] ∧
    t.length = i ∧ (∀ r ∈ t, RowIn C reach r) ∧ 0 ≤ c' ∧ c' ≤ c + 4 * i := ⟨_, rfl⟩
  refine ok_for0 P ?_ ?_ ?_
  · rw [hP]
    exact ⟨[], a, c, none, rfl, by rw [set_same hp]; rfl, rfl, by simp, hc.1, by omega⟩
  · rintro i x env st' hx h
    rw [hP] at h
    obtain ⟨t, a', c', z, rfl, rfl, ht1, ht, hc1, hc2⟩ := h
    obtain ⟨rfl, hi⟩ := range_at hx
    refine ⟨_, rfl, ?_⟩
    have hg : ∀ (o : Ob), (st.set p o ++ [Ob.lst (t.map rowL)])[st.length]? = some (Ob.lst (t.map rowL)) := fun o => app_last (by simp)
    simp [i2, z1, hg]
    simp only [ok_bind]
    obtain ⟨P2, hP2⟩ : ∃ P2 : Nat → List T → Sto → Prop, P2 = fun j ys st2 => ∃ (r : List Int) (a2 c2 : Int), ys = r.map T.int ∧ st2 = st.set p (poolO a2 b c2) ++ [.lst (t.map rowL)] ∧ r.length = j ∧ (∀ x ∈ r, -(reach / 2) ≤ x ∧ x < reach - reach / 2) ∧ 0 ≤ c2 ∧ c2 ≤ c' + j := ⟨_, rfl⟩
    refine ok_mono (ok_lc0 P2 ?_ ?_) ?_
    · rw [hP2]
      exact ⟨[], a', c', rfl, rfl, rfl, by simp, hc1, by omega⟩
    · rintro j y acc st2 hy h
      rw [hP2] at h
      obtain ⟨r, a2, c2, rfl, rfl, hr1, hr2, hd1, hd2⟩ := h
      obtain ⟨rfl, hj⟩ := range_at hy
      refine ⟨_, rfl, ?_⟩
      have hp2 : (st.set p (poolO a2 b c2) ++ [Ob.lst (t.map rowL)])[p]? = some (poolO a2 b c2) := app_get (set_get hp)
      simp [dv]
      simp only [ok_bind]
      refine ok_mono (take_spec hp2 ⟨hd1, by omega⟩ ⟨by rcases hr with h | h | h | h | h | h | h <;> omega, by rcases hr with h | h | h | h | h | h | h <;> omega⟩) ?_
      rintro x st3 ⟨v, a3, c3, rfl, h1, h2, rfl, h3, h4⟩
      simp [dv]
      rw [set_app (by simpa using hlt), List.set_set, hP2]
      exact ⟨r ++ [v - reach / 2], a3, c3, by simp, rfl, by simp [hr1], fun x hx => by
        rcases List.mem_append.mp hx with hx | hx
        · exact hr2 x hx
        · have : x = v - reach / 2 := by simpa using hx
          omega, h3, by omega⟩
    · rintro ys st2 h
      rw [hP2] at h
      obtain ⟨r, a2, c2, rfl, rfl, hr1, hr2, hd1, hd2⟩ := h
      rw [range_len] at hr1 hd2
      have z2 : t.length < sizeLine := szlt (by omega)
      simp [hg, z2, bels_ints]
      rw [hP]
      refine ⟨t ++ [r], a2, c2, _, rfl, by simp [rowL], by simp [ht1], fun x hx => ?_, hd1, ?_⟩
      · rcases List.mem_append.mp hx with hx | hx
        · exact ht x hx
        · have : x = r := by simpa using hx
          rw [this]
          exact ⟨hr1, hr2⟩
      · omega
  · rintro env st' h
    rw [hP] at h
    obtain ⟨t, a', c', z, rfl, rfl, ht1, ht, hc1, hc2⟩ := h
    rw [range_len] at ht1 hc2
    have hg : ∀ (o : Ob), (st.set p o ++ [Ob.lst (t.map rowL)])[st.length]? = some (Ob.lst (t.map rowL)) := fun o => app_last (by simp)
    have z3 : t.length ≤ sizeLine := szle (by omega)
    by_cases h4 : reach = 4
    · subst h4
      simp [hg, z3]
      have ix : ∀ v : Int, -2 ≤ v → v < 2 → atI [T.int (-1000), T.int 1000, T.int 0, T.int 999] (v + 2) = some (T.int (bound v)) := fun v h1 h2 => by
        obtain rfl | rfl | rfl | rfl : v = -2 ∨ v = -1 ∨ v = 0 ∨ v = 1 := by omega
        all_goals rfl
      have z4 : (4 : Nat) ≤ sizeLine := szle (by decide)
      rw [lc_mapE rowL (fun r => rowL (r.map bound)) fun r hr' => ?_]
      · have hb : T.bels st.length (t.map fun r => rowL (r.map bound)) = true := bels_map fun _ _ => bel_rowL
        simp [hb]
        rw [← hQ]
        refine ⟨t.map fun r => r.map bound, a', c', by simp [tabL], ⟨by simp [ht1], fun r hr' => ?_⟩, rfl, hc1, by omega⟩
        obtain ⟨r', h1, rfl⟩ := List.mem_map.mp hr'
        refine ⟨by simpa using (ht r' h1).1, fun x hx => ?_⟩
        obtain ⟨y, h2, rfl⟩ := List.mem_map.mp hx
        have := (ht r' h1).2 y h2
        unfold bound
        repeat' split
        all_goals omega
      · refine ⟨_, rfl, ?_⟩
        have z5 : r.length ≤ sizeLine := szle (by have := (ht r hr').1; omega)
        simp [rowL, z5]
        rw [lc_mapE T.int (fun v => T.int (bound v)) fun v hv => ?_]
        · simp
        · refine ⟨_, rfl, ?_⟩
          have := (ht r hr').2 v hv
          simp [z4, ix v (by omega) (by omega)]
    · have h4' : (reach == 4) = false := by simp [h4]
      simp [h4', hg]
      simp [bels_rowL]
      rw [← hQ]
      refine ⟨t, a', c', rfl, ⟨ht1, fun r hr' => ⟨(ht r hr').1, fun x hx => ?_⟩⟩, rfl, hc1, by omega⟩
      have := (ht r hr').2 x hx
      rcases hr with h | h | h | h | h | h | h <;> omega
theorem frozen_eq {st : Sto} {t : List (List Int)} {R C : Nat} (ht : t.length = R) (hr : ∀ r ∈ t, r.length = C) (hR : R ≤ 5) (hC : C ≤ 5) : m__law_frozen [tabL t] st = .ok (tabT t) st := by
  have z : t.length ≤ sizeLine := szle (by omega)
  rw [e__law_frozen, b__law_frozen]
  simp [z]
  rw [lc_mapE rowL rowT fun r h => ⟨_, rfl, by simp⟩]
  simp [bels_rowT, tabT]
def gameT (t u : List (List Int)) : T := .tup [tabT t, tabT u]
def AnyGame (R C : Nat) (t u : List (List Int)) : Prop := 1 ≤ R ∧ R ≤ 4 ∧ 1 ≤ C ∧ C ≤ 4 ∧ Tab R C t ∧ Tab R C u
theorem bel_tabT {n : Nat} {t : List (List Int)} : T.bel n (tabT t) = true := bels_rowT t
theorem reach_at {k : Int} (h0 : 0 ≤ k) (h1 : k < 7) : ∃ reach, atI [T.int 2, .int 3, .int 5, .int 9, .int 41, .int 2001, .int 4] k = some (.int reach) ∧ Reach reach := by
  obtain rfl | rfl | rfl | rfl | rfl | rfl | rfl : k = 0 ∨ k = 1 ∨ k = 2 ∨ k = 3 ∨ k = 4 ∨ k = 5 ∨ k = 6 := by omega
  all_goals exact ⟨_, rfl, by unfold Reach; simp⟩
def neg (t : List (List Int)) : List (List Int) := t.map fun r => r.map fun x => -x
theorem neg_tab {R C : Nat} {t : List (List Int)} (h : Tab R C t) : Tab R C (neg t) := by
  refine ⟨by simp [neg, h.1], fun r hr => ?_⟩
  obtain ⟨r', h1, rfl⟩ := List.mem_map.mp hr
  refine ⟨by simpa using (h.2 r' h1).1, fun x hx => ?_⟩
  obtain ⟨y, h2, rfl⟩ := List.mem_map.mp hx
  have := (h.2 r' h1).2 y h2
  omega
def at0 (r : List Int) (j : Nat) : Int := r.getD j 0
theorem getD_at {r : List Int} {j : Nat} (h : j < r.length) : at0 r j = r[j] := by
  unfold at0
  rw [List.getD_eq_getElem?_getD, List.getElem?_eq_getElem h]
  rfl
def tr (C : Nat) (t : List (List Int)) : List (List Int) := (List.range C).map fun j => t.map fun r => at0 r j
theorem tr_tab {R C : Nat} {t : List (List Int)} (h : Tab R C t) : Tab C R (tr C t) := by
  refine ⟨by simp [tr], fun r hr => ?_⟩
  obtain ⟨j, h1, rfl⟩ := List.mem_map.mp hr
  have hj : j < C := List.mem_range.mp h1
  refine ⟨by simp [h.1], fun x hx => ?_⟩
  obtain ⟨r', h2, rfl⟩ := List.mem_map.mp hx
  have hr' := h.2 r' h2
  have e : at0 r' j = r'[j]'(by rw [hr'.1]; exact hj) := getD_at _
  rw [e]
  exact hr'.2 _ (List.getElem_mem _)
theorem row_at {C j : Nat} {r : List Int} (h : r.length = C) (hj : j < C) : atI (r.map T.int) (j : Int) = some (.int (at0 r j)) := by
  refine atI_nat ?_
  have hl : j < r.length := by omega
  rw [List.getElem?_map, List.getElem?_eq_getElem hl, getD_at hl]
  rfl
theorem game_spec {st : Sto} {p : Nat} {a b c : Int} (hp : st[p]? = some (poolO a b c)) (hc : 0 ≤ c ∧ c < 800000) :
    Ok (m__law_game [.ref p, .int 4] st) fun r st' => ∃ R C t u a' c', r = gameT t u ∧ AnyGame R C t u ∧ st' = st.set p (poolO a' b c') ∧ 0 ≤ c' ∧ c' ≤ c + 100 := by
  generalize hQ : (fun (r : T) (st' : Sto) => ∃ R C t u a' c', r = gameT t u ∧ AnyGame R C t u ∧ st' = st.set p (poolO a' b c') ∧ 0 ≤ c' ∧ c' ≤ c + 100) = Q
  have fin : ∀ {R C : Nat} {t u : List (List Int)} {a' c' : Int}, AnyGame R C t u → 0 ≤ c' → c' ≤ c + 100 → Q (gameT t u) (st.set p (poolO a' b c')) := fun {R C t u a' c'} h1 h2 h3 => by
    rw [← hQ]
    exact ⟨R, C, t, u, a', c', rfl, h1, rfl, h2, h3⟩
  have z2 : (2 : Nat) ≤ sizeLine := szle (by decide)
  have z7 : (7 : Nat) ≤ sizeLine := szle (by decide)
  rw [e__law_game, b__law_game]
  simp
  rw [ok_end]
  simp only [ok_bind]
  refine ok_mono (take_spec hp ⟨hc.1, by omega⟩ (by omega)) ?_
  rintro _ _ ⟨kind, a1, c1, rfl, hk0, hk1, rfl, hc1, hc1'⟩
  simp [z7]
  simp only [ok_bind]
  refine ok_mono (take_spec (set_get hp) ⟨hc1, by omega⟩ (by omega)) ?_
  rintro _ _ ⟨k2, a2, c2, rfl, hk2, hk2', rfl, hc2, hc2'⟩
  obtain ⟨reach, hre, hrr⟩ := reach_at hk2 hk2'
  simp [hre]
  simp only [ok_bind]
  refine ok_mono (take_spec (set_get hp) ⟨hc2, by omega⟩ (by omega)) ?_
  rintro _ _ ⟨k3, a3, c3, rfl, hk3, hk3', rfl, hc3, hc3'⟩
  simp
  simp only [ok_bind]
  refine ok_mono (take_spec (set_get hp) ⟨hc3, by omega⟩ (by omega)) ?_
  rintro _ _ ⟨k4, a4, c4, rfl, hk4, hk4', rfl, hc4, hc4'⟩
  simp
  obtain ⟨R, hR, hR1, hR4⟩ : ∃ R : Nat, (1 + k3) = (R : Int) ∧ 1 ≤ R ∧ R ≤ 4 := ⟨(1 + k3).toNat, by omega, by omega, by omega⟩
  obtain ⟨C0, hC0, hC1, hC4⟩ : ∃ R : Nat, (1 + k4) = (R : Int) ∧ 1 ≤ R ∧ R ≤ 4 := ⟨(1 + k4).toNat, by omega, by omega, by omega⟩
  rw [hR, hC0]
  have lines : ∀ {st' : Sto} {a b c : Int} {C : Nat}, st'[p]? = some (poolO a b c) → 0 ≤ c → c < 900000 → C ≤ 4 → Ok (m__law_lines [.ref p, .int R, .int C, .int reach] st') fun r st2 => ∃ t a' c', r = tabL t ∧ Tab R C t ∧ st2 = st'.set p (poolO a' b c') ∧ 0 ≤ c' ∧ c' ≤ c + 16 :=
    fun h1 h2 h3 h4 => lines_spec h1 ⟨h2, h3⟩ hR4 h4 hrr
  have i1 : in62 (R : Int) = true := in62_nat (by omega)
  have zR : R ≤ sizeLine := szle (by omega)
  by_cases h2 : kind = 2
  · subst h2
    simp
    simp only [ok_bind]
    refine ok_mono (lines (set_get hp) hc4 (by omega) hR4) ?_
    rintro _ _ ⟨t, a5, c5, rfl, ht, rfl, hc5, hc5'⟩
    have fz := frozen_eq (st := st.set p (poolO a5 b c5)) ht.1 (fun r h => (ht.2 r h).1) (by omega) (by omega)
    simp [fz, i1, zR]
    rw [lc_range (fun j => rowT (t.map fun r => at0 r j)) fun j hj => ?_]
    · have zt : T.bels st.length ((List.range R).map fun j => rowT (t.map fun r => at0 r j)) = true := bels_map fun _ _ => bel_rowT
      simp [z2, zt, bel_tabT]
      have e : (T.tup [tabT t, T.tup ((List.range R).map fun j => rowT (t.map fun r => at0 r j))]) = gameT t (tr R t) := by simp [gameT, tabT, tr, Function.comp_def]
      rw [e]
      exact fin ⟨hR1, hR4, hR1, hR4, ht, tr_tab ht⟩ hc5 (by omega)
    · refine ⟨_, rfl, ?_⟩
      have zt : t.length ≤ sizeLine := szle (by have := ht.1; omega)
      simp [zt]
      rw [lc_mapE rowL (fun r => T.int (at0 r j)) fun r hr => ⟨_, rfl, by simp [row_at (ht.2 r hr).1 hj]⟩]
      simp [rowT, Function.comp_def]
  · have e2 : (kind == 2) = false := by simp [h2]
    simp [e2]
    simp only [ok_bind]
    refine ok_mono (lines (set_get hp) hc4 (by omega) hC4) ?_
    rintro _ _ ⟨t, a5, c5, rfl, ht, rfl, hc5, hc5'⟩
    have fz := frozen_eq (st := st.set p (poolO a5 b c5)) ht.1 (fun r h => (ht.2 r h).1) (by omega) (by omega)
    have zt : t.length ≤ sizeLine := szle (by have := ht.1; omega)
    by_cases h0 : kind = 0
    · subst h0
      simp [fz, zt]
      rw [lc_mapE rowL (fun r => rowL (r.map fun x => -x)) fun r hr => ⟨_, rfl, ?_⟩]
      · have hn := neg_tab ht
        have fz2 := frozen_eq (st := st.set p (poolO a5 b c5)) hn.1 (fun r h => (hn.2 r h).1) (by omega) (by omega)
        have e : T.lst (t.map fun r => rowL (r.map fun x => -x)) = tabL (neg t) := by simp [tabL, neg, Function.comp_def]
        simp [e, fz2, z2, bel_tabT]
        exact fin ⟨hR1, hR4, hC1, hC4, ht, hn⟩ hc5 (by omega)
      · have zr : r.length ≤ sizeLine := szle (by have := (ht.2 r hr).1; omega)
        simp [zr]
        rw [lc_mapE T.int (fun x => T.int (-x)) fun x hx => ⟨_, rfl, by simp⟩]
        simp [rowL, Function.comp_def]
    · have e0 : (kind == 0) = false := by simp [h0]
      by_cases h1 : kind = 1
      · subst h1
        simp [fz, z2, bel_tabT]
        exact fin ⟨hR1, hR4, hC1, hC4, ht, ht⟩ hc5 (by omega)
      · have e1 : (kind == 1) = false := by simp [h1]
        simp [e0, e1, e2, fz]
        simp only [ok_bind]
        refine ok_mono (lines (set_get hp) hc5 (by omega) hC4) ?_
        rintro _ _ ⟨u, a6, c6, rfl, hu, rfl, hc6, hc6'⟩
        have fz2 := frozen_eq (st := st.set p (poolO a6 b c6)) hu.1 (fun r h => (hu.2 r h).1) (by omega) (by omega)
        simp [fz2, z2, bel_tabT]
        exact fin ⟨hR1, hR4, hC1, hC4, ht, hu⟩ hc6 (by omega)
/-! ### games are known -/
theorem is_integer_eq {st : Sto} {i : Int} : m_is_integer [.int i] st = .ok (.bl true) st := by
  rw [e_is_integer, b_is_integer]
  simp
theorem is_within_eq {st : Sto} {i lo hi : Int} : m_is_within [.int i, .int lo, .int hi] st = .ok (.bl (decide (lo ≤ i) && decide (i ≤ hi))) st := by
  rw [e_is_within, b_is_within]
  simp [is_integer_eq]
  by_cases h : lo ≤ i <;> simp [h]
theorem is_row_eq {st : Sto} {C : Nat} {r : List Int} (h : Row C r) (hC : C ≤ 5) : m_is_a_row [rowT r, .int C] st = .ok (.bl true) st := by
  have z : r.length ≤ sizeLine := szle (by have := h.1; omega)
  have e : ((r.length : Int) == (C : Int)) = true := by simp [h.1]
  rw [e_is_a_row, b_is_a_row]
  simp [z, e]
  rw [all_items fun x hx => ?_]
  · simp
  · obtain ⟨y, hy, rfl⟩ := List.mem_map.mp hx
    exact ⟨_, rfl, by simp [is_within_eq, (h.2 y hy).1, (h.2 y hy).2]⟩
theorem tab_cons {R C : Nat} {t : List (List Int)} (h : Tab R C t) (hR : 1 ≤ R) : ∃ r0 t', t = r0 :: t' ∧ r0.length = C ∧ t'.length + 1 = R := by
  cases t with
  | nil => have := h.1; simp at this; omega
  | cons r t => exact ⟨r, t, rfl, (h.2 r (by simp)).1, by simpa using h.1⟩
theorem is_table_eq {st : Sto} {R C : Nat} {t : List (List Int)} (h : Tab R C t) (hR : 1 ≤ R ∧ R ≤ 5) (hC : 1 ≤ C ∧ C ≤ 5) : m_is_a_table [tabT t] st = .ok (.bl true) st := by
  obtain ⟨r0, t', rfl, h0, h1⟩ := tab_cons h hR.1
  have z : t'.length + 1 ≤ sizeLine := szle (by omega)
  have a1 : (1 : Int) ≤ (t'.length : Int) + 1 := by omega
  have a2 : (t'.length : Int) + 1 ≤ 5 := by omega
  have a3 : (1 : Int) ≤ (C : Int) := by omega
  have a4 : (C : Int) ≤ 5 := by omega
  rw [e_is_a_table, b_is_a_table]
  simp [z, a1, a2, a3, a4, h0]
  rw [all_items fun x hx => ?_]
  · simp
  · obtain ⟨y, hy, rfl⟩ : ∃ y ∈ r0 :: t', x = rowT y := by
      rcases List.mem_cons.mp hx with rfl | hx
      · exact ⟨r0, by simp, rfl⟩
      · obtain ⟨y, hy, rfl⟩ := List.mem_map.mp hx
        exact ⟨y, by simp [hy], rfl⟩
    exact ⟨_, rfl, by simp [h0, is_row_eq (h.2 y hy) (by omega)]⟩
theorem is_game_eq {st : Sto} {R C : Nat} {t u : List (List Int)} (h : AnyGame R C t u) : m_is_a_game [gameT t u] st = .ok (.bl true) st := by
  obtain ⟨h1, h2, h3, h4, ht, hu⟩ := h
  have z2 : (2 : Nat) ≤ sizeLine := szle (by decide)
  have tt : ∀ {st}, m_is_a_table [tabT t] st = .ok (.bl true) st := is_table_eq ht ⟨h1, by omega⟩ ⟨h3, by omega⟩
  have tu : ∀ {st}, m_is_a_table [tabT u] st = .ok (.bl true) st := is_table_eq hu ⟨h1, by omega⟩ ⟨h3, by omega⟩
  have like : ∀ {st}, m_are_tables_like [gameT t u, .int R, .int C] st = .ok (.bl true) st := fun {st} => by
    obtain ⟨r0, t', rfl, a0, a1⟩ := tab_cons ht h1
    obtain ⟨s0, u', rfl, b0, b1⟩ := tab_cons hu h1
    rw [e_are_tables_like, b_are_tables_like]
    simp [gameT, z2]
    rw [all_items fun x hx => ?_]
    · simp
      rw [all_items fun x hx => ?_]
      · simp [z2]
      · have e1 : ((R : Int) == (R : Int)) = true := by simp
        have e2 : ((t'.length : Int) + 1 == (R : Int)) = true := by rw [beq_iff_eq]; omega
        have e3 : ((u'.length : Int) + 1 == (R : Int)) = true := by rw [beq_iff_eq]; omega
        rcases List.mem_cons.mp hx with rfl | hx
        · exact ⟨_, rfl, by simp [e2, a0]⟩
        · obtain rfl : x = tabT (s0 :: u') := by simpa using hx
          exact ⟨_, rfl, by simp [e3, b0]⟩
    · rcases List.mem_cons.mp hx with rfl | hx
      · exact ⟨_, rfl, by simp [tt]⟩
      · obtain rfl : x = tabT (s0 :: u') := by simpa using hx
        exact ⟨_, rfl, by simp [tu]⟩
  have hl := ht.1
  obtain ⟨r0, t', rfl, a0, a1⟩ := tab_cons ht h1
  have like' : ∀ {st}, m_are_tables_like [T.tup [tabT (r0 :: t'), tabT u], .int ((t'.length : Int) + 1), .int C] st = .ok (.bl true) st := fun {st} => by
    have := like (st := st)
    rw [← a1] at this
    simpa [gameT] using this
  rw [e_is_a_game, b_is_a_game]
  simp [gameT, tt, a0, like']
theorem need_game_eq {st : Sto} {R C : Nat} {t u : List (List Int)} (h : AnyGame R C t u) : m_need_game [gameT t u] st = .ok .non st := by
  rw [e_need_game, b_need_game]
  simp [is_game_eq h]
theorem need_side_eq {st : Sto} {s : Int} (h : 0 ≤ s ∧ s ≤ 1) : m_need_side [.int s] st = .ok .non st := by
  have e : m_is_a_side [.int s] st = .ok (.bl true) st := by
    rw [e_is_a_side, b_is_a_side]
    simp [is_within_eq, h.1, h.2]
  rw [e_need_side, b_need_side]
  simp [e]
/-! ### guards -/
/-- how many choices a side has; what it gets -/
def manyS (R C : Nat) (s : Int) : Nat := if s = 0 then R else C
theorem many_eq {st : Sto} {R C : Nat} {t u : List (List Int)} (h : AnyGame R C t u) {s : Int} (hs : s = 0 ∨ s = 1) : m_many_of [gameT t u, .int s] st = .ok (.int (manyS R C s : Nat)) st := by
  obtain ⟨h1, h2, h3, h4, ht, hu⟩ := h
  obtain ⟨r0, t', rfl, a0, a1⟩ := tab_cons ht h1
  rw [e_many_of, b_many_of]
  rcases hs with rfl | rfl
  · simp [gameT, manyS]
    omega
  · simp [gameT, manyS, a0]
/-- the numbers that a side gets against a choice of the other one, as a list; all these lists -/
def linesS (C : Nat) (t u : List (List Int)) (s : Int) : List (List Int) := if s = 0 then tr C t else u
theorem at_row {R C i : Nat} {t : List (List Int)} (h : Tab R C t) (hi : i < R) : ∃ r, t[i]? = some r ∧ Row C r := by
  have hl : i < t.length := by rw [h.1]; exact hi
  exact ⟨t[i], List.getElem?_eq_getElem hl, h.2 _ (List.getElem_mem _)⟩
theorem got_eq {st : Sto} {R C : Nat} {t u : List (List Int)} (h : AnyGame R C t u) {s : Int} (hs : s = 0 ∨ s = 1) {own others : Nat} (ho : own < manyS R C s) (hq : others < manyS R C (1 - s)) :
    ∃ l, (linesS C t u s)[others]? = some l ∧ l.length = manyS R C s ∧ m_got [gameT t u, .int s, .int own, .int others] st = .ok (.int (at0 l own)) st := by
  obtain ⟨h1, h2, h3, h4, ht, hu⟩ := h
  rw [e_got, b_got]
  rcases hs with rfl | rfl
  · simp [manyS] at ho hq
    obtain ⟨r, hr, hR⟩ := at_row ht ho
    have e : atI (t.map rowT) (own : Int) = some (rowT r) := atI_nat (by rw [List.getElem?_map, hr]; rfl)
    refine ⟨t.map fun r => at0 r others, ?_, by simp [ht.1, manyS], ?_⟩
    · simp [linesS, tr, hq]
    · have e3 : at0 (t.map fun r => at0 r others) own = at0 r others := by
        unfold at0
        rw [List.getD_eq_getElem?_getD, List.getElem?_map, hr]
        rfl
      simp [gameT, e, row_at hR.1 hq, e3]
  · simp [manyS] at ho hq
    obtain ⟨r, hr, hR⟩ := at_row hu hq
    have e : atI (u.map rowT) (others : Int) = some (rowT r) := atI_nat (by rw [List.getElem?_map, hr]; rfl)
    exact ⟨r, by simp [linesS, hr], by simp [manyS, hR.1], by simp [gameT, e, row_at hR.1 ho]⟩
def dueT (tops : List Int) : T := .tup [.int (mn tops), .int (firstAt tops (mn tops) : Nat)]
theorem ints_get {l : List Int} {n : Nat} (h : l.length = n) : ((List.range n).map fun k => T.int (at0 l k)) = l.map T.int := by
  apply List.ext_getElem
  · simp [h]
  · intro i h1 h2
    simp at h1 h2
    simp [getD_at h2]
theorem lines_ne {R C : Nat} {t u : List (List Int)} (h : AnyGame R C t u) {s : Int} (hs : s = 0 ∨ s = 1) : (linesS C t u s).length = manyS R C (1 - s) ∧ linesS C t u s ≠ [] ∧ (linesS C t u s).length ≤ 4 := by
  obtain ⟨h1, h2, h3, h4, ht, hu⟩ := h
  have e : (linesS C t u s).length = manyS R C (1 - s) := by
    rcases hs with rfl | rfl
    · simp [linesS, tr, manyS]
    · simp [linesS, manyS, hu.1]
  have b : 1 ≤ manyS R C (1 - s) ∧ manyS R C (1 - s) ≤ 4 := by
    unfold manyS
    split <;> omega
  refine ⟨e, fun z => ?_, by omega⟩
  rw [z] at e
  simp at e
  omega
theorem guard_of_eq {st : Sto} {R C : Nat} {t u : List (List Int)} (h : AnyGame R C t u) {s : Int} (hs : s = 0 ∨ s = 1) : m_guard_of [gameT t u, .int s] st = .ok (dueT ((linesS C t u s).map mx)) st := by
  obtain ⟨hl, hne, hl4⟩ := lines_ne h hs
  obtain ⟨n, hn⟩ : ∃ n, manyS R C s = n := ⟨_, rfl⟩
  obtain ⟨m, hm⟩ : ∃ n, manyS R C (1 - s) = n := ⟨_, rfl⟩
  have n4 : 1 ≤ n ∧ n ≤ 4 := by
    rw [← hn]
    have := h.1
    have := h.2.1
    have := h.2.2.1
    have := h.2.2.2.1
    unfold manyS
    split <;> omega
  have m1 : ∀ {st}, m_many_of [gameT t u, .int s] st = .ok (.int (n : Int)) st := fun {st} => by rw [many_eq h hs, hn]
  have m2 : ∀ {st}, m_many_of [gameT t u, .int (1 - s)] st = .ok (.int (m : Int)) st := fun {st} => by rw [many_eq h (s := 1 - s) (by omega), hm]
  have i1 : in62 (n : Int) = true := in62_nat (by omega)
  have i2 : in62 (m : Int) = true := in62_nat (by omega)
  have z1 : n ≤ sizeLine := szle (by omega)
  have goal : Ok (m_guard_of [gameT t u, .int s] st) fun r st' => r = dueT ((linesS C t u s).map mx) ∧ st' = st := by
    generalize hQ : (fun (r : T) (st' : Sto) => r = dueT ((linesS C t u s).map mx) ∧ st' = st) = Q
    rw [e_guard_of, b_guard_of]
    simp [m2, i2]
    rw [ok_end, ok_bind]
    obtain ⟨P, hP⟩ : ∃ P : Nat → Ev → Sto → Prop, P = fun i env st' => ∃ z w, env = [some (gameT t u), some (.int s), some (.ref st.length), z, w] ∧ st' = st ++ [.lst ((((linesS C t u s).take i).map mx).map T.int)] := ⟨_, rfl⟩
    refine ok_for0 P ?_ ?_ ?_
    · rw [hP]
      exact ⟨none, none, rfl, rfl⟩
    · rintro i x env st' hx hp
      rw [hP] at hp
      obtain ⟨z, w, rfl, rfl⟩ := hp
      obtain ⟨rfl, hi⟩ := range_at hx
      refine ⟨_, rfl, ?_⟩
      obtain ⟨l, hl1, hl2, _⟩ := got_eq (st := st) h hs (own := 0) (others := i) (by omega) (by omega)
      have hg : ∀ {o : Ob}, (st ++ [o])[st.length]? = some o := fun {o} => app_last rfl
      simp [m1, i1, z1, hg]
      rw [lc_range (fun k => T.int (at0 l k)) fun k hk => ?_]
      · rw [ints_get (by omega)]
        simp
        rw [p_mx (l := l) rfl (by intro e; rw [e] at hl2; simp at hl2; omega)]
        have z2 : (linesS C t u s).length < sizeLine := szlt (by omega)
        have z3 : min i (linesS C t u s).length < sizeLine := szlt (by omega)
        simp [hg, z2, z3]
        rw [hP]
        refine ⟨_, _, rfl, ?_⟩
        rw [List.take_add_one, hl1]
        simp
      · refine ⟨_, rfl, ?_⟩
        obtain ⟨l', h1, _, h3⟩ := got_eq (st := st ++ [Ob.lst ((((linesS C t u s).take i).map mx).map T.int)]) h hs (own := k) (others := i) (by omega) (by omega)
        rw [hl1] at h1
        cases h1
        simpa using h3
    · rintro env st' hp
      rw [hP] at hp
      obtain ⟨z, w, rfl, rfl⟩ := hp
      rw [range_len, List.take_of_length_le (by omega)]
      have hg : ∀ {o : Ob}, (st ++ [o])[st.length]? = some o := fun {o} => app_last rfl
      have ne : (linesS C t u s).map mx ≠ [] := by simpa using hne
      have s1 : seqOf (.ref st.length) (st ++ [Ob.lst (((linesS C t u s).map mx).map T.int)]) = some (((linesS C t u s).map mx).map T.int) := by simp [hg]
      have s2 : lstOf (.ref st.length) (st ++ [Ob.lst (((linesS C t u s).map mx).map T.int)]) = some (((linesS C t u s).map mx).map T.int) := by simp [hg]
      have z2 : (2 : Nat) ≤ sizeLine := szle (by decide)
      generalize hl' : (linesS C t u s).map mx = tops at *
      simp [p_mn s1 ne, s2, m_index s2 (mn_mem ne), z2]
      rw [← hQ]
      exact ⟨rfl, rfl⟩
  obtain ⟨a, st', e, rfl, rfl⟩ := ok_ex goal
  exact e
theorem guard_eq {st : Sto} {R C : Nat} {t u : List (List Int)} (h : AnyGame R C t u) {s : Int} (hs : s = 0 ∨ s = 1) : m_guard [gameT t u, .int s] st = .ok (dueT ((linesS C t u s).map mx)) st := by
  rw [e_guard, b_guard]
  simp [need_game_eq h, need_side_eq (show 0 ≤ s ∧ s ≤ 1 by omega), guard_of_eq h hs, dueT]
theorem due_eq {st : Sto} {R C : Nat} {t u : List (List Int)} (h : AnyGame R C t u) {s : Int} (hs : s = 0 ∨ s = 1) : m__law_due [gameT t u, .int s] st = .ok (dueT ((linesS C t u s).map mx)) st := by
  have z2 : (2 : Nat) ≤ sizeLine := szle (by decide)
  obtain ⟨hl, hne, hl4⟩ := lines_ne h hs
  have ne : (linesS C t u s).map mx ≠ [] := by simpa using hne
  have z3 : (linesS C t u s).length ≤ sizeLine := szle (by omega)
  obtain ⟨h1, h2, h3, h4, ht, hu⟩ := h
  rw [e__law_due, b__law_due]
  rcases hs with rfl | rfl
  · obtain ⟨r0, t', e0, a0, a1⟩ := tab_cons ht h1
    have i1 : in62 (C : Int) = true := in62_nat (by omega)
    have zC : C ≤ sizeLine := szle (by omega)
    have zR : t.length ≤ sizeLine := szle (by have := ht.1; omega)
    have e1 : atI (t.map rowT) 0 = some (rowT r0) := by rw [e0]; simp
    simp [gameT, e1, a0, i1, zC]
    rw [lc_range (fun j => rowL (t.map fun r => at0 r j)) fun j hj => ⟨_, rfl, ?_⟩]
    · have e2 : ((List.range C).map fun j => rowL (t.map fun r => at0 r j)) = (tr C t).map rowL := by simp [tr, Function.comp_def]
      rw [e2]
      have e3 : linesS C t u 0 = tr C t := rfl
      rw [e3] at z3 ne ⊢
      simp [z3]
      rw [lc_mapE rowL (fun l => T.int (mx l)) fun l hl => ⟨_, rfl, ?_⟩]
      · have e4 : ((tr C t).map fun l => T.int (mx l)) = ((tr C t).map mx).map T.int := by simp [Function.comp_def]
        simp only [List.nil_append, e4]
        generalize hl' : (tr C t).map mx = tops at *
        simp [p_mn (x := .lst (tops.map T.int)) rfl ne, m_index (x := .lst (tops.map T.int)) rfl (mn_mem ne), z2, dueT]
      · simp
        refine p_mx (l := l) rfl fun e => ?_
        have := (tr_tab ht).2 l hl
        rw [e] at this
        have := this.1
        simp at this
        omega
    · simp [zR]
      rw [lc_mapE rowT (fun r => T.int (at0 r j)) fun r hr => ⟨_, rfl, by simp [row_at (ht.2 r hr).1 hj]⟩]
      simp [rowL, Function.comp_def]
  · have e3 : linesS C t u 1 = u := rfl
    rw [e3] at z3 ne ⊢
    simp [gameT, z3]
    rw [lc_mapE rowT (fun l => T.int (mx l)) fun l hl => ⟨_, rfl, ?_⟩]
    · have e4 : (u.map fun l => T.int (mx l)) = (u.map mx).map T.int := by simp [Function.comp_def]
      simp only [List.nil_append, e4]
      generalize hl' : u.map mx = tops at *
      simp [p_mn (x := .lst (tops.map T.int)) rfl ne, m_index (x := .lst (tops.map T.int)) rfl (mn_mem ne), z2, dueT]
    · simp
      refine p_mx (l := l) rfl fun e => ?_
      have := hu.2 l hl
      rw [e] at this
      have := this.1
      simp at this
      omega
theorem due_same {tops : List Int} {st : Sto} : pEqB (fun b => b) (dueT tops) (dueT tops) st = .ok (.bl true) st := by
  rw [p_eqD (d := .tuple [.int (mn tops), .int (firstAt tops (mn tops) : Nat)]) (e := .tuple [.int (mn tops), .int (firstAt tops (mn tops) : Nat)]) rfl rfl (by rfl) (by rfl)]
  simp [PyData.eqv, PyData.eqvAll]
theorem right_eq {st : Sto} {R C : Nat} {t u : List (List Int)} (h : AnyGame R C t u) {s named : Int} (hs : s = 0 ∨ s = 1) : m__law_right [gameT t u, .int s, .int named] st = .ok (.bl true) st := by
  rw [e__law_right, b__law_right]
  have g1 : ∀ {st}, m_guard [gameT t u, .int s] st = .ok (dueT ((linesS C t u s).map mx)) st := fun {st} => guard_eq h hs
  have g2 : gK 0 2 [1, 0] [] [T.int s, gameT t u] = [gameT t u, .int s] := rfl
  have g3 : ∀ {st}, m__law_due [gameT t u, .int s] st = .ok (dueT ((linesS C t u s).map mx)) st := fun {st} => due_eq h hs
  generalize (linesS C t u s).map mx = tops at *
  have fin : ∀ b : Bool, (if b = true then (Out.ok (dueT tops) st : Out T) else Out.ok (dueT tops) st) = Out.ok (dueT tops) st := fun b => by cases b <;> rfl
  have z2 : (2 : Nat) ≤ sizeLine := szle (by decide)
  by_cases hn : named = 1
  · subst hn
    simp [g1, g2]
    simp [dueT, forL]
    have := due_same (tops := tops) (st := st)
    simp [dueT] at this g3
    simp [g3, this]
  · have e : (named == 1) = false := by simp [hn]
    simp [g1, e]
    simp [dueT, forL]
    have := due_same (tops := tops) (st := st)
    simp [dueT] at this g3
    simp [g3, this]
theorem log_bits {n : Int} (h : Builtin.Int.intBits n ≤ 1048576) : n.natAbs.log2 ≤ 1048576 := by
  unfold Builtin.Int.intBits at h
  split at h
  · next e =>
    rw [show n.natAbs = 0 by simpa using e]
    decide
  · omega
theorem pool_spec {ns : List Int} {k : Nat} (hl : ns.length ≤ 63) (hb : ∀ n ∈ ns, Builtin.Int.intBits n ≤ 1048576) (hk : k < 8) {st : Sto} :
    Ok (m__law_pool [.lst (ns.map T.int), .int k] st) fun r st' => ∃ a b, r = .ref st.length ∧ st' = st ++ [poolO a b 0] := by
  generalize hQ : (fun (r : T) (st' : Sto) => ∃ a b, r = .ref st.length ∧ st' = st ++ [poolO a b 0]) = Q
  have m1 : mulOk 40009 (k : Int) = true := mul_ok 30 30 (by omega) (by omega)
  have m2 : mulOk 1009 (ns.length : Int) = true := mul_ok 30 30 (by omega) (by omega)
  have m3 : mulOk 31 (k : Int) = true := mul_ok 30 30 (by omega) (by omega)
  have m4 : mulOk 211 (k : Int) = true := mul_ok 30 30 (by omega) (by omega)
  have z3 : (3 : Nat) ≤ sizeLine := szle (by decide)
  -- behind own
  have main : ∀ own : Int, own.natAbs.log2 ≤ 1048576 → ∀ env, env = [some (T.lst (ns.map T.int)), some (.int k), some (.int own), none, none] →
      Ok ((sSeq (sSet 3 (eBin pAdd (eBin pAdd (eBin pMul (eC (.int 1009)) (ePrim pLen (aCons (eVar 0) (aNil)))) (eBin pMul (eC (.int 31)) (eVar 1))) (eC (.int 5))))
    (sSeq (sFor (iSeq (eVar 0)) (gtName 4) (sSet 3 (eBin pMod (ePrim pInt (aCons (eBin pAdd (eBin pMul (eVar 3) (eC (.int 6151))) (eBin pMod (ePrim pInt (aCons (eVar 4) (aNil))) (eBin pAdd (eC (.int 10000000000000000000000)) (eC (.int 9))))) (aNil))) (eBin pAdd (eC (.int 1000000000000000000000000000)) (eC (.int 103))))))
    (sSeq (sSet 3 (eBin pMod (ePrim pInt (aCons (eBin pAdd (eBin pAdd (eBin pAdd (eBin pMul (eVar 3) (eC (.int 17))) (eBin pMul (ePrim pAbs (aCons (eVar 2) (aNil))) (eC (.int 12007)))) (eBin pMul (ePrim pInt (aCons (eBin pLt (eVar 2) (eC (.int 0))) (aNil))) (eC (.int 5)))) (eBin pMul (eC (.int 211)) (eVar 1))) (aNil))) (eBin pAdd (eC (.int 1000000000000000000000000000)) (eC (.int 103)))))
    (sRet (eObj (aCons (ePrim pMax (aCons (eC (.int 0)) (aCons (eBin pSub (ePrim pAbs (aCons (eVar 2) (aNil))) (eC (.int 1000000000000000000))) (aNil)))) (aCons (eVar 3) (aCons (eC (.int 0)) (aNil))))))))) env st) fun fl st2 => Ok (endF st.length (.ok fl st2)) Q := by
    rintro own ho _ rfl
    have m5 : mulOk (if own < 0 then -own else own) 12007 = true := by
      rw [mulOk_iff]
      have e : (if own < 0 then -own else own).natAbs = own.natAbs := by split <;> omega
      rw [e]
      have : (12007 : Int).natAbs.log2 < 1000 := by decide +kernel
      omega
    have m6 : mulOk (if own < 0 then 1 else 0) 5 = true := by split <;> exact mul_ok 5 5 (by decide) (by decide)
    simp [m2, m3]
    rw [ok_bind]
    obtain ⟨P, hP⟩ : ∃ P : Nat → Ev → Sto → Prop, P = fun i env st' => ∃ mixed z, env = [some (T.lst (ns.map T.int)), some (.int k), some (.int own), some (.int mixed), z] ∧ st' = st ∧ 0 ≤ mixed ∧ mixed < 1000000000000000000000000103 := ⟨_, rfl⟩
    refine ok_for0 P ?_ ?_ ?_
    · rw [hP]
      exact ⟨_, _, rfl, rfl, by omega, by omega⟩
    · rintro i x env st' hx hp
      rw [hP] at hp
      obtain ⟨mixed, z, rfl, rfl, h0, h1⟩ := hp
      obtain ⟨n, hn, rfl⟩ : ∃ n ∈ ns, T.int n = x := List.mem_map.mp (List.mem_of_getElem? hx)
      have m7 : mulOk mixed 6151 = true := mul_ok 100 30 (by omega) (by omega)
      refine ⟨_, rfl, ?_⟩
      simp [m7]
      rw [hP]
      exact ⟨_, _, rfl, rfl, Int.emod_nonneg _ (by decide), Int.emod_lt_of_pos _ (by decide)⟩
    · rintro env st' hp
      rw [hP] at hp
      obtain ⟨mixed, z, rfl, rfl, h0, h1⟩ := hp
      have m8 : mulOk mixed 17 = true := mul_ok 100 30 (by omega) (by omega)
      simp [m8, m5, m6, m4, z3]
      rw [← hQ]
      exact ⟨_, _, rfl, rfl⟩
  rw [e__law_pool, b__law_pool]
  rw [ok_end]
  simp only [ok_seq, s_set, x_bin, x_c, x_var, bind_ok, k_bin, List.getElem?_cons_succ, List.getElem?_cons_zero, p_mulI, m1, if_true, p_addI, k_set, ok_ok, k_seqN]
  by_cases h : k < ns.length
  · have e : atI (ns.map T.int) (k : Int) = some (.int ns[k]) := atI_nat (by rw [List.getElem?_map, List.getElem?_eq_getElem h]; rfl)
    refine ok_of (a := .nx [some (T.lst (ns.map T.int)), some (.int k), some (.int ns[k]), none, none]) (st := st) ?_ (main ns[k] (log_bits (hb _ (List.getElem_mem h))) _ rfl)
    simp [h, e]
  · refine ok_of (a := .nx [some (T.lst (ns.map T.int)), some (.int k), some (.int (40009 * k + 271)), none, none]) (st := st) ?_ (main _ ?_ _ rfl)
    · simp [h]
    · have : ((40009 * (k : Int) + 271)).natAbs.log2 < 30 := PySem.Flt.log2_lt_of (by decide) (by omega)
      omega
theorem cell_eq {ns : List Int} {k : Nat} (hl : ns.length ≤ 63) (hb : ∀ n ∈ ns, Builtin.Int.intBits n ≤ 1048576) (hk : k < 8) {st : Sto} : m__law_cell_right [.lst (ns.map T.int), .int k] st = .ok (.bl true) st := by
  have goal : Ok (m__law_cell_right [.lst (ns.map T.int), .int k] st) fun r st' => r = .bl true ∧ st' = st := by
    generalize hQ : (fun (r : T) (st' : Sto) => r = .bl true ∧ st' = st) = Q
    rw [e__law_cell_right, b__law_cell_right]
    simp
    rw [ok_end]
    simp only [ok_bind]
    refine ok_mono (pool_spec hl hb hk) ?_
    rintro _ _ ⟨a, b, rfl, rfl⟩
    have set1 : ∀ {o o' : Ob}, (st ++ [o]).set st.length o' = st ++ [o'] := fun {o o'} => set_last rfl
    simp
    simp only [ok_bind]
    refine ok_mono (game_spec (app_last rfl) (by omega)) ?_
    rintro _ _ ⟨R, C, t, u, a1, c1, rfl, hg, rfl, hc1, hc1'⟩
    rw [set1]
    simp
    simp only [ok_bind]
    refine ok_mono (game_spec (app_last rfl) (by omega)) ?_
    rintro _ _ ⟨R2, C2, t2, u2, a2, c2, rfl, hg2, rfl, hc2, hc2'⟩
    rw [set1]
    simp
    simp only [ok_bind]
    refine ok_mono (take_spec (app_last rfl) (by omega) (by omega)) ?_
    rintro _ _ ⟨first, a3, c3, rfl, hf0, hf1, rfl, hc3, hc3'⟩
    rw [set1]
    simp
    simp only [ok_bind]
    refine ok_mono (take_spec (app_last rfl) (by omega) (by omega)) ?_
    rintro _ _ ⟨named, a4, c4, rfl, hn0, hn1, rfl, hc4, hc4'⟩
    rw [set1]
    have z3 : (3 : Nat) ≤ sizeLine := szle (by decide)
    have z2 : (2 : Nat) ≤ sizeLine := szle (by decide)
    have r1 : ∀ {s named : Int} {st}, (s = 0 ∨ s = 1) → m__law_right [gameT t u, .int s, .int named] st = .ok (.bl true) st := fun hs => right_eq hg hs
    have r2 : ∀ {s named : Int} {st}, (s = 0 ∨ s = 1) → m__law_right [gameT t2 u2, .int s, .int named] st = .ok (.bl true) st := fun hs => right_eq hg2 hs
    have f1 : first = 0 ∨ first = 1 := by omega
    have f2 : 1 - first = 0 ∨ 1 - first = 1 := by omega
    simp [z3, z2, forL, r1, r2, f1, f2]
    rw [← hQ]
    exact ⟨rfl, rfl⟩
  obtain ⟨a, st', e, rfl, rfl⟩ := ok_ex goal
  exact e
theorem law_true (ns : List Int) (h : ns.length ≤ 63) (hb : ∀ n ∈ ns, Builtin.Int.intBits n ≤ 1048576) : ∃ st', m_law [.lst (ns.map T.int)] [] = .ok (.bl true) st' := by
  have goal : Ok (m_law [.lst (ns.map T.int)] []) fun r st' => r = .bl true := by
    rw [e_law, b_law]
    obtain ⟨n, hn, hn8⟩ : ∃ n : Nat, max 1 (min 8 (ns.length : Int)) = (n : Int) ∧ n ≤ 8 := ⟨(max 1 (min 8 (ns.length : Int))).toNat, by omega, by omega⟩
    have i1 : in62 (n : Int) = true := in62_nat (by omega)
    simp [hn, i1]
    rw [ok_end, ok_bind]
    refine ok_for0 (fun i env st' => ∃ z, env = [some (.lst (ns.map T.int)), z]) ?_ ?_ ?_
    · exact ⟨_, rfl⟩
    · rintro i x env st' hx ⟨z, rfl⟩
      obtain ⟨rfl, hi⟩ := range_at hx
      refine ⟨_, rfl, ?_⟩
      simp [cell_eq h hb (show i < 8 by omega)]
    · rintro env st' ⟨z, rfl⟩
      simp
  obtain ⟨a, st', e, rfl⟩ := ok_ex goal
  exact ⟨st', e⟩
end NSP

set_option Elab.async false
set_option linter.all false
set_option maxRecDepth 100000
set_option maxHeartbeats 4000000
open PySem PySem.W PyProof.Rows
set_option maxHeartbeats 0 in
theorem PySem.Challenge.cw_steadyhands_k66_guards_of_both_sides_holds : PySem.Challenge.rw_steadyhands_k66_guards_of_both_sides.Holds := by
  w_on; o_law; k_head; (case hw => w_witness2)
  k_fill
  refine L2.walk_ofB (l := PySem.Challenge.rw_steadyhands_k66_guards_of_both_sides) (n := 63) (k := 11) (x := "script") (CX := fun _ => L2.CX0) (sp := fun w => Dn.SpD _ NSP.m_law) rfl (by decide) rfl ⟨rfl, by decide, by decide⟩ (fun w h Y => PySem.W.kIn_of Y) ?F (fun _ H a ns hl hb _ hS => Dn.law_imp NSP.law_true [.ref a] H _ _ ⟨a, ns, rfl, hS, hl, hb, fun _ => rfl⟩) (fun _ _ _ _ _ h => h)
  case F =>
    intro w mg fa h KX G hmg
    refine' NSP.all_mk KX G hmg ?a__law_pool ?l__law_pool ?k__law_pool ?q__law_pool ?a__law_take ?l__law_take ?k__law_take ?q__law_take ?a__law_lines ?l__law_lines ?k__law_lines ?q__law_lines ?a__law_frozen ?l__law_frozen ?k__law_frozen ?q__law_frozen ?a__law_game ?l__law_game ?k__law_game ?q__law_game ?a_is_integer ?l_is_integer ?k_is_integer ?q_is_integer ?a_is_within ?l_is_within ?k_is_within ?q_is_within ?a_is_a_row ?l_is_a_row ?k_is_a_row ?q_is_a_row ?a_is_a_table ?l_is_a_table ?k_is_a_table ?q_is_a_table ?a_are_tables_like ?l_are_tables_like ?k_are_tables_like ?q_are_tables_like ?a_is_a_game ?l_is_a_game ?k_is_a_game ?q_is_a_game ?a_need_game ?l_need_game ?k_need_game ?q_need_game ?a_is_a_side ?l_is_a_side ?k_is_a_side ?q_is_a_side ?a_need_side ?l_need_side ?k_need_side ?q_need_side ?a_many_of ?l_many_of ?k_many_of ?q_many_of ?a_got ?l_got ?k_got ?q_got ?a_guard_of ?l_guard_of ?k_guard_of ?q_guard_of ?a_guard ?l_guard ?k_guard ?q_guard ?a__law_due ?l__law_due ?k__law_due ?q__law_due ?a__law_right ?l__law_right ?k__law_right ?q__law_right ?a__law_cell_right ?l__law_cell_right ?k__law_cell_right ?q__law_cell_right ?a_law ?l_law ?k_law ?q_law ?y_abs ?y_all ?y_bool ?y_int ?y_isinstance ?y_len ?y_max ?y_min ?y_range ?y_tuple ?x_MOST_CHOICES ?x_MOST_NUMBER
    (case a__law_pool => k_is)
    (case l__law_pool => k_is)
    (case k__law_pool => k_is)
    (case q__law_pool => k_is)
    (case a__law_take => k_is)
    (case l__law_take => k_is)
    (case k__law_take => k_is)
    (case q__law_take => k_is)
    (case a__law_lines => k_is)
    (case l__law_lines => k_is)
    (case k__law_lines => k_is)
    (case q__law_lines => k_is)
    (case a__law_frozen => k_is)
    (case l__law_frozen => k_is)
    (case k__law_frozen => k_is)
    (case q__law_frozen => k_is)
    (case a__law_game => k_is)
    (case l__law_game => k_is)
    (case k__law_game => k_is)
    (case q__law_game => k_is)
    (case a_is_integer => k_is)
    (case l_is_integer => k_is)
    (case k_is_integer => k_is)
    (case q_is_integer => k_is)
    (case a_is_within => k_is)
    (case l_is_within => k_is)
    (case k_is_within => k_is)
    (case q_is_within => k_is)
    (case a_is_a_row => k_is)
    (case l_is_a_row => k_is)
    (case k_is_a_row => k_is)
    (case q_is_a_row => k_is)
    (case a_is_a_table => k_is)
    (case l_is_a_table => k_is)
    (case k_is_a_table => k_is)
    (case q_is_a_table => k_is)
    (case a_are_tables_like => k_is)
    (case l_are_tables_like => k_is)
    (case k_are_tables_like => k_is)
    (case q_are_tables_like => k_is)
    (case a_is_a_game => k_is)
    (case l_is_a_game => k_is)
    (case k_is_a_game => k_is)
    (case q_is_a_game => k_is)
    (case a_need_game => k_is)
    (case l_need_game => k_is)
    (case k_need_game => k_is)
    (case q_need_game => k_is)
    (case a_is_a_side => k_is)
    (case l_is_a_side => k_is)
    (case k_is_a_side => k_is)
    (case q_is_a_side => k_is)
    (case a_need_side => k_is)
    (case l_need_side => k_is)
    (case k_need_side => k_is)
    (case q_need_side => k_is)
    (case a_many_of => k_is)
    (case l_many_of => k_is)
    (case k_many_of => k_is)
    (case q_many_of => k_is)
    (case a_got => k_is)
    (case l_got => k_is)
    (case k_got => k_is)
    (case q_got => k_is)
    (case a_guard_of => k_is)
    (case l_guard_of => k_is)
    (case k_guard_of => k_is)
    (case q_guard_of => k_is)
    (case a_guard => k_is)
    (case l_guard => k_is)
    (case k_guard => k_is)
    (case q_guard => k_is)
    (case a__law_due => k_is)
    (case l__law_due => k_is)
    (case k__law_due => k_is)
    (case q__law_due => k_is)
    (case a__law_right => k_is)
    (case l__law_right => k_is)
    (case k__law_right => k_is)
    (case q__law_right => k_is)
    (case a__law_cell_right => k_is)
    (case l__law_cell_right => k_is)
    (case k__law_cell_right => k_is)
    (case q__law_cell_right => k_is)
    (case a_law => k_is)
    (case l_law => k_is)
    (case k_law => k_is)
    (case q_law => k_is)
    (case y_abs => k_is)
    (case y_all => k_is)
    (case y_bool => k_is)
    (case y_int => k_is)
    (case y_isinstance => k_is)
    (case y_len => k_is)
    (case y_max => k_is)
    (case y_min => k_is)
    (case y_range => k_is)
    (case y_tuple => k_is)
    (case x_MOST_CHOICES => k_is)
    (case x_MOST_NUMBER => k_is)
