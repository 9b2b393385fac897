import PyProof.Rows.All
import Wide.All
import OpenK.AllK
import Wide.FinOn
import HandS.ForMost
import HandS.Deep
import HandS.TupAny
import HandS.Flow
import HandS.IsInst
import HandS.More
import HandS.Wide
import HandS.TupLe
import HandS.Style
import HandS.SortInts
import HandS.Text
import PySem.Challenge.RW_pagewright_k00_whole_numbers
set_option Elab.async false
set_option linter.all false
set_option maxRecDepth 100000
set_option maxHeartbeats 8000000
/-! Dl: a layer of plain data over HandS. D: a value as a tree; Sh: shared, never written; R: by a mode, owned nodes listed. -/
namespace Dl
open PySem L2

inductive D where
  | non | bl (b : Bool) | int (i : Int) | str (x : Str)
  | lst (xs : List D) | frl (xs : List D) | tup (xs : List D)
  | dK (ks : List Key) (xs : List D) | dT (ks : List (List Key)) (xs : List D)
  | val (v : V)
  /-- a slot's thing that was owned and is shared now -/
  | shd (d : D)

/-- a mode: shared, or owned with children of a mode -/
inductive Md where
  | sh | own (c : Md)
  deriving DecidableEq

abbrev Fg := List (Addr × HO)
def GLe (G G' : Hp) : Prop := ∀ a u, G a = some u → G' a = some u
theorem GLe.refl (G : Hp) : GLe G G := fun _ _ h => h
theorem GLe.trans {G1 G2 G3 : Hp} (a : GLe G1 G2) (b : GLe G2 G3) : GLe G1 G3 := fun c o h => b c o (a c o h)
theorem GLe.rd {G G' : Hp} (h : GLe G G') {a : Addr} {u : HO} (r : Rd G a u) : Rd G' a u := by
  rcases r with r | ⟨o, r⟩
  · exact .inl (h _ _ r)
  · exact .inr ⟨o, h _ _ r⟩
theorem GLe.sqL {K : PySem.W.Frag} {G G' : Hp} (h : GLe G G') {a : Addr} {xs : List V} (r : SqL K G a xs) : SqL K G' a xs := r.imp h.rd id
theorem GLe.sqT {K : PySem.W.Frag} {G G' : Hp} (h : GLe G G') {a : Addr} {xs : List V} (r : SqT K G a xs) : SqT K G' a xs := r.imp h.rd id

mutual
def Sh (K : PySem.W.Frag) (G : Hp) : D → V → Prop
  | .non, v => v = .non
  | .bl b, v => v = .bl b
  | .int i, v => v = .int i
  | .str x, v => v = .str x
  | .lst ds, v => ∃ a vs, v = .ref a ∧ G a = some (.lst vs) ∧ ShL K G ds vs
  | .frl ds, v => ∃ a vs, v = .ref a ∧ SqL K G a vs ∧ ShL K G ds vs
  | .tup ds, v => ∃ a vs, v = .ref a ∧ SqT K G a vs ∧ ShL K G ds vs
  | .dK ks ds, v => ∃ a vs, v = .ref a ∧ G a = some (.dK (ks.zip vs)) ∧ vs.length = ks.length ∧ ShL K G ds vs
  | .dT ks ds, v => ∃ a vs, v = .ref a ∧ G a = some (.dT (ks.zip vs)) ∧ vs.length = ks.length ∧ ShL K G ds vs
  | .val w, v => v = w
  | .shd d, v => Sh K G d v
def ShL (K : PySem.W.Frag) (G : Hp) : List D → List V → Prop
  | [], vs => vs = []
  | d :: ds, vs => ∃ v r, vs = v :: r ∧ Sh K G d v ∧ ShL K G ds r
end

mutual
def R (K : PySem.W.Frag) (G : Hp) : D → Md → V → Fg → Prop
  | .non, _, v, o => o = [] ∧ v = .non
  | .bl b, _, v, o => o = [] ∧ v = .bl b
  | .int i, _, v, o => o = [] ∧ v = .int i
  | .str x, _, v, o => o = [] ∧ v = .str x
  | .lst ds, .sh, v, o => o = [] ∧ ∃ a vs, v = .ref a ∧ G a = some (.lst vs) ∧ ShL K G ds vs
  | .frl ds, _, v, o => o = [] ∧ ∃ a vs, v = .ref a ∧ SqL K G a vs ∧ ShL K G ds vs
  | .lst ds, .own c, v, o => ∃ a vs o', v = .ref a ∧ o = (a, .lst vs) :: o' ∧ RL K G ds c vs o'
  | .tup ds, .sh, v, o => o = [] ∧ ∃ a vs, v = .ref a ∧ SqT K G a vs ∧ ShL K G ds vs
  | .tup ds, .own c, v, o => ∃ a vs, v = .ref a ∧ SqT K G a vs ∧ RL K G ds c vs o
  | .dK ks ds, .sh, v, o => o = [] ∧ ∃ a vs, v = .ref a ∧ G a = some (.dK (ks.zip vs)) ∧ vs.length = ks.length ∧ ShL K G ds vs
  | .dK ks ds, .own c, v, o => ∃ a vs o', v = .ref a ∧ o = (a, .dK (ks.zip vs)) :: o' ∧ vs.length = ks.length ∧ RL K G ds c vs o'
  | .dT ks ds, .sh, v, o => o = [] ∧ ∃ a vs, v = .ref a ∧ G a = some (.dT (ks.zip vs)) ∧ vs.length = ks.length ∧ ShL K G ds vs
  | .dT ks ds, .own c, v, o => ∃ a vs o', v = .ref a ∧ o = (a, .dT (ks.zip vs)) :: o' ∧ vs.length = ks.length ∧ RL K G ds c vs o'
  | .val w, _, v, o => o = [] ∧ v = w
  | .shd d, _, v, o => o = [] ∧ Sh K G d v
def RL (K : PySem.W.Frag) (G : Hp) : List D → Md → List V → Fg → Prop
  | [], _, vs, o => vs = [] ∧ o = []
  | d :: ds, m, vs, o => ∃ v r o1 o2, vs = v :: r ∧ o = o1 ++ o2 ∧ R K G d m v o1 ∧ RL K G ds m r o2
end

section
variable {K : PySem.W.Frag} {G G' H H' : Hp}
mutual
theorem Sh.mono (h : GLe G G') : ∀ (d : D) {v : V}, Sh K G d v → Sh K G' d v
  | .non, _, r => r
  | .bl _, _, r => r
  | .int _, _, r => r
  | .str _, _, r => r
  | .lst ds, _, ⟨a, vs, e, q, r⟩ => ⟨a, vs, e, h _ _ q, ShL.mono h ds r⟩
  | .frl ds, _, ⟨a, vs, e, q, r⟩ => ⟨a, vs, e, h.sqL q, ShL.mono h ds r⟩
  | .tup ds, _, ⟨a, vs, e, q, r⟩ => ⟨a, vs, e, h.sqT q, ShL.mono h ds r⟩
  | .dK _ ds, _, ⟨a, vs, e, q, l, r⟩ => ⟨a, vs, e, h _ _ q, l, ShL.mono h ds r⟩
  | .dT _ ds, _, ⟨a, vs, e, q, l, r⟩ => ⟨a, vs, e, h _ _ q, l, ShL.mono h ds r⟩
  | .val _, _, r => r
  | .shd d, _, r => Sh.mono h d r
theorem ShL.mono (h : GLe G G') : ∀ (ds : List D) {vs : List V}, ShL K G ds vs → ShL K G' ds vs
  | [], _, r => r
  | d :: ds, _, ⟨v, r, e, q, t⟩ => ⟨v, r, e, Sh.mono h d q, ShL.mono h ds t⟩
end
mutual
theorem R.mono (h : GLe G G') : ∀ (d : D) {m : Md} {v : V} {o : Fg}, R K G d m v o → R K G' d m v o
  | .non, _, _, _, r => r
  | .bl _, _, _, _, r => r
  | .int _, _, _, _, r => r
  | .str _, _, _, _, r => r
  | .lst ds, .sh, _, _, ⟨z, a, vs, e, q, r⟩ => ⟨z, a, vs, e, h _ _ q, ShL.mono h ds r⟩
  | .frl ds, _, _, _, ⟨z, a, vs, e, q, r⟩ => ⟨z, a, vs, e, h.sqL q, ShL.mono h ds r⟩
  | .lst ds, .own _, _, _, ⟨a, vs, o', e, q, r⟩ => ⟨a, vs, o', e, q, RL.mono h ds r⟩
  | .tup ds, .sh, _, _, ⟨z, a, vs, e, q, r⟩ => ⟨z, a, vs, e, h.sqT q, ShL.mono h ds r⟩
  | .tup ds, .own _, _, _, ⟨a, vs, e, q, r⟩ => ⟨a, vs, e, h.sqT q, RL.mono h ds r⟩
  | .dK _ ds, .sh, _, _, ⟨z, a, vs, e, q, l, r⟩ => ⟨z, a, vs, e, h _ _ q, l, ShL.mono h ds r⟩
  | .dK _ ds, .own _, _, _, ⟨a, vs, o', e, q, l, r⟩ => ⟨a, vs, o', e, q, l, RL.mono h ds r⟩
  | .dT _ ds, .sh, _, _, ⟨z, a, vs, e, q, l, r⟩ => ⟨z, a, vs, e, h _ _ q, l, ShL.mono h ds r⟩
  | .dT _ ds, .own _, _, _, ⟨a, vs, o', e, q, l, r⟩ => ⟨a, vs, o', e, q, l, RL.mono h ds r⟩
  | .val _, _, _, _, r => r
  | .shd d, _, _, _, ⟨z, r⟩ => ⟨z, Sh.mono h d r⟩
theorem RL.mono (h : GLe G G') : ∀ (ds : List D) {m : Md} {vs : List V} {o : Fg}, RL K G ds m vs o → RL K G' ds m vs o
  | [], _, _, _, r => r
  | d :: ds, _, _, _, ⟨v, r, o1, o2, e, e2, q, t⟩ => ⟨v, r, o1, o2, e, e2, R.mono h d q, RL.mono h ds t⟩
end

theorem R.sh_iff : ∀ (d : D) {v : V} {o : Fg}, R K G d .sh v o ↔ o = [] ∧ Sh K G d v
  | .non, _, _ => Iff.rfl
  | .bl _, _, _ => Iff.rfl
  | .int _, _, _ => Iff.rfl
  | .str _, _, _ => Iff.rfl
  | .lst _, _, _ => Iff.rfl
  | .frl _, _, _ => Iff.rfl
  | .tup _, _, _ => Iff.rfl
  | .dK _ _, _, _ => Iff.rfl
  | .dT _ _, _, _ => Iff.rfl
  | .val _, _, _ => Iff.rfl
  | .shd _, _, _ => Iff.rfl
theorem R.of_sh {d : D} {v : V} (h : Sh K G d v) : R K G d .sh v [] := (R.sh_iff d).mpr ⟨rfl, h⟩
theorem RL.sh_iff : ∀ (ds : List D) {vs : List V} {o : Fg}, RL K G ds .sh vs o ↔ o = [] ∧ ShL K G ds vs
  | [], _, _ => ⟨fun ⟨a, b⟩ => ⟨b, a⟩, fun ⟨a, b⟩ => ⟨b, a⟩⟩
  | d :: ds, vs, o => by
    constructor
    · rintro ⟨v, r, o1, o2, e, e2, q, t⟩
      obtain ⟨z1, q'⟩ := (R.sh_iff d).mp q
      obtain ⟨z2, t'⟩ := (RL.sh_iff ds).mp t
      subst z1; subst z2
      exact ⟨e2, v, r, e, q', t'⟩
    · rintro ⟨rfl, v, r, e, q, t⟩
      exact ⟨v, r, [], [], e, rfl, R.of_sh q, (RL.sh_iff ds).mpr ⟨rfl, t⟩⟩

/-- a value that is no object -/
def scal : D → Bool
  | .non => true
  | .bl _ => true
  | .int _ => true
  | .str _ => true
  | .val _ => true
  | _ => false
theorem R.scal : ∀ {d : D} {m m' : Md} {v : V} {o : Fg}, scal d = true → R K G d m v o → R K G d m' v o
  | .non, _, _, _, _, _, r => r
  | .bl _, _, _, _, _, _, r => r
  | .int _, _, _, _, _, _, r => r
  | .str _, _, _, _, _, _, r => r
  | .val _, _, _, _, _, _, r => r
theorem RL.scal : ∀ {ds : List D} {m m' : Md} {vs : List V} {o : Fg}, ds.all scal = true → RL K G ds m vs o → RL K G ds m' vs o
  | [], _, _, _, _, _, r => r
  | d :: ds, m, m', _, _, h, ⟨v, r, o1, o2, e, e2, q, t⟩ => by
    rw [List.all_cons, Bool.and_eq_true] at h
    exact ⟨v, r, o1, o2, e, e2, R.scal h.1 q, RL.scal h.2 t⟩
theorem RL.len : ∀ {ds : List D} {m : Md} {vs : List V} {o : Fg}, RL K G ds m vs o → vs.length = ds.length
  | [], _, _, _, ⟨e, _⟩ => by rw [e]; rfl
  | d :: ds, m, _, _, ⟨v, r, o1, o2, e, e2, q, t⟩ => by rw [e]; simp [RL.len t]
theorem ShL.len : ∀ {ds : List D} {vs : List V}, ShL K G ds vs → vs.length = ds.length
  | [], _, e => by rw [show _ = _ from e]; rfl
  | d :: ds, _, ⟨v, r, e, q, t⟩ => by rw [e]; simp [ShL.len t]
theorem ShL.get : ∀ {ds : List D} {vs : List V} {i : Nat} {d : D}, ShL K G ds vs → ds[i]? = some d → ∃ v, vs[i]? = some v ∧ Sh K G d v
  | [], _, _, _, _, e => by simp at e
  | d :: ds, _, 0, _, ⟨v, r, e, q, t⟩, h => by
    simp at h; subst h; subst e
    exact ⟨v, rfl, q⟩
  | d :: ds, _, i + 1, d', ⟨v, r, e, q, t⟩, h => by
    subst e
    obtain ⟨v', a, b⟩ := ShL.get (i := i) t (by simpa using h)
    exact ⟨v', by simpa using a, b⟩
theorem ShL.append : ∀ {ds es : List D} {vs us : List V}, ShL K G ds vs → ShL K G es us → ShL K G (ds ++ es) (vs ++ us)
  | [], _, _, _, e, h => by rw [show _ = _ from e]; exact h
  | d :: ds, _, _, _, ⟨v, r, e, q, t⟩, h => by subst e; exact ⟨v, r ++ _, rfl, q, ShL.append t h⟩
theorem RL.append : ∀ {ds es : List D} {m : Md} {vs us : List V} {o o' : Fg}, RL K G ds m vs o → RL K G es m us o' → RL K G (ds ++ es) m (vs ++ us) (o ++ o')
  | [], _, _, _, _, _, _, ⟨e, e'⟩, h => by subst e; subst e'; exact h
  | d :: ds, _, _, _, _, _, _, ⟨v, r, o1, o2, e, e2, q, t⟩, h => by
    subst e; subst e2
    exact ⟨v, r ++ _, o1, o2 ++ _, rfl, by simp, q, RL.append t h⟩
theorem ShL.take : ∀ {ds : List D} {vs : List V} (n : Nat), ShL K G ds vs → ShL K G (ds.take n) (vs.take n)
  | _, _, 0, _ => by simp [ShL]
  | [], _, n + 1, e => by rw [show _ = _ from e]; simp [ShL]
  | d :: ds, _, n + 1, ⟨v, r, e, q, t⟩ => by subst e; exact ⟨v, r.take n, rfl, q, ShL.take n t⟩
theorem ShL.drop : ∀ {ds : List D} {vs : List V} (n : Nat), ShL K G ds vs → ShL K G (ds.drop n) (vs.drop n)
  | _, _, 0, h => h
  | [], _, n + 1, e => by rw [show _ = _ from e]; simp [ShL]
  | d :: ds, _, n + 1, ⟨v, r, e, q, t⟩ => by subst e; exact ShL.drop n t
theorem ShL.reverse : ∀ {ds : List D} {vs : List V}, ShL K G ds vs → ShL K G ds.reverse vs.reverse
  | [], _, e => by rw [show _ = _ from e]; simp [ShL]
  | d :: ds, _, ⟨v, r, e, q, t⟩ => by
    subst e
    rw [List.reverse_cons, List.reverse_cons]
    exact ShL.append (ShL.reverse t) ⟨v, [], rfl, q, rfl⟩

/-! ### states -/
structure Sat (H G : Hp) (O : Fg) : Prop where
  le : GLe G H
  at_ : ∀ p ∈ O, H p.1 = some p.2 ∧ G p.1 = none
  nd : ∀ a : Addr, O.countP (fun p => p.1 == a) ≤ 1
def Le (O' O : Fg) : Prop := ∀ P : Addr × HO → Bool, O'.countP P ≤ O.countP P
theorem Le.mem {O' O : Fg} (h : Le O' O) {p : Addr × HO} (hp : p ∈ O') : p ∈ O := by
  classical
  have h1 := h (fun q => decide (q = p))
  have h2 : 0 < O'.countP (fun q => decide (q = p)) := List.countP_pos_iff.mpr ⟨p, hp, by simp⟩
  obtain ⟨q, hq, e⟩ := List.countP_pos_iff.mp (Nat.lt_of_lt_of_le h2 h1)
  have e' : q = p := of_decide_eq_true e
  exact e' ▸ hq
theorem Sat.re {O O' : Fg} (s : Sat H G O) (h : Le O' O) : Sat H G O' :=
  ⟨s.le, fun p hp => s.at_ p (h.mem hp), fun a => Nat.le_trans (h _) (s.nd a)⟩
end
local macro_rules | `(tactic| walk_at "fle") => `(tactic| (intro P; simp only [List.countP_append, List.countP_cons, List.countP_nil, List.append_nil, List.nil_append]; first | omega | (split <;> omega)))
section
variable {K : PySem.W.Frag} {G G' H H' : Hp} {O C : Fg} {a p : Addr} {u u' : HO}
theorem Sat.ne (s : Sat H G ((a, u) :: O)) : ∀ q ∈ O, q.1 ≠ a := fun q hq e => by
  have h := s.nd a
  rw [List.countP_cons] at h
  have h2 : 0 < O.countP (fun p => p.1 == a) := List.countP_pos_iff.mpr ⟨q, hq, by simp [e]⟩
  have h3 : ((a, u).1 == a) = true := by simp
  rw [if_pos h3] at h
  omega
/-- a new shared object -/
theorem Sat.newG (s : Sat H G O) (h : H p = none) : Sat (upd H p u) (upd G p u) O ∧ GLe G (upd G p u) := by
  have gn : G p = none := by
    cases e : G p with
    | none => rfl
    | some w => rw [s.le _ _ e] at h; cases h
  refine ⟨⟨fun b w e => ?_, fun q hq => ?_, s.nd⟩, fun b w e => ?_⟩
  · by_cases hb : b = p
    · subst hb; rw [upd_same] at e ⊢; exact e
    · rw [upd_ne hb] at e ⊢; exact s.le _ _ e
  · obtain ⟨h1, h2⟩ := s.at_ q hq
    have hb : q.1 ≠ p := fun e => by rw [e, h] at h1; cases h1
    rw [upd_ne hb, upd_ne hb]; exact ⟨h1, h2⟩
  · have hb : b ≠ p := fun e' => by rw [e', gn] at e; cases e
    rw [upd_ne hb]; exact e
/-- a new owned object -/
theorem Sat.newO (s : Sat H G O) (h : H p = none) : Sat (upd H p u) G ((p, u) :: O) := by
  have gn : G p = none := by
    cases e : G p with
    | none => rfl
    | some w => rw [s.le _ _ e] at h; cases h
  refine ⟨fun b w e => ?_, fun q hq => ?_, fun b => ?_⟩
  · have hb : b ≠ p := fun e' => by rw [e', gn] at e; cases e
    rw [upd_ne hb]; exact s.le _ _ e
  · rcases List.mem_cons.mp hq with rfl | hq
    · exact ⟨upd_same, gn⟩
    · obtain ⟨h1, h2⟩ := s.at_ q hq
      have hb : q.1 ≠ p := fun e => by rw [e, h] at h1; cases h1
      rw [upd_ne hb]; exact ⟨h1, h2⟩
  · rw [List.countP_cons]
    by_cases hb : p = b
    · have z : O.countP (fun q => q.1 == b) = 0 := List.countP_eq_zero.mpr fun q hq hqb => by
        have e : q.1 = b := by simpa using hqb
        have := (s.at_ q hq).1
        rw [e, ← hb, h] at this; cases this
      rw [z]; split <;> omega
    · have : ((p, u).1 == b) = false := by simpa using hb
      rw [this]; have := s.nd b; simp; omega
/-- an owned object is written -/
theorem Sat.write (s : Sat H G ((a, u) :: O)) : Sat (upd H a u') G ((a, u') :: O) := by
  have gn := (s.at_ (a, u) List.mem_cons_self).2
  refine ⟨fun b w e => ?_, fun q hq => ?_, fun b => ?_⟩
  · have hb : b ≠ a := fun e' => by rw [e', gn] at e; cases e
    rw [upd_ne hb]; exact s.le _ _ e
  · rcases List.mem_cons.mp hq with rfl | hq
    · exact ⟨upd_same, gn⟩
    · have hb := s.ne q hq
      rw [upd_ne hb]; exact s.at_ q (List.mem_cons_of_mem _ hq)
  · have h := s.nd b
    rw [List.countP_cons] at h ⊢
    exact h
theorem Sat.own (s : Sat H G ((a, u) :: O)) : H a = some u := (s.at_ (a, u) List.mem_cons_self).1
/-- an owned object is given away -/
theorem Sat.freeze (s : Sat H G ((a, u) :: O)) : Sat H (upd G a u) O ∧ GLe G (upd G a u) := by
  obtain ⟨h1, gn⟩ := s.at_ (a, u) List.mem_cons_self
  refine ⟨⟨fun b w e => ?_, fun q hq => ?_, fun b => ?_⟩, fun b w e => ?_⟩
  · by_cases hb : b = a
    · subst hb; rw [upd_same] at e; cases e; exact h1
    · rw [upd_ne hb] at e; exact s.le _ _ e
  · rw [upd_ne (s.ne q hq)]; exact s.at_ q (List.mem_cons_of_mem _ hq)
  · have h := s.nd b
    rw [List.countP_cons] at h
    omega
  · have hb : b ≠ a := fun e' => by rw [e', gn] at e; cases e
    rw [upd_ne hb]; exact e

mutual
/-- a value is given away: it is shared from now on -/
theorem R.freeze : ∀ (d : D) {m : Md} {v : V} {o C : Fg} {G : Hp}, R K G d m v o → Sat H G (o ++ C) → ∃ G', GLe G G' ∧ Sat H G' C ∧ Sh K G' d v
  | .non, _, _, _, _, G, ⟨z, r⟩, s => ⟨G, GLe.refl G, by subst z; exact s, r⟩
  | .bl _, _, _, _, _, G, ⟨z, r⟩, s => ⟨G, GLe.refl G, by subst z; exact s, r⟩
  | .int _, _, _, _, _, G, ⟨z, r⟩, s => ⟨G, GLe.refl G, by subst z; exact s, r⟩
  | .str _, _, _, _, _, G, ⟨z, r⟩, s => ⟨G, GLe.refl G, by subst z; exact s, r⟩
  | .shd _, _, _, _, _, G, ⟨z, r⟩, s => ⟨G, GLe.refl G, by subst z; exact s, r⟩
  | .val _, _, _, _, _, G, ⟨z, r⟩, s => ⟨G, GLe.refl G, by subst z; exact s, r⟩
  | .frl _, _, _, _, _, G, ⟨z, r⟩, s => ⟨G, GLe.refl G, by subst z; exact s, r⟩
  | .lst _, .sh, _, _, _, G, ⟨z, r⟩, s => ⟨G, GLe.refl G, by subst z; exact s, r⟩
  | .tup _, .sh, _, _, _, G, ⟨z, r⟩, s => ⟨G, GLe.refl G, by subst z; exact s, r⟩
  | .dK _ _, .sh, _, _, _, G, ⟨z, r⟩, s => ⟨G, GLe.refl G, by subst z; exact s, r⟩
  | .dT _ _, .sh, _, _, _, G, ⟨z, r⟩, s => ⟨G, GLe.refl G, by subst z; exact s, r⟩
  | .lst ds, .own _, _, _, C, G, ⟨a, vs, o', e, e2, r⟩, s => by
    subst e2
    obtain ⟨s1, g1⟩ := Sat.freeze (show Sat H G ((a, .lst vs) :: (o' ++ C)) from s)
    obtain ⟨G', g2, s2, q⟩ := RL.freeze ds (RL.mono g1 ds r) s1
    exact ⟨G', g1.trans g2, s2, a, vs, e, g2 _ _ upd_same, q⟩
  | .tup ds, .own _, _, _, C, G, ⟨a, vs, e, t, r⟩, s => by
    obtain ⟨G', g2, s2, q⟩ := RL.freeze ds r s
    exact ⟨G', g2, s2, a, vs, e, g2.sqT t, q⟩
  | .dK ks ds, .own _, _, _, C, G, ⟨a, vs, o', e, e2, l, r⟩, s => by
    subst e2
    obtain ⟨s1, g1⟩ := Sat.freeze (show Sat H G ((a, .dK (ks.zip vs)) :: (o' ++ C)) from s)
    obtain ⟨G', g2, s2, q⟩ := RL.freeze ds (RL.mono g1 ds r) s1
    exact ⟨G', g1.trans g2, s2, a, vs, e, g2 _ _ upd_same, l, q⟩
  | .dT ks ds, .own _, _, _, C, G, ⟨a, vs, o', e, e2, l, r⟩, s => by
    subst e2
    obtain ⟨s1, g1⟩ := Sat.freeze (show Sat H G ((a, .dT (ks.zip vs)) :: (o' ++ C)) from s)
    obtain ⟨G', g2, s2, q⟩ := RL.freeze ds (RL.mono g1 ds r) s1
    exact ⟨G', g1.trans g2, s2, a, vs, e, g2 _ _ upd_same, l, q⟩
theorem RL.freeze : ∀ (ds : List D) {m : Md} {vs : List V} {o C : Fg} {G : Hp}, RL K G ds m vs o → Sat H G (o ++ C) → ∃ G', GLe G G' ∧ Sat H G' C ∧ ShL K G' ds vs
  | [], _, _, _, _, G, ⟨e, z⟩, s => ⟨G, GLe.refl G, by subst z; exact s, e⟩
  | d :: ds, _, _, _, C, G, ⟨v, r, o1, o2, e, e2, q, t⟩, s => by
    subst e2
    obtain ⟨G1, g1, s1, q1⟩ := R.freeze d q (show Sat H G (o1 ++ (o2 ++ C)) by rw [← List.append_assoc]; exact s)
    obtain ⟨G2, g2, s2, q2⟩ := RL.freeze ds (RL.mono g1 ds t) s1
    exact ⟨G2, g1.trans g2, s2, v, r, e, Sh.mono g2 d q1, q2⟩
end
end
end Dl
/-! Dl, second part: environments of data, the mirror's monad, soundness of readings. -/
namespace Dl
open PySem L2
local macro_rules | `(tactic| walk_at "fle") => `(tactic| (intro P; simp only [List.countP_append, List.countP_cons, List.countP_nil, List.append_nil, List.nil_append]; first | omega | (split <;> omega)))

/-- the local names' data -/
abbrev De := List (Option D)
/-- an exception: its class, the fields of its own dict (if it has one) -/
structure XD where
  cls : Value
  own : Bool
  ns : List Str
  xs : List D
inductive Rs (α : Type) where
  | ok (a : α) (ρ : De)
  | ex (x : XD) (ρ : De)
abbrev Mr (α : Type) := De → Option (Rs α)
def bnd {α β : Type} (f : Mr α) (g : α → Mr β) : Mr β := fun ρ => match f ρ with
  | none => none
  | some (.ok a ρ') => g a ρ'
  | some (.ex x ρ') => some (.ex x ρ')
def lft {α : Type} (o : Option α) : Mr α := fun ρ => match o with
  | none => none
  | some a => some (.ok a ρ)
def ret {α : Type} (a : α) : Mr α := fun ρ => some (.ok a ρ)
theorem bnd_ok {α β : Type} {f : Mr α} {g : α → Mr β} {ρ ρ' : De} {a : α} (h : f ρ = some (.ok a ρ')) : bnd f g ρ = g a ρ' := by unfold bnd; rw [h]
theorem bnd_ex {α β : Type} {f : Mr α} {g : α → Mr β} {ρ ρ' : De} {x : XD} (h : f ρ = some (.ex x ρ')) : bnd f g ρ = some (.ex x ρ') := by unfold bnd; rw [h]
theorem bnd_none {α β : Type} {f : Mr α} {g : α → Mr β} {ρ : De} (h : f ρ = none) : bnd f g ρ = none := by unfold bnd; rw [h]
theorem lft_some {α : Type} {a : α} {ρ : De} : lft (some a) ρ = some (.ok a ρ) := rfl

def XR (K : PySem.W.Frag) (G : Hp) (x : XD) (c : Value) (dx : Option Addr) : Prop :=
  c = x.cls ∧ (x.own = false → dx = none) ∧ (x.own = true → ∃ d vs, dx = some d ∧ G d = some (.xd (x.ns.zip vs)) ∧ vs.length = x.ns.length ∧ ShL K G x.xs vs)

structure Sl (K : PySem.W.Frag) (G : Hp) (Γ : List Md) (σ : St) (ρ : De) (os : List Fg) : Prop where
  ls : ρ.length = σ.length
  lo : os.length = σ.length
  lg : Γ.length = σ.length
  at_ : ∀ (i : Nat) (d : D), ρ[i]? = some (some d) → ∃ v m o, σ[i]? = some (some v) ∧ Γ[i]? = some m ∧ os[i]? = some o ∧ R K G d m v o
structure Good (K : PySem.W.Frag) (Γ : List Md) (G H : Hp) (C : Fg) (σ : St) (ρ : De) : Prop where
  ex : ∃ os : List Fg, Sl K G Γ σ ρ os ∧ Sat H G (os.flatten ++ C)

theorem fl_set (P : Addr × HO → Bool) : ∀ {os : List Fg} {i : Nat} {o : Fg}, os[i]? = some o → os.flatten.countP P = o.countP P + ((os.set i []).flatten).countP P
  | [], _, _, h => by simp at h
  | x :: r, 0, o, h => by
    simp at h; subst h
    simp [List.countP_append]
  | x :: r, i + 1, o, h => by
    have := fl_set P (os := r) (i := i) (o := o) (by simpa using h)
    simp only [List.set_cons_succ, List.flatten_cons, List.countP_append]
    omega
theorem fl_put (P : Addr × HO → Bool) {os : List Fg} {i : Nat} (o : Fg) (h : i < os.length) : (os.set i o).flatten.countP P = o.countP P + ((os.set i []).flatten).countP P := by
  have := fl_set P (os := os.set i o) (i := i) (o := o) (by simp [h])
  rwa [List.set_set] at this

section
variable {K : PySem.W.Frag} {Γ : List Md} {G G' H H' : Hp} {C C' o : Fg} {σ : St} {ρ : De} {i : Nat} {d : D} {v : V} {m : Md}
theorem Sl.mono {os : List Fg} (h : Sl K G Γ σ ρ os) (g : GLe G G') : Sl K G' Γ σ ρ os :=
  ⟨h.ls, h.lo, h.lg, fun i d e => let ⟨v, m, o, a, b, c, r⟩ := h.at_ i d e; ⟨v, m, o, a, b, c, R.mono g d r⟩⟩
theorem Good.step (h : Good K Γ G H C σ ρ) (g : GLe G G') (k : ∀ O, Sat H G (O ++ C) → Sat H' G' (O ++ C')) : Good K Γ G' H' C' σ ρ :=
  let ⟨os, a, b⟩ := h.ex; ⟨os, a.mono g, k _ b⟩
theorem Good.re (h : Good K Γ G H C σ ρ) (l : Le C' C) : Good K Γ G H C' σ ρ := h.step (GLe.refl G) fun O s => s.re fun P => by
  have := l P
  simp only [List.countP_append]; omega
theorem Good.sat (h : Good K Γ G H C σ ρ) : Sat H G C := let ⟨_, _, b⟩ := h.ex; b.re (by walk_at "fle")
theorem Good.lenσ (h : Good K Γ G H C σ ρ) : ρ.length = σ.length := let ⟨_, a, _⟩ := h.ex; a.ls
theorem Good.lenΓ (h : Good K Γ G H C σ ρ) : Γ.length = σ.length := let ⟨_, a, _⟩ := h.ex; a.lg
/-- a slot's value, taken out -/
theorem Good.take (h : Good K Γ G H C σ ρ) (e : ρ[i]? = some (some d)) : ∃ v m o, σ[i]? = some (some v) ∧ Γ[i]? = some m ∧ R K G d m v o ∧ Good K Γ G H (o ++ C) σ (ρ.set i none) := by
  obtain ⟨os, a, b⟩ := h.ex
  obtain ⟨v, m, o, e1, e2, e3, r⟩ := a.at_ i d e
  refine ⟨v, m, o, e1, e2, r, os.set i [], ⟨by simpa using a.ls, by simpa using a.lo, a.lg, fun j d' ej => ?_⟩, b.re fun P => ?_⟩
  · by_cases hj : i = j
    · subst hj
      rw [List.getElem?_set_self (List.getElem?_eq_some_iff.mp e).1] at ej; cases ej
    · rw [List.getElem?_set_ne hj] at ej ⊢
      exact a.at_ j d' ej
  · have := fl_set P e3
    simp only [List.countP_append]; omega
/-- a slot forgotten -/
theorem Good.forget (h : Good K Γ G H C σ ρ) : Good K Γ G H C σ (ρ.set i none) := by
  obtain ⟨os, a, b⟩ := h.ex
  refine ⟨os, ⟨by simpa using a.ls, a.lo, a.lg, fun j d' ej => ?_⟩, b⟩
  by_cases hj : i = j
  · subst hj
    by_cases hi : i < ρ.length
    · rw [List.getElem?_set_self hi] at ej; cases ej
    · rw [List.getElem?_eq_none (by simpa using hi)] at ej; cases ej
  · rw [List.getElem?_set_ne hj] at ej
    exact a.at_ j d' ej
/-- a value laid into a slot that holds it -/
theorem Good.back (h : Good K Γ G H (o ++ C) σ ρ) (r : R K G d m v o) (e1 : σ[i]? = some (some v)) (e2 : Γ[i]? = some m) : Good K Γ G H C σ (ρ.set i (some d)) := by
  obtain ⟨os, a, b⟩ := h.ex
  have hi : i < σ.length := (List.getElem?_eq_some_iff.mp e1).1
  have ho : i < os.length := by rw [a.lo]; exact hi
  refine ⟨os.set i o, ⟨by simpa using a.ls, by simpa using a.lo, a.lg, fun j d' ej => ?_⟩, b.re fun P => ?_⟩
  · by_cases hj : i = j
    · subst hj
      rw [List.getElem?_set_self (by rw [a.ls]; exact hi)] at ej; cases ej
      exact ⟨v, m, o, e1, e2, by rw [List.getElem?_set_self ho], r⟩
    · rw [List.getElem?_set_ne hj] at ej
      rw [List.getElem?_set_ne hj]
      exact a.at_ j d' ej
  · have h1 := fl_put P o ho
    obtain ⟨o1, ho1⟩ : ∃ o1, os[i]? = some o1 := ⟨os[i], by simp [ho]⟩
    have h2 := fl_set P ho1
    simp only [List.countP_append]; omega
/-- a slot is assigned -/
theorem Good.put (h : Good K Γ G H (o ++ C) σ ρ) (r : R K G d m v o) (e2 : Γ[i]? = some m) : Good K Γ G H C (σ.set i (some v)) (ρ.set i (some d)) := by
  obtain ⟨os, a, b⟩ := h.ex
  have hi : i < σ.length := by rw [← a.lg]; exact (List.getElem?_eq_some_iff.mp e2).1
  have ho : i < os.length := by rw [a.lo]; exact hi
  refine ⟨os.set i o, ⟨by simpa using a.ls, by simpa using a.lo, by simpa using a.lg, fun j d' ej => ?_⟩, b.re fun P => ?_⟩
  · by_cases hj : i = j
    · subst hj
      rw [List.getElem?_set_self (by rw [a.ls]; exact hi)] at ej; cases ej
      exact ⟨v, m, o, by rw [List.getElem?_set_self hi], e2, by rw [List.getElem?_set_self ho], r⟩
    · rw [List.getElem?_set_ne hj] at ej
      rw [List.getElem?_set_ne hj, List.getElem?_set_ne hj]
      exact a.at_ j d' ej
  · have h1 := fl_put P o ho
    obtain ⟨o1, ho1⟩ : ∃ o1, os[i]? = some o1 := ⟨os[i], by simp [ho]⟩
    have h2 := fl_set P ho1
    simp only [List.countP_append]; omega
/-- a slot is assigned a value that no datum is told of -/
theorem Good.putAny (h : Good K Γ G H C σ ρ) : Good K Γ G H C (σ.set i (some v)) (ρ.set i none) := by
  obtain ⟨os, a, b⟩ := h.ex
  refine ⟨os, ⟨by simpa using a.ls, by simpa using a.lo, by simpa using a.lg, fun j d' ej => ?_⟩, b⟩
  by_cases hj : i = j
  · subst hj
    by_cases hi : i < ρ.length
    · rw [List.getElem?_set_self hi] at ej; cases ej
    · rw [List.getElem?_eq_none (by simpa using hi)] at ej; cases ej
  · rw [List.getElem?_set_ne hj] at ej
    rw [List.getElem?_set_ne hj]
    exact a.at_ j d' ej
end

/-! ### soundness -/
section
variable (K : PySem.W.Frag) (Γ : List Md) (Ek : XK)
def RQ {α β : Type} (Rel : St → Hp → α → β → Fg → Prop) (G : Hp) (C : Fg) (σ : St) (Q : β → Hp → Prop) : Rs α → Prop
  | .ok a ρ' => ∀ b H' G' o, GLe G G' → Rel σ G' a b o → Good K Γ G' H' (o ++ C) σ ρ' → Q b H'
  | .ex x ρ' => ∀ c dx H' G', GLe G G' → XR K G' x c dx → Good K Γ G' H' C σ ρ' → Ek c dx H'
def SndG {α β : Type} (Rel : St → Hp → α → β → Fg → Prop) (t : St → Hp → (β → Hp → Prop) → Prop) (f : Mr α) : Prop :=
  ∀ (σ : St) (H G : Hp) (C : Fg) (ρ : De) (Q : β → Hp → Prop) (r : Rs α), Good K Γ G H C σ ρ → f ρ = some r → RQ K Γ Ek Rel G C σ Q r → t σ H Q
def Cont {α α' β β' : Type} (Rel1 : St → Hp → α → β → Fg → Prop) (Rel2 : St → Hp → α' → β' → Fg → Prop) (a : α) (b : β) (t : St → Hp → (β' → Hp → Prop) → Prop) (f : Mr α') : Prop :=
  ∀ (σ : St) (H G : Hp) (C o : Fg) (ρ : De) (Q : β' → Hp → Prop) (r : Rs α'), Rel1 σ G a b o → Good K Γ G H (o ++ C) σ ρ → f ρ = some r → RQ K Γ Ek Rel2 G C σ Q r → t σ H Q
end
def RMono {α β : Type} (Rel : St → Hp → α → β → Fg → Prop) : Prop := ∀ σ G G' a b o, GLe G G' → Rel σ G a b o → Rel σ G' a b o
/-- an expression's relation -/
abbrev RE (K : PySem.W.Frag) (m : Md) : St → Hp → D → V → Fg → Prop := fun _ G d v o => R K G d m v o
abbrev RB : St → Hp → Bool → Bool → Fg → Prop := fun _ _ a b o => a = b ∧ o = []
def RP {α α' β β' : Type} (R1 : St → Hp → α → β → Fg → Prop) (R2 : St → Hp → α' → β' → Fg → Prop) : St → Hp → α × α' → β × β' → Fg → Prop :=
  fun σ G a b o => ∃ o1 o2, o = o1 ++ o2 ∧ R1 σ G a.1 b.1 o1 ∧ R2 σ G a.2 b.2 o2
theorem RE.mono {K : PySem.W.Frag} {m : Md} : RMono (RE K m) := fun _ _ _ d _ _ g r => R.mono g d r
theorem RB.mono : RMono RB := fun _ _ _ _ _ _ _ r => r
theorem RP.mono {α α' β β' : Type} {R1 : St → Hp → α → β → Fg → Prop} {R2 : St → Hp → α' → β' → Fg → Prop} (h1 : RMono R1) (h2 : RMono R2) : RMono (RP R1 R2) :=
  fun σ G G' a b o g ⟨o1, o2, e, r1, r2⟩ => ⟨o1, o2, e, h1 _ _ _ _ _ _ g r1, h2 _ _ _ _ _ _ g r2⟩

section
variable {K : PySem.W.Frag} {Γ : List Md} {Ek : XK} {α α' β β' : Type} {Rel : St → Hp → α → β → Fg → Prop} {Rel1 : St → Hp → α → β → Fg → Prop} {Rel2 : St → Hp → α' → β' → Fg → Prop}
theorem RQ.mono {G G1 : Hp} {C : Fg} {σ : St} {Q : β → Hp → Prop} {r : Rs α} (g : GLe G G1) (h : RQ K Γ Ek Rel G C σ Q r) : RQ K Γ Ek Rel G1 C σ Q r := by
  cases r with
  | ok a ρ => exact fun b H' G' o g' => h b H' G' o (g.trans g')
  | ex x ρ => exact fun c dx H' G' g' => h c dx H' G' (g.trans g')
theorem SndG.bind {t1 : St → Hp → (β → Hp → Prop) → Prop} {t2 : β → St → Hp → (β' → Hp → Prop) → Prop} {f1 : Mr α} {f2 : α → Mr α'} (h1 : SndG K Γ Ek Rel1 t1 f1) (h2 : ∀ a b, Cont K Γ Ek Rel1 Rel2 a b (t2 b) (f2 a)) :
    SndG K Γ Ek Rel2 (fun σ H Q => t1 σ H fun b H1 => t2 b σ H1 Q) (bnd f1 f2) := by
  intro σ H G C ρ Q r hg hf hq
  cases e : f1 ρ with
  | none => rw [bnd_none e] at hf; cases hf
  | some r1 =>
    refine h1 σ H G C ρ _ r1 hg e ?_
    cases r1 with
    | ok a ρ1 =>
      rw [bnd_ok e] at hf
      exact fun b H' G' o g rel good => h2 a b σ H' G' C o ρ1 Q r rel good hf (hq.mono g)
    | ex x ρ1 =>
      rw [bnd_ex e] at hf
      cases hf
      exact hq
/-- what a value gives, by values alone -/
def VOp (K : PySem.W.Frag) (Rel : St → Hp → α → β → Fg → Prop) (m : Md) (k : β → Hp → VK → Prop) (g : α → Option D) : Prop :=
  ∀ (σ : St) (G H : Hp) (C : Fg) (a : α) (b : β) (o : Fg) (d : D) (Q : VK), Rel σ G a b o → Sat H G (o ++ C) → g a = some d →
    (∀ v H' G' o', GLe G G' → R K G' d m v o' → Sat H' G' (o' ++ C) → Q v H') → k b H Q
theorem SndG.op {m : Md} {t : St → Hp → (β → Hp → Prop) → Prop} {f : Mr α} {k : β → Hp → VK → Prop} {g : α → Option D} (h : SndG K Γ Ek Rel t f) (hv : VOp K Rel m k g) :
    SndG K Γ Ek (RE K m) (fun σ H Q => t σ H fun b H1 => k b H1 Q) (bnd f fun a => lft (g a)) := by
  refine SndG.bind (t2 := fun b _ H1 Q => k b H1 Q) h fun a b σ H G C o ρ Q r rel good hf hq => ?_
  cases e : g a with
  | none => rw [e] at hf; cases hf
  | some d =>
    rw [e] at hf
    cases hf
    obtain ⟨os, sl, s⟩ := good.ex
    refine hv σ G H (os.flatten ++ C) a b o d Q rel (s.re (by walk_at "fle")) e fun v H' G' o' g' r' s' => ?_
    exact hq v H' G' o' g' r' ⟨os, sl.mono g', s'.re (by walk_at "fle")⟩
def tPair (t : St → Hp → (β → Hp → Prop) → Prop) (u : St → Hp → (β' → Hp → Prop) → Prop) : St → Hp → (β × β' → Hp → Prop) → Prop := fun σ H Q => t σ H fun x H1 => u σ H1 fun y H2 => Q (x, y) H2
def mPair (f : Mr α) (g : Mr α') : Mr (α × α') := bnd f fun a => bnd g fun b => ret (a, b)
theorem SndG.pair {t : St → Hp → (β → Hp → Prop) → Prop} {u : St → Hp → (β' → Hp → Prop) → Prop} {f : Mr α} {g : Mr α'} (h1 : SndG K Γ Ek Rel1 t f) (h2 : SndG K Γ Ek Rel2 u g) (mo : RMono Rel1) :
    SndG K Γ Ek (RP Rel1 Rel2) (tPair t u) (mPair f g) := by
  refine SndG.bind (t2 := fun x σ H Q => u σ H fun y H2 => Q (x, y) H2) h1 fun a b σ H G C o ρ Q r rel good hf hq => ?_
  cases e : g ρ with
  | none => rw [bnd_none e] at hf; cases hf
  | some r2 =>
    refine h2 σ H G (o ++ C) ρ _ r2 good e ?_
    cases r2 with
    | ok a2 ρ2 =>
      rw [bnd_ok e] at hf
      cases hf
      exact fun b2 H2 G2 o2 g2 rel2 good2 => hq (b, b2) H2 G2 (o ++ o2) g2 ⟨o, o2, rfl, mo _ _ _ _ _ _ g2 rel, rel2⟩ (good2.re (by walk_at "fle"))
    | ex x ρ2 =>
      rw [bnd_ex e] at hf
      cases hf
      exact fun c dx H' G' g' xr good' => hq c dx H' G' g' xr (good'.re (by walk_at "fle"))
/-- what a value gives, mapped -/
theorem SndG.imp {t : St → Hp → (β → Hp → Prop) → Prop} {f : Mr α} {Rel' : St → Hp → α → β → Fg → Prop} (h : SndG K Γ Ek Rel t f) (hi : ∀ σ G a b o, Rel σ G a b o → Rel' σ G a b o) : SndG K Γ Ek Rel' t f := by
  intro σ H G C ρ Q r hg hf hq
  refine h σ H G C ρ Q r hg hf ?_
  cases r with
  | ok a ρ' => exact fun b H' G' o g rel good => hq b H' G' o g (hi _ _ _ _ _ rel) good
  | ex x ρ' => exact hq
end

/-! ### expressions -/
section
variable {K : PySem.W.Frag} {Γ : List Md} {Ek : XK} {m m' : Md} {t ta tb : TE} {f fa fb : Mr D}
abbrev Snd (K : PySem.W.Frag) (Γ : List Md) (Ek : XK) (m : Md) (t : TE) (f : Mr D) : Prop := SndG K Γ Ek (RE K m) t f
def mVar (i : Nat) : Mr D := fun ρ => match ρ[i]? with
  | some (some d) => some (.ok d ρ)
  | _ => none
def isShd : D → Bool
  | .shd _ => true
  | _ => false
def unsh : D → D
  | .shd d => d
  | d => d
/-- taken out of its slot -/
def mMov (i : Nat) : Mr D := fun ρ => match ρ[i]? with
  | some (some d) => if isShd d = true then none else some (.ok d (ρ.set i none))
  | _ => none
/-- shared from now on -/
def mFz (i : Nat) : Mr D := fun ρ => match ρ[i]? with
  | some (some d) => some (.ok (unsh d) (ρ.set i (some (.shd (unsh d)))))
  | _ => none
theorem mMov_inv {i : Nat} {ρ : De} {r : Rs D} (h : mMov i ρ = some r) : ∃ d, ρ[i]? = some (some d) ∧ isShd d = false ∧ r = .ok d (ρ.set i none) := by
  unfold mMov at h
  split at h
  · rename_i d e
    split at h
    · cases h
    · rename_i hs
      cases h
      exact ⟨d, e, by simpa using hs, rfl⟩
  · cases h
theorem mFz_inv {i : Nat} {ρ : De} {r : Rs D} (h : mFz i ρ = some r) : ∃ d, ρ[i]? = some (some d) ∧ r = .ok (unsh d) (ρ.set i (some (.shd (unsh d)))) := by
  unfold mFz at h
  split at h
  · rename_i d e
    cases h
    exact ⟨d, e, rfl⟩
  · cases h
theorem Sh.unsh {G : Hp} : ∀ {d : D} {v : V}, Sh K G d v → Sh K G (unsh d) v
  | .non, _, h => h
  | .bl _, _, h => h
  | .int _, _, h => h
  | .str _, _, h => h
  | .lst _, _, h => h
  | .frl _, _, h => h
  | .tup _, _, h => h
  | .dK _ _, _, h => h
  | .dT _ _, _, h => h
  | .val _, _, h => h
  | .shd _, _, h => h
def mScal (f : Mr D) : Mr D := bnd f fun d => if scal d then ret d else fun _ => none
theorem set_self {ρ : De} {i : Nat} {x : Option D} (h : ρ[i]? = some x) : ρ.set i x = ρ := by
  apply List.ext_getElem?
  intro j
  by_cases hj : i = j
  · subst hj
    rw [List.getElem?_set_self (List.getElem?_eq_some_iff.mp h).1, h]
  · rw [List.getElem?_set_ne hj]
theorem snd_var (i : Nat) (h : Γ[i]? = some .sh := by rfl) : Snd K Γ Ek .sh (tVar i) (mVar i) := by
  intro σ H G C ρ Q r hg hf hq
  unfold mVar at hf
  split at hf
  · rename_i d e
    cases hf
    obtain ⟨v, m, o, e1, e2, r, g2⟩ := hg.take e
    rw [h] at e2; cases e2
    obtain ⟨rfl, r'⟩ := (R.sh_iff d).mp r
    exact ⟨v, e1, hq v H G [] (GLe.refl G) r hg⟩
  · cases hf
theorem snd_mov (i : Nat) (h : Γ[i]? = some m := by rfl) : Snd K Γ Ek m (tVar i) (mMov i) := by
  intro σ H G C ρ Q r hg hf hq
  obtain ⟨d, e, _, er⟩ := mMov_inv hf
  subst er
  obtain ⟨v, m, o, e1, e2, r, g2⟩ := hg.take e
  rw [h] at e2; cases e2
  exact ⟨v, e1, hq v H G o (GLe.refl G) r g2⟩
theorem snd_fz (i : Nat) : Snd K Γ Ek .sh (tVar i) (mFz i) := by
  intro σ H G C ρ Q r hg hf hq
  obtain ⟨d, e, er⟩ := mFz_inv hf
  subst er
  obtain ⟨v, m, o, e1, e2, r, g2⟩ := hg.take e
  obtain ⟨os, sl, s⟩ := g2.ex
  obtain ⟨G2, g3, s2, r2⟩ := R.freeze d r (show Sat H G (o ++ (os.flatten ++ C)) from s.re (by walk_at "fle"))
  have r3 := Sh.unsh r2
  have g4 : Good K Γ G2 H ([] ++ C) σ (ρ.set i none) := ⟨os, sl.mono g3, s2⟩
  refine ⟨v, e1, hq v H G2 [] g3 (R.of_sh r3) ?_⟩
  have g5 := Good.back (d := .shd (unsh d)) (o := []) g4 (show R K G2 (.shd (unsh d)) m v [] from ⟨rfl, r3⟩) e1 e2
  rw [List.set_set] at g5
  exact g5
theorem bnd_inv {α β : Type} {f : Mr α} {g : α → Mr β} {ρ : De} {r : Rs β} (h : bnd f g ρ = some r) : (∃ a ρ1, f ρ = some (.ok a ρ1) ∧ g a ρ1 = some r) ∨ ∃ x ρ1, f ρ = some (.ex x ρ1) ∧ r = .ex x ρ1 := by
  cases e : f ρ with
  | none => rw [bnd_none e] at h; cases h
  | some r1 =>
    cases r1 with
    | ok a ρ1 => rw [bnd_ok e] at h; exact .inl ⟨a, ρ1, rfl, h⟩
    | ex x ρ1 => rw [bnd_ex e] at h; cases h; exact .inr ⟨x, ρ1, rfl, rfl⟩
theorem mVar_inv {i : Nat} {ρ : De} {r : Rs D} (h : mVar i ρ = some r) : ∃ d, ρ[i]? = some (some d) ∧ r = .ok d ρ := by
  unfold mVar at h
  split at h
  · rename_i d e
    cases h
    exact ⟨d, e, rfl⟩
  · cases h
/-- a slot of any mode that holds no object -/
theorem snd_vars (i : Nat) : Snd K Γ Ek m (tVar i) (mScal (mVar i)) := by
  intro σ H G C ρ Q r hg hf hq
  rcases bnd_inv hf with ⟨d, ρ1, e, hf⟩ | ⟨x, ρ1, e, _⟩
  · obtain ⟨d', e3, e4⟩ := mVar_inv e
    cases e4
    split at hf
    · rename_i hs
      cases hf
      obtain ⟨v, m', o, e1, e2, r, g2⟩ := hg.take e3
      have r2 := R.scal (m' := .sh) hs r
      obtain ⟨rfl, r'⟩ := (R.sh_iff d).mp r2
      exact ⟨v, e1, hq v H G [] (GLe.refl G) (R.scal hs r) hg⟩
    · cases hf
  · obtain ⟨d', e3, e4⟩ := mVar_inv e
    cases e4
theorem snd_c {d : D} {v : V} (h : ∀ G, Sh K G d v) (hs : scal d = true) : Snd K Γ Ek m (tC v) (ret d) := by
  intro σ H G C ρ Q r hg hf hq
  cases hf
  exact hq v H G [] (GLe.refl G) (R.scal hs (R.of_sh (h G))) hg
theorem snd_int (i : Int) : Snd K Γ Ek m (tC (.int i)) (ret (.int i)) := snd_c (fun _ => rfl) rfl
theorem snd_bl (b : Bool) : Snd K Γ Ek m (tC (.bl b)) (ret (.bl b)) := snd_c (fun _ => rfl) rfl
theorem snd_str (x : Str) : Snd K Γ Ek m (tC (.str x)) (ret (.str x)) := snd_c (fun _ => rfl) rfl
theorem snd_non : Snd K Γ Ek m (tC .non) (ret .non) := snd_c (fun _ => rfl) rfl
theorem snd_val (v : V) : Snd K Γ Ek m (tC v) (ret (.val v)) := snd_c (fun _ => rfl) rfl
/-- a value that is no object has every mode -/
theorem Snd.scal (h : Snd K Γ Ek m t f) : Snd K Γ Ek m' t (mScal f) := by
  intro σ H G C ρ Q r hg hf hq
  cases e : f ρ with
  | none => rw [mScal, bnd_none e] at hf; cases hf
  | some r1 =>
    refine h σ H G C ρ Q r1 hg e ?_
    cases r1 with
    | ok a ρ1 =>
      rw [mScal, bnd_ok e] at hf
      split at hf
      · rename_i hs
        cases hf
        exact fun b H' G' o g rel good => hq b H' G' o g (R.scal hs rel) good
      · cases hf
    | ex x ρ1 =>
      rw [mScal, bnd_ex e] at hf
      cases hf
      exact hq
theorem Snd.froze (h : Snd K Γ Ek m t f) : Snd K Γ Ek .sh t f := by
  intro σ H G C ρ Q r hg hf hq
  refine h σ H G C ρ Q r hg hf ?_
  cases r with
  | ok a ρ' =>
    intro b H' G' o g rel good
    obtain ⟨os, sl, s⟩ := good.ex
    obtain ⟨G2, g2, s2, r2⟩ := R.freeze a rel (show Sat H' G' (o ++ (os.flatten ++ C)) from s.re (by walk_at "fle"))
    exact hq b H' G2 [] (g.trans g2) (R.of_sh r2) ⟨os, sl.mono g2, s2⟩
  | ex x ρ' => exact hq
end
end Dl
/-! Dl, third part: expressions. -/
namespace Dl
open PySem L2
local macro_rules | `(tactic| walk_at "fle") => `(tactic| (intro P; simp only [List.countP_append, List.countP_cons, List.countP_nil, List.append_nil, List.nil_append]; first | omega | (split <;> omega)))

abbrev lim : Nat := 16777216
theorem lim_eq : lim = sizeLine := sizeLine_eq.symm

/-- an expression, its reading, its mirror -/
structure DE (X : Cx) (K : PySem.W.Frag) (Γ : List Md) (Ek : XK) (m : Md) (e : PySem.Expr) (t : TE) (f : Mr D) : Prop where
  pe : PE X e t
  sn : Snd K Γ Ek m t f
/-- a test -/
structure DT (X : Cx) (K : PySem.W.Frag) (Γ : List Md) (Ek : XK) (e : PySem.Expr) (t : TT) (f : Mr Bool) : Prop where
  pt : PT X e t
  sn : SndG K Γ Ek RB t f

section
variable {X : Cx} {K : PySem.W.Frag} {Γ : List Md} {Ek : XK} {m m' : Md} {e a b c : PySem.Expr} {t ta tb tc : TE} {f fa fb fc : Mr D} {pos : Pos}
theorem DE.fz (h : DE X K Γ Ek m e t f) : DE X K Γ Ek .sh e t f := ⟨h.pe, h.sn.froze⟩
theorem DE.sc (h : DE X K Γ Ek m e t f) : DE X K Γ Ek m' e t (mScal f) := ⟨h.pe, h.sn.scal⟩
/-- unsupported, or never reached -/
theorem snd_no {α β : Type} {K : PySem.W.Frag} {Rel : St → Hp → α → β → Fg → Prop} {t : St → Hp → (β → Hp → Prop) → Prop} : SndG K Γ Ek Rel t (fun _ => none) := fun _ _ _ _ _ _ _ _ h _ => nomatch h
theorem pe_no : PE X e (fun _ _ _ => False) := ⟨fun _ _ _ _ _ _ h => h.elim⟩
theorem de_no : DE X K Γ Ek m e (fun _ _ _ => False) (fun _ => none) := ⟨pe_no, snd_no⟩
theorem dt_no : DT X K Γ Ek e (fun _ _ _ => False) (fun _ => none) := ⟨⟨fun _ _ _ _ _ _ h => h.elim⟩, snd_no⟩

/-! ### names, constants -/
theorem dv (i : Nat) {x : Str} {p : Pos} (hN : X.N[i]? = some x := by rfl) (hv : Vis X.env.scope x := by first | exact Or.inl rfl | exact Or.inr (Or.inl rfl) | exact Or.inr (Or.inr rfl)) (h : Γ[i]? = some .sh := by rfl) (hd : (x == ("__debug__" : Str)) = false := by decide)
    (hcd : (x == ("__classdict__" : Str)) = false := by decide) : DE X K Γ Ek .sh (.Name x p) (tVar i) (mVar i) := ⟨pe_var hN hv hd hcd, snd_var i h⟩
theorem dvs (i : Nat) {x : Str} {p : Pos} (hN : X.N[i]? = some x := by rfl) (hv : Vis X.env.scope x := by first | exact Or.inl rfl | exact Or.inr (Or.inl rfl) | exact Or.inr (Or.inr rfl)) (hd : (x == ("__debug__" : Str)) = false := by decide)
    (hcd : (x == ("__classdict__" : Str)) = false := by decide) : DE X K Γ Ek m (.Name x p) (tVar i) (mScal (mVar i)) := ⟨pe_var hN hv hd hcd, snd_vars i⟩
theorem dmv (i : Nat) {x : Str} {p : Pos} (hN : X.N[i]? = some x := by rfl) (hv : Vis X.env.scope x := by first | exact Or.inl rfl | exact Or.inr (Or.inl rfl) | exact Or.inr (Or.inr rfl)) (h : Γ[i]? = some m := by rfl) (hd : (x == ("__debug__" : Str)) = false := by decide)
    (hcd : (x == ("__classdict__" : Str)) = false := by decide) : DE X K Γ Ek m (.Name x p) (tVar i) (mMov i) := ⟨pe_var hN hv hd hcd, snd_mov i h⟩
theorem dfz (i : Nat) {x : Str} {p : Pos} (hN : X.N[i]? = some x := by rfl) (hv : Vis X.env.scope x := by first | exact Or.inl rfl | exact Or.inr (Or.inl rfl) | exact Or.inr (Or.inr rfl)) (hd : (x == ("__debug__" : Str)) = false := by decide)
    (hcd : (x == ("__classdict__" : Str)) = false := by decide) : DE X K Γ Ek .sh (.Name x p) (tVar i) (mFz i) := ⟨pe_var hN hv hd hcd, snd_fz i⟩
theorem de_int {i : Int} {j} {p : Pos} : DE X K Γ Ek m (.Constant (.int i) j p) (tC (.int i)) (ret (.int i)) := ⟨pe_int, snd_int i⟩
theorem de_bl {i : Bool} {j} {p : Pos} : DE X K Γ Ek m (.Constant (.bool i) j p) (tC (.bl i)) (ret (.bl i)) := ⟨pe_bl, snd_bl i⟩
theorem de_str {i : Str} {j} {p : Pos} : DE X K Γ Ek m (.Constant (.str i) j p) (tC (.str i)) (ret (.str i)) := ⟨pe_str, snd_str i⟩
theorem de_non {j} {p : Pos} : DE X K Γ Ek m (.Constant .none j p) (tC .non) (ret .non) := ⟨pe_non, snd_non⟩
/-- a built-in type, a class, a def as a value -/
theorem de_ty {x : Str} {n : String} {p : Pos} (hm : X.mg x = none) (hg : Gl X x := by rfl) (hv : bootBuiltins x = some (.type n) := by first | rfl | decide +kernel) (hn : x ≠ "__name__" := by decide) (hd : (x == ("__debug__" : Str)) = false := by decide) : DE X K Γ Ek m (.Name x p) (tC (.ty n)) (ret (.val (.ty n))) :=
  ⟨pe_bltn hg hm hv rfl hn hd, snd_val _⟩
theorem de_cls {x : Str} {a : Addr} {p : Pos} (hm : X.mg x = some (.ref a)) (hg : Gl X x := by rfl) (hd : (x == ("__debug__" : Str)) = false := by decide) : DE X K Γ Ek m (.Name x p) (tC (.ref a)) (ret (.val (.ref a))) :=
  ⟨pe_glob hg hm rfl hd, snd_val _⟩
/-- a module's constant that is an int, a text .. -/
theorem de_gint {x : Str} {i : Int} {u : Value} {p : Pos} (hm : X.mg x = some u) (r : RelV (.int i) u) (hg : Gl X x := by rfl) (hd : (x == ("__debug__" : Str)) = false := by decide) : DE X K Γ Ek m (.Name x p) (tC (.int i)) (ret (.int i)) :=
  ⟨pe_glob hg hm r hd, snd_int i⟩
theorem de_gstr {x : Str} {i : Str} {u : Value} {p : Pos} (hm : X.mg x = some u) (r : RelV (.str i) u) (hg : Gl X x := by rfl) (hd : (x == ("__debug__" : Str)) = false := by decide) : DE X K Γ Ek m (.Name x p) (tC (.str i)) (ret (.str i)) :=
  ⟨pe_glob hg hm r hd, snd_str i⟩
/-- a module's constant of data -/
theorem de_gdat {x : Str} {d : D} {v : V} {u : Value} {p : Pos} (hm : X.mg x = some u) (r : RelV v u) (hs : ∀ G, Sh K G d v) (hg : Gl X x := by rfl) (hd : (x == ("__debug__" : Str)) = false := by decide) : DE X K Γ Ek .sh (.Name x p) (tC v) (ret d) :=
  ⟨pe_glob hg hm r hd, fun σ H G C ρ Q r hg hf hq => by cases hf; exact hq v H G [] (GLe.refl G) (R.of_sh (hs G)) hg⟩

/-! ### operators -/
def mOp (g : D → D → Option D) (fa fb : Mr D) : Mr D := bnd (mPair fa fb) fun p => lft (g p.1 p.2)
def mUn (g : D → Option D) (fa : Mr D) : Mr D := bnd fa fun p => lft (g p)
def VOp2 (K : PySem.W.Frag) (m : Md) (r : R2) (g : D → D → Option D) : Prop :=
  ∀ (G H : Hp) (C : Fg) (x y : V) (dx dy d : D) (Q : VK), Sh K G dx x → Sh K G dy y → Sat H G C → g dx dy = some d →
    (∀ v H' G' o', GLe G G' → R K G' d m v o' → Sat H' G' (o' ++ C) → Q v H') → r x y H Q
def VOp1 (K : PySem.W.Frag) (m : Md) (r : V → Hp → VK → Prop) (g : D → Option D) : Prop :=
  ∀ (G H : Hp) (C : Fg) (x : V) (dx d : D) (Q : VK), Sh K G dx x → Sat H G C → g dx = some d →
    (∀ v H' G' o', GLe G G' → R K G' d m v o' → Sat H' G' (o' ++ C) → Q v H') → r x H Q
theorem snd_op {K : PySem.W.Frag} {r : R2} {g : D → D → Option D} (ha : Snd K Γ Ek .sh ta fa) (hb : Snd K Γ Ek .sh tb fb) (hv : VOp2 K m r g) : Snd K Γ Ek m (tOp r ta tb) (mOp g fa fb) :=
  SndG.op (k := fun b H Q => r b.1 b.2 H Q) (SndG.pair ha hb RE.mono) fun σ G H C a b o d Q ⟨o1, o2, e, r1, r2⟩ s hg hq => by
    obtain ⟨z1, q1⟩ := (R.sh_iff _).mp r1
    obtain ⟨z2, q2⟩ := (R.sh_iff _).mp r2
    subst e; subst z1; subst z2
    exact hv G H C b.1 b.2 a.1 a.2 d Q q1 q2 s hg hq
theorem snd_un {K : PySem.W.Frag} {r : V → Hp → VK → Prop} {g : D → Option D} (ha : Snd K Γ Ek .sh ta fa) (hv : VOp1 K m r g) : Snd K Γ Ek m (fun σ H Q => ta σ H fun x H1 => r x H1 Q) (mUn g fa) :=
  SndG.op (k := fun b H Q => r b H Q) ha fun σ G H C a b o d Q r1 s hg hq => by
    obtain ⟨z1, q1⟩ := (R.sh_iff _).mp r1
    subst z1
    exact hv G H C b a d Q q1 s hg hq
theorem de_op {op : Operator} {r : R2} {g : D → D → Option D} (o : OpR X (binaryOp op) r ∧ VOp2 K m r g) (ha : DE X K Γ Ek .sh a ta fa) (hb : DE X K Γ Ek .sh b tb fb) : DE X K Γ Ek m (.BinOp a op b pos) (tOp r ta tb) (mOp g fa fb) :=
  ⟨pe_op o.1 ha.pe hb.pe, snd_op ha.sn hb.sn o.2⟩
theorem de_cmp {op : CmpOp} {r : R2} {g : D → D → Option D} (o : OpR X (compareOp op) r ∧ VOp2 K m r g) (ha : DE X K Γ Ek .sh a ta fa) (hb : DE X K Γ Ek .sh b tb fb) (hm : behindInMarks op b = false) : DE X K Γ Ek m (.Compare a [op] [b] pos) (tOp r ta tb) (mOp g fa fb) :=
  ⟨pe_cmpR o.1 ha.pe hb.pe hm, snd_op ha.sn hb.sn o.2⟩
def dBool : D → Option Bool
  | .bl b => some b
  | _ => none
theorem snd_test {K : PySem.W.Frag} (h : Snd K Γ Ek m t f) : SndG K Γ Ek RB (tTest t) (bnd f fun d => lft (dBool d)) := by
  refine SndG.bind (Rel1 := RE K m) (t2 := fun x _ H' Q => ∃ k, x = .bl k ∧ Q k H') h fun a b σ H G C o ρ Q r rel good hf hq => ?_
  cases a with
  | bl k =>
    obtain ⟨rfl, rfl⟩ := (show o = [] ∧ b = .bl k from rel)
    cases hf
    exact ⟨k, rfl, hq k H G [] (GLe.refl G) ⟨rfl, rfl⟩ good⟩
  | _ => cases hf
theorem dt_cmp {op : CmpOp} {r : R2} {g : D → D → Option D} (o : OpR X (compareOp op) r ∧ VOp2 K .sh r g) (ha : DE X K Γ Ek .sh a ta fa) (hb : DE X K Γ Ek .sh b tb fb) (hm : behindInMarks op b = false) :
    DT X K Γ Ek (.Compare a [op] [b] pos) (tTest (tOp r ta tb)) (bnd (mOp g fa fb) fun d => lft (dBool d)) :=
  ⟨pt_cmpR o.1 ha.pe hb.pe hm, snd_test (snd_op ha.sn hb.sn o.2)⟩
/-- a op b op' c -/
def mChain (g g' : D → D → Option D) (fa fb fc : Mr D) : Mr D := bnd (mPair fa fb) fun p => bnd (lft ((g p.1 p.2).bind dBool)) fun k => if k = true then bnd fc fun z => lft (g' p.2 z) else ret (.bl false)
theorem snd_chain {K : PySem.W.Frag} {r r' : R2} {g g' : D → D → Option D} (ha : Snd K Γ Ek .sh ta fa) (hb : Snd K Γ Ek .sh tb fb) (hc : Snd K Γ Ek .sh tc fc) (hv : VOp2 K .sh r g) (hv' : VOp2 K .sh r' g') : Snd K Γ Ek .sh (tChain r r' ta tb tc) (mChain g g' fa fb fc) := by
  refine SndG.bind (t2 := fun p σ H2 Q => r p.1 p.2 H2 fun z H3 => ∃ k, z = .bl k ∧ (if k = true then tc σ H3 fun w' H4 => r' p.2 w' H4 Q else Q (.bl false) H3)) (SndG.pair ha hb RE.mono) fun a b σ H G C o ρ Q r rel good hf hq => ?_
  obtain ⟨o1, o2, e, r1, r2⟩ := rel
  obtain ⟨z1, q1⟩ := (R.sh_iff _).mp r1
  obtain ⟨z2, q2⟩ := (R.sh_iff _).mp r2
  subst e; subst z1; subst z2
  obtain ⟨os, sl, s⟩ := good.ex
  cases e1 : g a.1 a.2 with
  | none => rw [e1] at hf; cases hf
  | some d1 =>
    rw [e1] at hf
    cases d1 with
    | bl k =>
      refine hv G H (os.flatten ++ C) b.1 b.2 a.1 a.2 (.bl k) _ q1 q2 s e1 fun v H' G' o' g1 rv s' => ?_
      obtain ⟨rfl, rfl⟩ := (show o' = [] ∧ v = .bl k from rv)
      refine ⟨k, rfl, ?_⟩
      have good' : Good K Γ G' H' C σ ρ := ⟨os, sl.mono g1, s'⟩
      cases k with
      | false =>
        cases hf
        exact hq (.bl false) H' G' [] g1 ⟨rfl, rfl⟩ good'
      | true =>
        have hf2 : bnd fc (fun z => lft (g' a.2 z)) ρ = some r := hf
        rcases bnd_inv hf2 with ⟨z, ρ1, e2, hf3⟩ | ⟨x, ρ1, e2, e3⟩
        · refine hc σ H' G' C ρ _ _ good' e2 fun w H2 G2 o2 g2 relw good2 => ?_
          obtain ⟨z3, q3⟩ := (R.sh_iff _).mp relw
          subst z3
          cases e4 : g' a.2 z with
          | none => rw [e4] at hf3; cases hf3
          | some d2 =>
            rw [e4] at hf3
            cases hf3
            obtain ⟨os2, sl2, s2⟩ := good2.ex
            exact hv' G2 H2 (os2.flatten ++ C) b.2 w a.2 z d2 Q (Sh.mono (g1.trans g2) _ q2) q3 s2 e4 fun v3 H3 G3 o3 g3 r3 s3 => hq v3 H3 G3 o3 (g1.trans (g2.trans g3)) r3 ⟨os2, sl2.mono g3, s3.re (by walk_at "fle")⟩
        · subst e3
          exact hc σ H' G' C ρ _ _ good' e2 (hq.mono g1)
    | _ => cases hf
end
end Dl
/-! Dl, fourth part: operators and built-in functions on data. -/
namespace Dl
open PySem L2
local macro_rules | `(tactic| walk_at "fle") => `(tactic| (intro P; simp only [List.countP_append, List.countP_cons, List.countP_nil, List.append_nil, List.nil_append]; first | omega | (split <;> omega)))

/-! ### ints -/
def dI2 (f : Int → Int → D) : D → D → Option D
  | .int i, .int j => some (f i j)
  | _, _ => none
def dI2C (c : Int → Int → Bool) (f : Int → Int → D) : D → D → Option D
  | .int i, .int j => if c i j = true then some (f i j) else none
  | _, _ => none
section
variable {K : PySem.W.Frag} {m : Md} {X : Cx}
theorem vop_I0 {g : Int → Int → V} {f : Int → Int → D} (h : ∀ i j G, Sh K G (f i j) (g i j)) (hs : ∀ i j, scal (f i j) = true) : VOp2 K m (rI0 g) (dI2 f) := by
  intro G H C x y dx dy d Q hx hy s hg hq
  cases dx <;> cases dy <;> first | (cases hg; done) | skip
  rename_i i j
  cases hg
  exact ⟨i, j, hx, hy, hq _ H G [] (GLe.refl G) (R.scal (hs i j) (R.of_sh (h i j G))) s⟩
theorem vop_I {c : Int → Int → Bool} {c' : Int → Int → Prop} {g : Int → Int → V} {f : Int → Int → D} (hc : ∀ i j, c i j = true → c' i j) (h : ∀ i j G, Sh K G (f i j) (g i j)) (hs : ∀ i j, scal (f i j) = true) : VOp2 K m (rI c' g) (dI2C c f) := by
  intro G H C x y dx dy d Q hx hy s hg hq
  cases dx <;> cases dy <;> first | (cases hg; done) | skip
  rename_i i j
  dsimp only [dI2C] at hg
  split at hg
  · rename_i hcc
    cases hg
    exact ⟨i, j, hx, hy, hc i j hcc, hq _ H G [] (GLe.refl G) (R.scal (hs i j) (R.of_sh (h i j G))) s⟩
  · cases hg
def dSub : D → D → Option D
  | .int i, .int j => some (.int (i - j))
  | .bl p, .bl q => some (.int (PyProof.Rows.b2i p - PyProof.Rows.b2i q))
  | _, _ => none
def rSubA : R2 := fun x y H Q => rI0 (fun i j => .int (i - j)) x y H Q ∨ ∃ p q : Bool, x = V.bl p ∧ y = V.bl q ∧ Q (.int (PyProof.Rows.b2i p - PyProof.Rows.b2i q)) H
theorem op_subB : OpR X (binaryOp .Sub) (fun x y H Q => ∃ p q : Bool, x = V.bl p ∧ y = V.bl q ∧ Q (.int (PyProof.Rows.b2i p - PyProof.Rows.b2i q)) H) := by
  intro pins s σ H x y v u Q I rx ry ⟨p, q, ex, ey, h⟩
  subst ex ey
  obtain rfl : v = .bool p := rx
  obtain rfl : u = .bool q := ry
  exact PyProof.Rows.sub_bool ⟨.int _, H, I.tok _, ⟨_, rfl⟩, h⟩
theorem o_sub : OpR X (binaryOp .Sub) rSubA ∧ VOp2 K m rSubA dSub := ⟨op_sub.or op_subB, by
  intro G H C x y dx dy d Q hx hy s hg hq
  unfold dSub at hg
  split at hg
  · cases hg
    exact .inl ⟨_, _, hx, hy, hq _ H G [] (GLe.refl G) ⟨rfl, rfl⟩ s⟩
  · cases hg
    exact .inr ⟨_, _, hx, hy, hq _ H G [] (GLe.refl G) ⟨rfl, rfl⟩ s⟩
  · cases hg⟩
def dFdiv := dI2C (fun _ j => decide (0 < j) && Nat.blt j.natAbs.log2 9000) fun i j => .int (i / j)
theorem o_fdiv : OpR X (binaryOp .FloorDiv) (rI CDivW fun i j => .int (i / j)) ∧ VOp2 K m (rI CDivW fun i j => .int (i / j)) dFdiv := ⟨op_fdivW, vop_I (fun i j h => by
  rw [Bool.and_eq_true, decide_eq_true_eq] at h
  exact ⟨h.1, by simpa using h.2⟩) (fun _ _ _ => rfl) fun _ _ => rfl⟩
def dMod := dI2C (fun _ j => decide (0 < j)) fun i j => .int (i % j)
theorem o_mod : OpR X (binaryOp .Mod) (rI (fun _ j => 0 < j) fun i j => .int (i % j)) ∧ VOp2 K m (rI (fun _ j => 0 < j) fun i j => .int (i % j)) dMod := ⟨op_mod, vop_I (fun i j h => by simpa using h) (fun _ _ _ => rfl) fun _ _ => rfl⟩
def dPow := dI2C (fun i j => decide (0 ≤ j) && decide (j ≤ 1000000) && decide (i.natAbs < 2 ^ 64)) fun i j => .int (i ^ j.toNat)
theorem o_pow : OpR X (binaryOp .Pow) (rI CPow fun i j => .int (i ^ j.toNat)) ∧ VOp2 K m (rI CPow fun i j => .int (i ^ j.toNat)) dPow := ⟨op_pow, vop_I (fun i j h => by
  rw [Bool.and_eq_true, Bool.and_eq_true, decide_eq_true_eq, decide_eq_true_eq, decide_eq_true_eq] at h
  exact ⟨h.1.1, h.1.2, h.2⟩) (fun _ _ _ => rfl) fun _ _ => rfl⟩
def dShl := dI2C (fun i j => decide (0 ≤ j) && decide (j ≤ 1000000) && decide (i.natAbs < 2 ^ 64)) fun i j => .int (i * 2 ^ j.toNat)
theorem o_shl : OpR X (binaryOp .LShift) (rI CPow fun i j => .int (i * 2 ^ j.toNat)) ∧ VOp2 K m (rI CPow fun i j => .int (i * 2 ^ j.toNat)) dShl := ⟨op_shl, vop_I (fun i j h => by
  rw [Bool.and_eq_true, Bool.and_eq_true, decide_eq_true_eq, decide_eq_true_eq, decide_eq_true_eq] at h
  exact ⟨h.1.1, h.1.2, h.2⟩) (fun _ _ _ => rfl) fun _ _ => rfl⟩
def dShr := dI2C (fun _ j => decide (0 ≤ j)) fun i j => .int (i / 2 ^ j.toNat)
theorem o_shr : OpR X (binaryOp .RShift) (rI (fun _ j => 0 ≤ j) fun i j => .int (i / 2 ^ j.toNat)) ∧ VOp2 K m (rI (fun _ j => 0 ≤ j) fun i j => .int (i / 2 ^ j.toNat)) dShr := ⟨op_shr, vop_I (fun i j h => by simpa using h) (fun _ _ _ => rfl) fun _ _ => rfl⟩
def dLt := dI2 fun i j => .bl (decide (i < j))
def dLe := dI2 fun i j => .bl (decide (i ≤ j))
def dGt := dI2 fun i j => .bl (decide (j < i))
def dGe := dI2 fun i j => .bl (decide (j ≤ i))
theorem o_lt : OpR X (compareOp .Lt) (rI0 fun i j => .bl (decide (i < j))) ∧ VOp2 K m (rI0 fun i j => .bl (decide (i < j))) dLt := ⟨op_lt, vop_I0 (fun _ _ _ => rfl) fun _ _ => rfl⟩
theorem o_le : OpR X (compareOp .LtE) (rI0 fun i j => .bl (decide (i ≤ j))) ∧ VOp2 K m (rI0 fun i j => .bl (decide (i ≤ j))) dLe := ⟨op_le, vop_I0 (fun _ _ _ => rfl) fun _ _ => rfl⟩
theorem o_gt : OpR X (compareOp .Gt) (rI0 fun i j => .bl (decide (j < i))) ∧ VOp2 K m (rI0 fun i j => .bl (decide (j < i))) dGt := ⟨op_gt, vop_I0 (fun _ _ _ => rfl) fun _ _ => rfl⟩
theorem o_ge : OpR X (compareOp .GtE) (rI0 fun i j => .bl (decide (j ≤ i))) ∧ VOp2 K m (rI0 fun i j => .bl (decide (j ≤ i))) dGe := ⟨op_ge, vop_I0 (fun _ _ _ => rfl) fun _ _ => rfl⟩

/-! ### + and * of ints, texts, lists, tuples -/
def rAddA (K : PySem.W.Frag) : R2 := fun x y H Q => rI0 (fun i j => .int (i + j)) x y H Q ∨ (∃ i j, x = .str i ∧ y = .str j ∧ i.length + j.length ≤ sizeLine ∧ Q (.str (i ++ j)) H) ∨ rCat x y H Q ∨ rCatA K x y H Q
def dAdd : D → D → Option D
  | .int i, .int j => some (.int (i + j))
  | .str i, .str j => if i.length + j.length ≤ lim then some (.str (i ++ j)) else none
  | .lst a, .lst b => if a.length + b.length ≤ lim then some (.lst (a ++ b)) else none
  | .tup a, .tup b => if a.length + b.length ≤ lim then some (.tup (a ++ b)) else none
  | _, _ => none
theorem ShL.nil_of {G : Hp} {ds : List D} (h : ShL K G ds []) : ds = [] := by
  cases ds with
  | nil => rfl
  | cons d r => obtain ⟨v, w, e, _⟩ := h; cases e
theorem vop_add : VOp2 K (.own .sh) (rAddA K) dAdd := by
  intro G H C x y dx dy d Q hx hy s hg hq
  cases dx <;> cases dy <;> first | (cases hg; done) | skip
  · rename_i i j
    cases hg
    exact .inl ⟨i, j, hx, hy, hq _ H G [] (GLe.refl G) ⟨rfl, rfl⟩ s⟩
  · rename_i i j
    dsimp only [dAdd] at hg
    split at hg
    · rename_i hl
      cases hg
      exact .inr (.inl ⟨i, j, hx, hy, by rw [← lim_eq]; exact hl, hq _ H G [] (GLe.refl G) ⟨rfl, rfl⟩ s⟩)
    · cases hg
  · rename_i i j
    dsimp only [dAdd] at hg
    split at hg
    · rename_i hl
      cases hg
      obtain ⟨a, vs, e1, e2, r1⟩ := hx
      obtain ⟨b, us, e3, e4, r2⟩ := hy
      refine .inr (.inr (.inl ⟨a, b, vs, us, e1, e3, s.le _ _ e2, s.le _ _ e4, by rw [r1.len, r2.len, ← lim_eq]; exact hl, fun p hp => ?_⟩))
      exact hq _ _ G _ (GLe.refl G) ⟨p, vs ++ us, [], rfl, rfl, (RL.sh_iff _).mpr ⟨rfl, ShL.append r1 r2⟩⟩ (s.newO hp)
    · cases hg
  · rename_i i j
    dsimp only [dAdd] at hg
    split at hg
    · rename_i hl
      cases hg
      obtain ⟨a, vs, e1, e2, r1⟩ := hx
      obtain ⟨b, us, e3, e4, r2⟩ := hy
      refine .inr (.inr (.inr ⟨a, b, vs, us, e1, e3, s.le.sqT e2, s.le.sqT e4, by rw [r1.len, r2.len, ← lim_eq]; exact hl, fun z => ?_, fun _ z => ?_, fun _ _ p hp => ?_⟩))
      · subst z
        have := ShL.nil_of r1
        subst this
        exact hq _ _ G [] (GLe.refl G) ⟨b, us, rfl, e4, (RL.sh_iff _).mpr ⟨rfl, r2⟩⟩ s
      · subst z
        have := ShL.nil_of r2
        subst this
        rw [List.append_nil] at hq
        exact hq _ _ G [] (GLe.refl G) ⟨a, vs, rfl, e2, (RL.sh_iff _).mpr ⟨rfl, r1⟩⟩ s
      · obtain ⟨s', g'⟩ := s.newG (u := .tup (vs ++ us)) hp
        exact hq _ _ _ [] g' ⟨p, vs ++ us, rfl, .inl (.inl upd_same), (RL.sh_iff _).mpr ⟨rfl, ShL.mono g' _ (ShL.append r1 r2)⟩⟩ s'
    · cases hg
theorem o_add (hK : X.K = K := by rfl) : OpR X (binaryOp .Add) (rAddA K) ∧ VOp2 K (.own .sh) (rAddA K) dAdd := by subst hK; exact ⟨op_add.or (op_add_str.or (op_cat.or op_catA)), vop_add⟩
def rMulA : R2 := fun x y H Q => rI CMul (fun i j => .int (i * j)) x y H Q ∨ rRep x y H Q ∨ rI CMulW (fun i j => .int (i * j)) x y H Q
def dMul : D → D → Option D
  | .int i, .int j => if (Nat.ble i.natAbs 18446744073709551615 || Nat.ble j.natAbs 18446744073709551615 || Nat.blt (i.natAbs.log2 + j.natAbs.log2) 1000000) = true then some (.int (i * j)) else none
  | .lst a, .int k => if k < 9223372036854775808 ∧ -9223372036854775808 ≤ k ∧ a.length * k.toNat ≤ lim then some (.lst (List.replicate k.toNat a).flatten) else none
  | _, _ => none
theorem ShL.rep {G : Hp} {ds : List D} {vs : List V} (h : ShL K G ds vs) : ∀ n : Nat, ShL K G (List.replicate n ds).flatten (List.replicate n vs).flatten
  | 0 => rfl
  | n + 1 => by
    rw [List.replicate_succ, List.replicate_succ, List.flatten_cons, List.flatten_cons]
    exact ShL.append h (ShL.rep h n)
theorem vop_mul : VOp2 K (.own .sh) rMulA dMul := by
  intro G H C x y dx dy d Q hx hy s hg hq
  cases dx <;> cases dy <;> first | (cases hg; done) | skip
  · rename_i i j
    dsimp only [dMul] at hg
    split at hg
    · rename_i hl
      cases hg
      have q := hq _ H G [] (GLe.refl G) ⟨rfl, rfl⟩ s
      rw [Bool.or_eq_true, Bool.or_eq_true] at hl
      rcases hl with (hl | hl) | hl
      · have := Nat.le_of_ble_eq_true hl
        exact .inl ⟨i, j, hx, hy, .inl ⟨by omega, by omega⟩, q⟩
      · have := Nat.le_of_ble_eq_true hl
        exact .inl ⟨i, j, hx, hy, .inr ⟨by omega, by omega⟩, q⟩
      · exact .inr (.inr ⟨i, j, hx, hy, show i.natAbs.log2 + j.natAbs.log2 < 1000000 by simpa using hl, q⟩)
    · cases hg
  · rename_i i j
    dsimp only [dMul] at hg
    split at hg
    · rename_i hl
      cases hg
      obtain ⟨a, vs, e1, e2, r1⟩ := hx
      refine .inr (.inl ⟨a, j, vs, e1, hy, s.le _ _ e2, by omega, by omega, by rw [r1.len, ← lim_eq]; exact hl.2.2, fun p hp => ?_⟩)
      exact hq _ _ G _ (GLe.refl G) ⟨p, _, [], rfl, rfl, (RL.sh_iff _).mpr ⟨rfl, ShL.rep r1 _⟩⟩ (s.newO hp)
    · cases hg
theorem o_mul : OpR X (binaryOp .Mult) rMulA ∧ VOp2 K (.own .sh) rMulA dMul := ⟨op_mul.or (op_rep.or op_mulW), vop_mul⟩

/-! ### == of data -/
mutual
def pd : D → Option PyData
  | .non => some .none
  | .bl b => some (.bool b)
  | .int i => some (.int i)
  | .str x => some (.str x)
  | .lst xs => (pdL xs).map .list
  | .frl xs => (pdL xs).map .list
  | .tup xs => (pdL xs).map .tuple
  | .dK _ _ => none
  | .dT _ _ => none
  | .val _ => none
  | .shd _ => none
def pdL : List D → Option (List PyData)
  | [] => some []
  | d :: ds => match pd d, pdL ds with
    | some x, some xs => some (x :: xs)
    | _, _ => none
end
mutual
theorem dp_of {G H : Hp} (le : GLe G H) : ∀ (d : D) {p : PyData} {v : V}, pd d = some p → Sh K G d v → Dp K H v p
  | .non, _, _, h, e => by cases h; rw [show _ = _ from e]; exact .non
  | .bl b, _, _, h, e => by cases h; rw [show _ = _ from e]; exact .bl b
  | .int i, _, _, h, e => by cases h; rw [show _ = _ from e]; exact .int i
  | .str x, _, _, h, e => by cases h; rw [show _ = _ from e]; exact .str x
  | .lst xs, _, _, h, ⟨a, vs, e, q, r⟩ => by
    simp only [pd, Option.map_eq_some_iff] at h
    obtain ⟨ps, h1, h2⟩ := h
    subst h2; subst e
    exact .lst (.inl (.inl (le _ _ q))) (dpL_of le xs h1 r)
  | .frl xs, _, _, h, ⟨a, vs, e, q, r⟩ => by
    simp only [pd, Option.map_eq_some_iff] at h
    obtain ⟨ps, h1, h2⟩ := h
    subst h2; subst e
    exact .lst (le.sqL q) (dpL_of le xs h1 r)
  | .tup xs, _, _, h, ⟨a, vs, e, q, r⟩ => by
    simp only [pd, Option.map_eq_some_iff] at h
    obtain ⟨ps, h1, h2⟩ := h
    subst h2; subst e
    exact .tup (le.sqT q) (dpL_of le xs h1 r)
  | .dK _ _, _, _, h, _ => nomatch h
  | .dT _ _, _, _, h, _ => nomatch h
  | .val _, _, _, h, _ => nomatch h
  | .shd _, _, _, h, _ => nomatch h
theorem dpL_of {G H : Hp} (le : GLe G H) : ∀ (ds : List D) {ps : List PyData} {vs : List V}, pdL ds = some ps → ShL K G ds vs → DpAll K H vs ps
  | [], _, _, h, e => by cases h; rw [show _ = _ from e]; exact .nil
  | d :: ds, _, _, h, ⟨v, r, e, q, t⟩ => by
    subst e
    unfold pdL at h
    split at h
    · rename_i x xs h1 h2
      cases h
      exact .cons (dp_of le d h1 q) (dpL_of le ds h2 t)
    · cases h
end
def dEq (a b : D) : Option D := match pd a, pd b with
  | some x, some y => if (SeqAt.shaped x && SeqAt.shaped y) = true then some (.bl (PyData.eqv x y)) else none
  | _, _ => none
def dNe (a b : D) : Option D := match pd a, pd b with
  | some x, some y => if (SeqAt.shaped x && SeqAt.shaped y) = true then some (.bl (!PyData.eqv x y)) else none
  | _, _ => none
theorem vop_eq : VOp2 K m (rEqD K) dEq := by
  intro G H C x y dx dy d Q hx hy s hg hq
  unfold dEq at hg
  split at hg
  · rename_i p q h1 h2
    split at hg
    · rename_i hs
      cases hg
      rw [Bool.and_eq_true] at hs
      exact ⟨p, q, dp_of s.le dx h1 hx, dp_of s.le dy h2 hy, hs.1, hs.2, hq _ H G [] (GLe.refl G) ⟨rfl, rfl⟩ s⟩
    · cases hg
  · cases hg
theorem vop_ne : VOp2 K m (rNeD K) dNe := by
  intro G H C x y dx dy d Q hx hy s hg hq
  unfold dNe at hg
  split at hg
  · rename_i p q h1 h2
    split at hg
    · rename_i hs
      cases hg
      rw [Bool.and_eq_true] at hs
      exact ⟨p, q, dp_of s.le dx h1 hx, dp_of s.le dy h2 hy, hs.1, hs.2, hq _ H G [] (GLe.refl G) ⟨rfl, rfl⟩ s⟩
    · cases hg
  · cases hg
theorem hu64 {A : Around} {k : Nat} (hr : Room k A) : A.units + 64 < cLine := hr.units
theorem hu65 {A : Around} {k : Nat} (hr : Room k A) : A.units + 65 < cLine := by have := hr.un; omega
theorem o_eq {k : Nat} (hr : Room k X.A) (hK : X.K = K := by rfl) : OpR X (compareOp .Eq) (rEqD K) ∧ VOp2 K m (rEqD K) dEq := by subst hK; exact ⟨op_eqD (hu64 hr), vop_eq⟩
theorem o_ne {k : Nat} (hr : Room k X.A) (hK : X.K = K := by rfl) : OpR X (compareOp .NotEq) (rNeD K) ∧ VOp2 K m (rNeD K) dNe := by subst hK; exact ⟨op_neD (hu64 hr), vop_ne⟩
/-- is None -/
def isNon : D → Option Bool
  | .non => some true
  | .val _ => none
  | .shd _ => none
  | _ => some false
theorem isNon_of {G : Hp} {d : D} {v : V} {b : Bool} (h : isNon d = some b) (r : Sh K G d v) : decide (v = .non) = b := by
  cases d <;> first | (cases h; done) | skip
  · cases h; rw [show v = .non from r]; rfl
  · cases h; rw [show v = .bl _ from r]; rfl
  · cases h; rw [show v = .int _ from r]; rfl
  · cases h; rw [show v = .str _ from r]; rfl
  all_goals (obtain ⟨a, vs, e, _⟩ := r; subst e; cases h; rfl)
def dIs : D → D → Option D := fun a b => match b with
  | .non => (isNon a).map .bl
  | _ => none
def dIsNot : D → D → Option D := fun a b => match b with
  | .non => (isNon a).map fun k => .bl (!k)
  | .bl q => (match a with
    | .bl p => some (.bl (!decide (p = q)))
    | _ => none)
  | _ => none
theorem o_is : OpR X (compareOp .Is) (fun x y H Q => y = .non ∧ Q (.bl (decide (x = .non))) H) ∧ VOp2 K m (fun x y H Q => y = .non ∧ Q (.bl (decide (x = .non))) H) dIs := ⟨op_isN, by
  intro G H C x y dx dy d Q hx hy s hg hq
  unfold dIs at hg
  split at hg
  · simp only [Option.map_eq_some_iff] at hg
    obtain ⟨k, h1, h2⟩ := hg
    subst h2
    exact ⟨hy, by rw [isNon_of h1 hx]; exact hq _ H G [] (GLe.refl G) ⟨rfl, rfl⟩ s⟩
  · cases hg⟩
def rIsNotA : R2 := fun x y H Q => (y = .non ∧ Q (.bl (!decide (x = .non))) H) ∨ ∃ a b, x = V.bl a ∧ y = V.bl b ∧ Q (.bl (!decide (a = b))) H
theorem o_isnot : OpR X (compareOp .IsNot) rIsNotA ∧ VOp2 K m rIsNotA dIsNot := ⟨op_notN.or op_isnot_bl, by
  intro G H C x y dx dy d Q hx hy s hg hq
  unfold dIsNot at hg
  split at hg
  · simp only [Option.map_eq_some_iff] at hg
    obtain ⟨k, h1, h2⟩ := hg
    subst h2
    exact .inl ⟨hy, by rw [isNon_of h1 hx]; exact hq _ H G [] (GLe.refl G) ⟨rfl, rfl⟩ s⟩
  · split at hg
    · cases hg
      exact .inr ⟨_, _, hx, hy, hq _ H G [] (GLe.refl G) ⟨rfl, rfl⟩ s⟩
    · cases hg
  · cases hg⟩

/-! ### in: lists, tuples -/
def rInT (K : PySem.W.Frag) : R2 := fun x y H Q => ∃ d ds, Dp K H x d ∧ Dp K H y (.tuple ds) ∧ SeqAt.shaped d = true ∧ SeqAt.shaped (.tuple ds) = true ∧ Q (.bl (ds.any fun z => PyData.eqv z d)) H
def rNotInT (K : PySem.W.Frag) : R2 := fun x y H Q => ∃ d ds, Dp K H x d ∧ Dp K H y (.tuple ds) ∧ SeqAt.shaped d = true ∧ SeqAt.shaped (.tuple ds) = true ∧ Q (.bl (!ds.any fun z => PyData.eqv z d)) H
end
section
open PySem.Spec PyProof.Rows
variable {X : Cx} {K : PySem.W.Frag}
theorem op_inT (hu : X.A.units + 65 < cLine) : OpR X (compareOp .In) (rInT X.K) := by
  intro pins s σ H x y v u Q I rx ry h
  obtain ⟨d, ds, hd, he, sd, se, q⟩ := h
  obtain ⟨as, r1⟩ := Dp.reads I d x v hd rx
  obtain ⟨bs, r2⟩ := Dp.reads I (.tuple ds) y u he ry
  exact SeqAt.in_tuple_reads r2 r1 (SeqAt.canLay_of_shaped se) (SeqAt.canLay_of_shaped sd) (room_in_shaped sd hu) ⟨.bl _, H, I, rfl, q⟩
theorem op_notInT (hu : X.A.units + 65 < cLine) : OpR X (compareOp .NotIn) (rNotInT X.K) := by
  intro pins s σ H x y v u Q I rx ry h
  obtain ⟨d, ds, hd, he, sd, se, q⟩ := h
  obtain ⟨as, r1⟩ := Dp.reads I d x v hd rx
  obtain ⟨bs, r2⟩ := Dp.reads I (.tuple ds) y u he ry
  exact SeqAt.notIn_tuple_reads r2 r1 (SeqAt.canLay_of_shaped se) (SeqAt.canLay_of_shaped sd) (room_in_shaped sd hu) ⟨.bl _, H, I, rfl, q⟩
end
section
variable {K : PySem.W.Frag} {m : Md} {X : Cx}
def inPd (x : PyData) : PyData → Option Bool
  | .list ds => if (SeqAt.shaped x && SeqAt.shaped (.list ds)) = true then some (ds.any fun z => PyData.eqv z x) else none
  | .tuple ds => if (SeqAt.shaped x && SeqAt.shaped (.tuple ds)) = true then some (ds.any fun z => PyData.eqv z x) else none
  | _ => none
def inB (a b : D) : Option Bool := match a, b with
  | .str i, .str j => some (!(Builtin.Str.occurrences j i 0 j.length 1).isEmpty)
  | a, b => (pd a).bind fun x => (pd b).bind fun y => inPd x y
def dIn (a b : D) : Option D := (inB a b).map .bl
def dNotIn (a b : D) : Option D := (inB a b).map fun k => .bl (!k)
def rInA (K : PySem.W.Frag) : R2 := fun x y H Q => (∃ i j, x = .str i ∧ y = .str j ∧ Q (.bl (!(Builtin.Str.occurrences j i 0 j.length 1).isEmpty)) H) ∨ rInD K x y H Q ∨ rInT K x y H Q
def rNotInA (K : PySem.W.Frag) : R2 := fun x y H Q => (∃ i j, x = .str i ∧ y = .str j ∧ Q (.bl (!(!(Builtin.Str.occurrences j i 0 j.length 1).isEmpty))) H) ∨ rNotInD K x y H Q ∨ rNotInT K x y H Q
theorem inB_of {G H : Hp} {a b : D} {x y : V} {k : Bool} (le : GLe G H) (hx : Sh K G a x) (hy : Sh K G b y) (h : inB a b = some k) :
    (∃ i j, x = .str i ∧ y = .str j ∧ (!(Builtin.Str.occurrences j i 0 j.length 1).isEmpty) = k) ∨ (∃ d ds, Dp K H x d ∧ Dp K H y (.list ds) ∧ SeqAt.shaped d = true ∧ SeqAt.shaped (.list ds) = true ∧ (ds.any fun z => PyData.eqv z d) = k) ∨
      (∃ d ds, Dp K H x d ∧ Dp K H y (.tuple ds) ∧ SeqAt.shaped d = true ∧ SeqAt.shaped (.tuple ds) = true ∧ (ds.any fun z => PyData.eqv z d) = k) := by
  unfold inB at h
  split at h
  · rename_i i j
    cases h
    exact .inl ⟨i, j, hx, hy, rfl⟩
  · rename_i a' b' _
    cases e1 : pd a with
    | none => rw [e1] at h; cases h
    | some p =>
      rw [e1] at h
      cases e2 : pd b with
      | none => rw [e2] at h; cases h
      | some q =>
        rw [e2] at h
        replace h : inPd p q = some k := h
        unfold inPd at h
        split at h
        · rename_i ds
          split at h
          · rename_i hs
            cases h
            rw [Bool.and_eq_true] at hs
            exact .inr (.inl ⟨p, ds, dp_of le a e1 hx, dp_of le b e2 hy, hs.1, hs.2, rfl⟩)
          · cases h
        · rename_i ds
          split at h
          · rename_i hs
            cases h
            rw [Bool.and_eq_true] at hs
            exact .inr (.inr ⟨p, ds, dp_of le a e1 hx, dp_of le b e2 hy, hs.1, hs.2, rfl⟩)
          · cases h
        · cases h
theorem o_in {k : Nat} (hr : Room k X.A) (hK : X.K = K := by rfl) : OpR X (compareOp .In) (rInA K) ∧ VOp2 K m (rInA K) dIn := by subst hK; exact ⟨op_in_str.or ((op_inD (hu65 hr)).or (op_inT (hu65 hr))), by
  intro G H C x y dx dy d Q hx hy s hg hq
  obtain ⟨b, h1, h2⟩ := Option.map_eq_some_iff.mp hg
  subst h2
  have q := hq (.bl b) H G [] (GLe.refl G) ⟨rfl, rfl⟩ s
  rcases inB_of s.le hx hy h1 with ⟨i, j, e1, e2, e⟩ | ⟨d, ds, r1, r2, s1, s2, e⟩ | ⟨d, ds, r1, r2, s1, s2, e⟩
  · exact .inl ⟨i, j, e1, e2, by rw [e]; exact q⟩
  · exact .inr (.inl ⟨d, ds, r1, r2, s1, s2, by rw [e]; exact q⟩)
  · exact .inr (.inr ⟨d, ds, r1, r2, s1, s2, by rw [e]; exact q⟩)⟩
theorem o_notin {k : Nat} (hr : Room k X.A) (hK : X.K = K := by rfl) : OpR X (compareOp .NotIn) (rNotInA K) ∧ VOp2 K m (rNotInA K) dNotIn := by subst hK; exact ⟨op_notin_str.or ((op_notInD (hu65 hr)).or (op_notInT (hu65 hr))), by
  intro G H C x y dx dy d Q hx hy s hg hq
  obtain ⟨b, h1, h2⟩ := Option.map_eq_some_iff.mp hg
  subst h2
  have q := hq (.bl (!b)) H G [] (GLe.refl G) ⟨rfl, rfl⟩ s
  rcases inB_of s.le hx hy h1 with ⟨i, j, e1, e2, e⟩ | ⟨d, ds, r1, r2, s1, s2, e⟩ | ⟨d, ds, r1, r2, s1, s2, e⟩
  · exact .inl ⟨i, j, e1, e2, by rw [e]; exact q⟩
  · exact .inr (.inl ⟨d, ds, r1, r2, s1, s2, by rw [e]; exact q⟩)
  · exact .inr (.inr ⟨d, ds, r1, r2, s1, s2, by rw [e]; exact q⟩)⟩

/-! ### an item -/
def dIx : D → D → Option D
  | .lst xs, .int i => atI xs i
  | .frl xs, .int i => atI xs i
  | .tup xs, .int i => atI xs i
  | .str z, .int i => if z.length ≤ lim then (atI z.cps.toList i).map fun c => .str ⟨#[c]⟩ else none
  | _, _ => none
theorem ShL.atI {G : Hp} {ds : List D} {vs : List V} {i : Int} {d : D} (h : ShL K G ds vs) (e : atI ds i = some d) : ∃ v, L2.atI vs i = some v ∧ Sh K G d v := by
  unfold L2.atI at e ⊢
  rw [h.len]
  cases e2 : ixN ds.length i with
  | none => rw [e2] at e; cases e
  | some j => rw [e2] at e; exact h.get e
theorem vop_ix : VOp2 K .sh (rIx K) dIx := by
  intro G H C x y dx dy d Q hx hy s hg hq
  cases dx <;> cases dy <;> first | (cases hg; done) | skip
  · rename_i z i
    dsimp only [dIx] at hg
    split at hg
    · rename_i hl
      obtain ⟨c, h1, h2⟩ := Option.map_eq_some_iff.mp hg
      subst h2
      exact .inr (.inr ⟨z, i, c, hx, hy, by rw [← lim_eq]; exact hl, h1, hq _ H G [] (GLe.refl G) ⟨rfl, rfl⟩ s⟩)
    · cases hg
  · rename_i xs i
    obtain ⟨a, vs, e1, e2, r⟩ := hx
    obtain ⟨v, h1, h2⟩ := r.atI hg
    exact .inl ⟨a, vs, i, v, e1, hy, .inl (.inl (s.le _ _ e2)), h1, hq v H G [] (GLe.refl G) (R.of_sh h2) s⟩
  · rename_i xs i
    obtain ⟨a, vs, e1, e2, r⟩ := hx
    obtain ⟨v, h1, h2⟩ := r.atI hg
    exact .inl ⟨a, vs, i, v, e1, hy, s.le.sqL e2, h1, hq v H G [] (GLe.refl G) (R.of_sh h2) s⟩
  · rename_i xs i
    obtain ⟨a, vs, e1, e2, r⟩ := hx
    obtain ⟨v, h1, h2⟩ := r.atI hg
    exact .inr (.inl ⟨a, vs, i, v, e1, hy, s.le.sqT e2, h1, hq v H G [] (GLe.refl G) (R.of_sh h2) s⟩)
end
section
variable {X : Cx} {K : PySem.W.Frag} {Γ : List Md} {Ek : XK} {m : Md} {a b e : PySem.Expr} {ta tb te : TE} {fa fb fe : Mr D} {pos : Pos}
theorem de_ix (ha : DE X K Γ Ek .sh a ta fa) (hb : DE X K Γ Ek .sh b tb fb) (hs : PlainIx b := by exact fun _ _ => rfl) (hK : X.K = K := by rfl) : DE X K Γ Ek .sh (.Subscript a b pos) (tOp (rIx K) ta tb) (mOp dIx fa fb) := by subst hK; exact ⟨pe_ix ix_seq ha.pe hb.pe hs, snd_op ha.sn hb.sn vop_ix⟩

/-! ### a stretch -/
abbrev RI : St → Hp → Option Int → Option Int → Fg → Prop := fun _ _ a b o => a = b ∧ o = []
structure DO (X : Cx) (K : PySem.W.Frag) (Γ : List Md) (Ek : XK) (e : Option PySem.Expr) (t : TO) (f : Mr (Option Int)) : Prop where
  po : PO X e t
  sn : SndG K Γ Ek RI t f
def dPart : D → Option (Option Int)
  | .int i => some (some i)
  | _ => none
theorem do_none : DO X K Γ Ek none tNoPart (ret none) := ⟨po_none, fun σ H G C ρ Q r hg hf hq => by cases hf; exact hq none H G [] (GLe.refl G) ⟨rfl, rfl⟩ hg⟩
theorem do_some (h : DE X K Γ Ek m e te fe) : DO X K Γ Ek (some e) (tPart te) (bnd fe fun d => lft (dPart d)) := ⟨po_some h.pe, by
  refine SndG.bind (Rel1 := RE K m) (t2 := fun x _ H1 Q => ∃ i, x = .int i ∧ Q (some i) H1) h.sn fun a b σ H G C o ρ Q r rel good hf hq => ?_
  cases a <;> first | (cases hf; done) | skip
  rename_i i
  obtain ⟨rfl, rfl⟩ := (show o = [] ∧ b = .int i from rel)
  cases hf
  exact ⟨i, rfl, hq (some i) H G [] (GLe.refl G) ⟨rfl, rfl⟩ good⟩⟩
def cutD {α : Type} (xs : List α) (lo hi : Option Int) : List α := (xs.drop (HT.sIx xs.length 0 lo)).take (HT.sIx xs.length xs.length hi - HT.sIx xs.length 0 lo)
def dSl (d : D) (lo hi : Option Int) : Option D := match d with
  | .lst xs => some (.lst (cutD xs lo hi))
  | .frl xs => some (.lst (cutD xs lo hi))
  | .tup xs => some (.tup (cutD xs lo hi))
  | .str z => if z.length ≤ lim then some (.str (cutS z lo hi)) else none
  | _ => none
def rSl (K : PySem.W.Frag) : V → Option Int → Option Int → Hp → VK → Prop := fun x lo hi H Q => rSlL K x lo hi H Q ∨ rSlA K x lo hi H Q ∨ rSlS x lo hi H Q
theorem ShL.cut {K : PySem.W.Frag} {G : Hp} {ds : List D} {vs : List V} (h : ShL K G ds vs) (lo hi : Option Int) : ShL K G (cutD ds lo hi) (cutV vs lo hi) := by
  unfold cutD cutV
  rw [h.len]
  exact (h.drop _).take _
theorem snd_sl {K : PySem.W.Frag} {tl th : TO} {fl fh : Mr (Option Int)} (h : Snd K Γ Ek .sh te fe) (hl : SndG K Γ Ek RI tl fl) (hh : SndG K Γ Ek RI th fh) :
    Snd K Γ Ek (.own .sh) (tSl (rSl K) te tl th) (bnd (mPair fe (mPair fl fh)) fun p => lft (dSl p.1 p.2.1 p.2.2)) := by
  refine SndG.op (Rel := RP (RE K .sh) (RP RI RI)) (k := fun p H Q => rSl K p.1 p.2.1 p.2.2 H Q) (g := fun p => dSl p.1 p.2.1 p.2.2) (SndG.pair h (SndG.pair hl hh (fun _ _ _ _ _ _ _ r => r)) RE.mono) fun σ G H C a b o d Q rel s hg hq => ?_
  obtain ⟨o1, o2, e, r1, o3, o4, e2, ⟨ea, e3⟩, ⟨eb, e4⟩⟩ := rel
  obtain ⟨z1, q1⟩ := (R.sh_iff _).mp r1
  subst e3; subst e4; subst z1; subst e2; subst e
  obtain ⟨a1, a2, a3⟩ := a
  obtain ⟨b1, b2, b3⟩ := b
  dsimp only at ea eb hg q1 ⊢
  subst ea; subst eb
  cases a1 <;> first | (cases hg; done) | skip
  · rename_i z
    dsimp only [dSl] at hg
    split at hg
    · rename_i hz
      cases hg
      exact .inr (.inr ⟨z, q1, by rw [← lim_eq]; exact hz, hq _ H G [] (GLe.refl G) ⟨rfl, rfl⟩ s⟩)
    · cases hg
  · obtain ⟨a, vs, e1, e2, r⟩ := q1
    cases hg
    exact .inl ⟨a, vs, e1, .inl (.inl (s.le _ _ e2)), fun p hp => hq _ _ G _ (GLe.refl G) ⟨p, _, [], rfl, rfl, (RL.sh_iff _).mpr ⟨rfl, r.cut _ _⟩⟩ (s.newO hp)⟩
  · obtain ⟨a, vs, e1, e2, r⟩ := q1
    cases hg
    exact .inl ⟨a, vs, e1, s.le.sqL e2, fun p hp => hq _ _ G _ (GLe.refl G) ⟨p, _, [], rfl, rfl, (RL.sh_iff _).mpr ⟨rfl, r.cut _ _⟩⟩ (s.newO hp)⟩
  · obtain ⟨a, vs, e1, e2, r⟩ := q1
    cases hg
    refine .inr (.inl ⟨a, vs, e1, s.le.sqT e2, fun hw => ?_, fun _ p hp => ?_⟩)
    · have ec : cutV vs a2 a3 = vs := by
        unfold cutV
        rw [hw.1, hw.2]
        simp
      exact hq _ H G [] (GLe.refl G) ⟨a, vs, rfl, e2, (RL.sh_iff _).mpr ⟨rfl, by have := r.cut a2 a3; rw [ec] at this; exact this⟩⟩ s
    · obtain ⟨s', g'⟩ := s.newG (u := .tup (cutV vs a2 a3)) hp
      exact hq _ _ _ [] g' ⟨p, _, rfl, .inl (.inl upd_same), (RL.sh_iff _).mpr ⟨rfl, ShL.mono g' _ (r.cut _ _)⟩⟩ s'
theorem de_sl {lo hi : Option PySem.Expr} {tl th : TO} {fl fh : Mr (Option Int)} {p2 : Pos} (h : DE X K Γ Ek .sh e te fe) (hl : DO X K Γ Ek lo tl fl) (hh : DO X K Γ Ek hi th fh) (hK : X.K = K := by rfl) :
    DE X K Γ Ek (.own .sh) (.Subscript e (.Slice lo hi none p2) pos) (tSl (rSl K) te tl th) (bnd (mPair fe (mPair fl fh)) fun p => lft (dSl p.1 p.2.1 p.2.2)) := by subst hK; exact ⟨pe_slice (sl_list.or (sl_tupA.or sl_str)) h.pe hl.po hh.po, snd_sl h.sn hl.sn hh.sn⟩
end
end Dl
/-! Dl, fifth part: tests, choices, argument lists, displays, built-in calls. -/
namespace Dl
open PySem L2
local macro_rules | `(tactic| walk_at "fle") => `(tactic| (intro P; simp only [List.countP_append, List.countP_cons, List.countP_nil, List.append_nil, List.nil_append]; first | omega | (split <;> omega)))

/-! ### truth -/
def dTr : D → Option Bool
  | .non => some false
  | .bl b => some b
  | .int i => some (i != 0)
  | .str x => if x.length ≤ lim then some ((x.length : Int) != 0) else none
  | .lst xs => some (!xs.isEmpty)
  | .frl xs => some (!xs.isEmpty)
  | .tup xs => some (!xs.isEmpty)
  | .dK ks _ => some (!ks.isEmpty)
  | _ => none
theorem ShL.emp {K : PySem.W.Frag} {G : Hp} {ds : List D} {vs : List V} (h : ShL K G ds vs) : vs.isEmpty = ds.isEmpty := by
  cases ds with
  | nil => rw [show vs = [] from h]; rfl
  | cons d r => obtain ⟨v, w, e, _⟩ := h; rw [e]; rfl
theorem tr_of {K : PySem.W.Frag} {G H : Hp} {d : D} {v : V} {b : Bool} (le : GLe G H) (h : dTr d = some b) (r : Sh K G d v) : TruV K v H b := by
  cases d <;> first | (cases h; done) | skip
  · cases h; rw [show v = .non from r]; rfl
  · cases h; rw [show v = .bl _ from r]; rfl
  · cases h; rw [show v = .int _ from r]; rfl
  · dsimp only [dTr] at h
    split at h
    · rename_i hl
      cases h
      rw [show v = .str _ from r]
      exact ⟨by rw [← lim_eq]; exact hl, rfl⟩
    · cases h
  · obtain ⟨a, vs, e, q, t⟩ := r
    cases h; subst e
    exact .inl ⟨vs, .inl (.inl (le _ _ q)), by rw [t.emp]⟩
  · obtain ⟨a, vs, e, q, t⟩ := r
    cases h; subst e
    exact .inl ⟨vs, le.sqL q, by rw [t.emp]⟩
  · obtain ⟨a, vs, e, q, t⟩ := r
    cases h; subst e
    exact .inr (.inl ⟨vs, le.sqT q, by rw [t.emp]⟩)
  · rename_i ks xs
    obtain ⟨a, vs, e, q, l, t⟩ := r
    cases h; subst e
    refine .inr (.inr ⟨ks.zip vs, le _ _ q, ?_⟩)
    cases ks with
    | nil => rfl
    | cons k r =>
      cases vs with
      | nil => cases l
      | cons => rfl
section
variable {K : PySem.W.Frag} {X : Cx} {Γ : List Md} {Ek : XK} {m : Md} {a b c e : PySem.Expr} {t ta tb te : TE} {tA tB' : TT} {f fa fb fe : Mr D} {gA gB : Mr Bool} {pos : Pos} {rest : List PySem.Expr}
theorem snd_truth (h : Snd K Γ Ek .sh t f) : SndG K Γ Ek RB (fun σ H Q => t σ H fun x H' => ∃ k, TruV K x H' k ∧ Q k H') (bnd f fun d => lft (dTr d)) := by
  refine SndG.bind (Rel1 := RE K .sh) (t2 := fun x _ H' Q => ∃ k, TruV K x H' k ∧ Q k H') h fun a b σ H G C o ρ Q r rel good hf hq => ?_
  cases e : dTr a with
  | none => rw [e] at hf; cases hf
  | some k =>
    rw [e] at hf
    cases hf
    obtain ⟨rfl, q⟩ := (R.sh_iff _).mp rel
    exact ⟨k, tr_of good.sat.le e q, hq k H G [] (GLe.refl G) ⟨rfl, rfl⟩ good⟩
theorem dt_tr (h : DE X K Γ Ek .sh e te fe) (he : ∀ whole, isTrue e X.env whole = (do let v ← whole; standAt e.pos; holding [v] (truthy v)) := by intro _; rfl) (hK : X.K = K := by rfl) :
    DT X K Γ Ek e (fun σ H Q => te σ H fun x H' => ∃ k, TruV K x H' k ∧ Q k H') (bnd fe fun d => lft (dTr d)) := by subst hK; exact ⟨pt_truth h.pe he, snd_truth h.sn⟩
def mNot (g : Mr Bool) : Mr Bool := bnd g fun k => ret (!k)
theorem dt_not (h : DT X K Γ Ek a tA gA) : DT X K Γ Ek (.UnaryOp .Not a pos) (tNot tA) (mNot gA) := ⟨pt_not h.pt, by
  refine SndG.bind (Rel1 := RB) (t2 := fun k _ H1 Q => Q (!k) H1) h.sn fun a b σ H G C o ρ Q r rel good hf hq => ?_
  obtain ⟨rfl, rfl⟩ := rel
  cases hf
  exact hq _ H G [] (GLe.refl G) ⟨rfl, rfl⟩ good⟩
structure DW (X : Cx) (K : PySem.W.Frag) (Γ : List Md) (Ek : XK) (e : PySem.Expr) (t : TT) (f : Mr Bool) : Prop where
  pw : PW X e t
  sn : SndG K Γ Ek RB t f
theorem DW.dt (h : DW X K Γ Ek e tA gA) : DT X K Γ Ek e tA gA := ⟨h.pw.pt, h.sn⟩
theorem dw_and1 (h : DT X K Γ Ek a tA gA) : DW X K Γ Ek (.BoolOp .And [a] pos) tA gA := ⟨pw_and1 h.pt, h.sn⟩
theorem dw_or1 (h : DT X K Γ Ek a tA gA) : DW X K Γ Ek (.BoolOp .Or [a] pos) tA gA := ⟨pw_or1 h.pt, h.sn⟩
def mAnd (g g' : Mr Bool) : Mr Bool := bnd g fun k => if k = true then g' else ret false
def mOr (g g' : Mr Bool) : Mr Bool := bnd g fun k => if k = true then ret true else g'
theorem dw_and (h : DT X K Γ Ek a tA gA) (h' : DW X K Γ Ek (.BoolOp .And (b :: rest) pos) tB' gB) : DW X K Γ Ek (.BoolOp .And (a :: b :: rest) pos) (tAnd tA tB') (mAnd gA gB) := ⟨pw_and h.pt h'.pw, by
  refine SndG.bind (Rel1 := RB) (t2 := fun k σ H1 Q => if k = true then tB' σ H1 Q else Q false H1) h.sn fun a b σ H G C o ρ Q r rel good hf hq => ?_
  obtain ⟨rfl, rfl⟩ := rel
  cases a with
  | true => exact h'.sn σ H G C ρ Q r good hf hq
  | false => cases hf; exact hq _ H G [] (GLe.refl G) ⟨rfl, rfl⟩ good⟩
theorem dw_or (h : DT X K Γ Ek a tA gA) (h' : DW X K Γ Ek (.BoolOp .Or (b :: rest) pos) tB' gB) : DW X K Γ Ek (.BoolOp .Or (a :: b :: rest) pos) (tOr tA tB') (mOr gA gB) := ⟨pw_or h.pt h'.pw, by
  refine SndG.bind (Rel1 := RB) (t2 := fun k σ H1 Q => if k = true then Q true H1 else tB' σ H1 Q) h.sn fun a b σ H G C o ρ Q r rel good hf hq => ?_
  obtain ⟨rfl, rfl⟩ := rel
  cases a with
  | false => exact h'.sn σ H G C ρ Q r good hf hq
  | true => cases hf; exact hq _ H G [] (GLe.refl G) ⟨rfl, rfl⟩ good⟩
/-- a choice -/
def mIf {α : Type} (g : Mr Bool) (f f' : Mr α) : Mr α := bnd g fun k => if k = true then f else f'
theorem de_if (h : DT X K Γ Ek c tA gA) (ha : DE X K Γ Ek m a ta fa) (hb : DE X K Γ Ek m b tb fb) : DE X K Γ Ek m (.IfExp c a b pos) (tIf tA ta tb) (mIf gA fa fb) := ⟨pe_ifExp h.pt ha.pe hb.pe, by
  refine SndG.bind (Rel1 := RB) (t2 := fun k σ H1 Q => if k = true then ta σ H1 Q else tb σ H1 Q) h.sn fun a b σ H G C o ρ Q r rel good hf hq => ?_
  obtain ⟨rfl, rfl⟩ := rel
  cases a with
  | false => exact hb.sn σ H G C ρ Q r good hf hq
  | true => exact ha.sn σ H G C ρ Q r good hf hq⟩
/-- and, or, not as values -/
def mAndV (f f' : Mr D) : Mr D := bnd f fun d => bnd (lft (dTr d)) fun k => if k = true then f' else ret d
def mOrV (f f' : Mr D) : Mr D := bnd f fun d => bnd (lft (dTr d)) fun k => if k = true then ret d else f'
def mNotV (f : Mr D) : Mr D := bnd f fun d => bnd (lft (dTr d)) fun k => ret (.bl (!k))
theorem de_one {op} (h : DE X K Γ Ek m a ta fa) : DE X K Γ Ek m (.BoolOp op [a] pos) ta fa := ⟨pe_one h.pe, h.sn⟩
theorem de_and (h : DE X K Γ Ek .sh a ta fa) (h' : DE X K Γ Ek .sh (.BoolOp .And (b :: rest) pos) tb fb) (hK : X.K = K := by rfl) : DE X K Γ Ek .sh (.BoolOp .And (a :: b :: rest) pos) (tAndT K ta tb) (mAndV fa fb) := by subst hK; exact ⟨pe_andT h.pe h'.pe, by
  refine SndG.bind (Rel1 := RE X.K .sh) (t2 := fun x σ H1 Q => ∃ k, TruV X.K x H1 k ∧ if k = true then tb σ H1 Q else Q x H1) h.sn fun a b σ H G C o ρ Q r rel good hf hq => ?_
  obtain ⟨rfl, q⟩ := (R.sh_iff _).mp rel
  cases e : dTr a with
  | none => rw [e] at hf; cases hf
  | some k =>
    rw [e] at hf
    refine ⟨k, tr_of good.sat.le e q, ?_⟩
    cases k with
    | true => exact h'.sn σ H G C ρ Q r good hf hq
    | false => cases hf; exact hq _ H G [] (GLe.refl G) (R.of_sh q) good⟩
theorem de_or (h : DE X K Γ Ek .sh a ta fa) (h' : DE X K Γ Ek .sh (.BoolOp .Or (b :: rest) pos) tb fb) (hK : X.K = K := by rfl) : DE X K Γ Ek .sh (.BoolOp .Or (a :: b :: rest) pos) (tOrT K ta tb) (mOrV fa fb) := by subst hK; exact ⟨pe_orT h.pe h'.pe, by
  refine SndG.bind (Rel1 := RE X.K .sh) (t2 := fun x σ H1 Q => ∃ k, TruV X.K x H1 k ∧ if k = true then Q x H1 else tb σ H1 Q) h.sn fun a b σ H G C o ρ Q r rel good hf hq => ?_
  obtain ⟨rfl, q⟩ := (R.sh_iff _).mp rel
  cases e : dTr a with
  | none => rw [e] at hf; cases hf
  | some k =>
    rw [e] at hf
    refine ⟨k, tr_of good.sat.le e q, ?_⟩
    cases k with
    | false => exact h'.sn σ H G C ρ Q r good hf hq
    | true => cases hf; exact hq _ H G [] (GLe.refl G) (R.of_sh q) good⟩
theorem de_not (h : DE X K Γ Ek .sh a ta fa) (hK : X.K = K := by rfl) : DE X K Γ Ek m (.UnaryOp .Not a pos) (tNotT K ta) (mNotV fa) := by subst hK; exact ⟨pe_notT h.pe, by
  refine SndG.bind (Rel1 := RE X.K .sh) (t2 := fun x σ H1 (Q : VK) => ∃ k, TruV X.K x H1 k ∧ Q (.bl (!k)) H1) (f2 := fun d => bnd (lft (dTr d)) fun k => ret (D.bl (!k))) h.sn fun a b σ H G C o ρ Q r rel good hf hq => ?_
  obtain ⟨rfl, q⟩ := (R.sh_iff _).mp rel
  cases e : dTr a with
  | none => rw [e] at hf; cases hf
  | some k =>
    rw [e] at hf
    cases hf
    exact ⟨k, tr_of good.sat.le e q, hq _ H G [] (GLe.refl G) ⟨rfl, rfl⟩ good⟩⟩
theorem de_chain {op op' : CmpOp} {r r' : R2} {g g' : D → D → Option D} {tc : TE} {fc : Mr D} (o : OpR X (compareOp op) r ∧ VOp2 K .sh r g) (o' : OpR X (compareOp op') r' ∧ VOp2 K .sh r' g') (ha : DE X K Γ Ek .sh a ta fa) (hb : DE X K Γ Ek .sh b tb fb) (hc : DE X K Γ Ek .sh c tc fc)
    (hm : lastMarks [op, op'] [b, c] = false := by with_unfolding_all rfl) : DE X K Γ Ek .sh (.Compare a [op, op'] [b, c] pos) (tChain r r' ta tb tc) (mChain g g' fa fb fc) := ⟨pe_chain o.1 o'.1 ha.pe hb.pe hc.pe hm, snd_chain ha.sn hb.sn hc.sn o.2 o'.2⟩
theorem dt_chain {op op' : CmpOp} {r r' : R2} {g g' : D → D → Option D} {tc : TE} {fc : Mr D} (o : OpR X (compareOp op) r ∧ VOp2 K .sh r g) (o' : OpR X (compareOp op') r' ∧ VOp2 K .sh r' g') (ha : DE X K Γ Ek .sh a ta fa) (hb : DE X K Γ Ek .sh b tb fb) (hc : DE X K Γ Ek .sh c tc fc)
    (hm : lastMarks [op, op'] [b, c] = false := by with_unfolding_all rfl) : DT X K Γ Ek (.Compare a [op, op'] [b, c] pos) (tTest (tChain r r' ta tb tc)) (bnd (mChain g g' fa fb fc) fun d => lft (dBool d)) := ⟨pt_chain o.1 o'.1 ha.pe hb.pe hc.pe hm, snd_test (snd_chain ha.sn hb.sn hc.sn o.2 o'.2)⟩
/-- a unary minus -/
def dNeg : D → Option D
  | .int i => some (.int (-i))
  | _ => none
theorem vop_neg {K : PySem.W.Frag} : VOp1 K m (rU fun i => .int (-i)) dNeg := fun G H C x dx d Q hx s hg hq => by
  cases dx <;> first | (cases hg; done) | skip
  rename_i i
  cases hg
  exact ⟨i, hx, hq _ H G [] (GLe.refl G) ⟨rfl, rfl⟩ s⟩
theorem de_neg (h : DE X K Γ Ek .sh a ta fa) : DE X K Γ Ek m (.UnaryOp .USub a pos) (tUn (rU fun i => .int (-i)) ta) (mUn dNeg fa) := ⟨pe_un un_neg h.pe, snd_un (r := rU fun i => .int (-i)) h.sn vop_neg⟩

/-! ### argument lists -/
/-- what an argument is: a value of a mode, or a slot that is handed on -/
inductive AK where
  | v (m : Md) | io (s : Nat)
def RA (K : PySem.W.Frag) (Γ : List Md) : List AK → St → Hp → List D → List V → Fg → Prop
  | [], _, _, ds, vs, o => ds = [] ∧ vs = [] ∧ o = []
  | .v m :: ks, σ, G, ds, vs, o => ∃ d dr v vr o1 o2, ds = d :: dr ∧ vs = v :: vr ∧ o = o1 ++ o2 ∧ R K G d m v o1 ∧ RA K Γ ks σ G dr vr o2
  | .io s :: ks, σ, G, ds, vs, o => ∃ d dr v vr o1 o2 m, ds = d :: dr ∧ vs = v :: vr ∧ o = o1 ++ o2 ∧ σ[s]? = some (some v) ∧ Γ[s]? = some m ∧ R K G d m v o1 ∧ RA K Γ ks σ G dr vr o2
theorem RA.mono {Γ : List Md} : ∀ ks : List AK, RMono (RA K Γ ks)
  | [] => fun _ _ _ _ _ _ _ r => r
  | .v m :: ks => fun σ G G' ds vs o g ⟨d, dr, v, vr, o1, o2, e1, e2, e3, r, t⟩ => ⟨d, dr, v, vr, o1, o2, e1, e2, e3, R.mono g d r, RA.mono ks _ _ _ _ _ _ g t⟩
  | .io s :: ks => fun σ G G' ds vs o g ⟨d, dr, v, vr, o1, o2, m, e1, e2, e3, e4, e5, r, t⟩ => ⟨d, dr, v, vr, o1, o2, m, e1, e2, e3, e4, e5, R.mono g d r, RA.mono ks _ _ _ _ _ _ g t⟩
structure DA (X : Cx) (K : PySem.W.Frag) (Γ : List Md) (Ek : XK) (ks : List AK) (es : List PySem.Expr) (t : TA) (f : Mr (List D)) : Prop where
  pa : PA X es t
  sn : SndG K Γ Ek (RA K Γ ks) t f
def mNil : Mr (List D) := ret []
def mCons (f : Mr D) (g : Mr (List D)) : Mr (List D) := bnd (mPair f g) fun p => ret (p.1 :: p.2)
variable {ks : List AK} {es : List PySem.Expr} {tr : TA} {fr : Mr (List D)}
theorem da_nil : DA X K Γ Ek [] [] tNil mNil := ⟨pa_nil, fun σ H G C ρ Q r hg hf hq => by cases hf; exact hq [] H G [] (GLe.refl G) ⟨rfl, rfl, rfl⟩ hg⟩
theorem da_cons (h : DE X K Γ Ek m e te fe) (hr : DA X K Γ Ek ks es tr fr) (hs : starEach (e :: es) X.env = (false, eval e X.env) :: starEach es X.env := by rfl) : DA X K Γ Ek (.v m :: ks) (e :: es) (tCons te tr) (mCons fe fr) := ⟨pa_cons h.pe hr.pa hs, by
  refine SndG.bind (Rel1 := RP (RE K m) (RA K Γ ks)) (t1 := tPair te tr) (t2 := fun p _ H Q => Q (p.1 :: p.2) H) (SndG.pair h.sn hr.sn RE.mono) fun a b σ H G C o ρ Q r rel good hf hq => ?_
  obtain ⟨o1, o2, e, r1, r2⟩ := rel
  cases hf
  exact hq _ H G o (GLe.refl G) ⟨_, _, _, _, o1, o2, rfl, rfl, e, r1, r2⟩ good⟩
/-- a slot that is handed on: what the call makes of it is laid back -/
theorem da_io {x : Str} {p : Pos} (i : Nat) (hr : DA X K Γ Ek ks es tr fr) (hN : X.N[i]? = some x := by rfl) (hv : Vis X.env.scope x := by first | exact Or.inl rfl | exact Or.inr (Or.inl rfl) | exact Or.inr (Or.inr rfl)) (h : Γ[i]? = some m := by rfl) (hd : (x == ("__debug__" : Str)) = false := by decide)
    (hcd : (x == ("__classdict__" : Str)) = false := by decide) (hs : starEach (.Name x p :: es) X.env = (false, eval (.Name x p) X.env) :: starEach es X.env := by rfl) : DA X K Γ Ek (.io i :: ks) (.Name x p :: es) (tCons (tVar i) tr) (mCons (mMov i) fr) := ⟨pa_cons (pe_var hN hv hd hcd) hr.pa hs, by
  have h1 : SndG K Γ Ek (fun σ G d v o => σ[i]? = some (some v) ∧ R K G d m v o) (tVar i) (mMov i) := by
    intro σ H G C ρ Q r hg hf hq
    obtain ⟨d, e, _, er⟩ := mMov_inv hf
    subst er
    obtain ⟨v, m', o, e1, e2, r, g2⟩ := hg.take e
    rw [h] at e2; cases e2
    exact ⟨v, e1, hq v H G o (GLe.refl G) ⟨e1, r⟩ g2⟩
  refine SndG.bind (Rel1 := RP (fun σ G d v o => σ[i]? = some (some v) ∧ R K G d m v o) (RA K Γ ks)) (t1 := tPair (tVar i) tr) (t2 := fun p _ H Q => Q (p.1 :: p.2) H) (SndG.pair h1 hr.sn fun σ G G' d v o g r => ⟨r.1, R.mono g d r.2⟩) fun a b σ H G C o ρ Q r rel good hf hq => ?_
  obtain ⟨o1, o2, e, ⟨r0, r1⟩, r2⟩ := rel
  cases hf
  exact hq _ H G o (GLe.refl G) ⟨_, _, _, _, o1, o2, m, rfl, rfl, e, r0, h, r1, r2⟩ good⟩
/-- every argument of one mode -/
def isV (m : Md) : AK → Prop
  | .v m' => m' = m
  | .io _ => False
theorem isV_rep {m : Md} {ks : List AK} {n : Nat} (h : ks = List.replicate n (.v m)) : ∀ k ∈ ks, isV m k := fun k hk => by
  rw [h] at hk
  rw [(List.mem_replicate.mp hk).2]
  exact rfl
theorem RA.all {m : Md} {G : Hp} {σ : St} : ∀ {ks : List AK} {ds : List D} {vs : List V} {o : Fg}, (∀ k ∈ ks, isV m k) → RA K Γ ks σ G ds vs o → RL K G ds m vs o
  | [], ds, vs, o, _, ⟨e1, e2, e3⟩ => by subst e1; subst e2; subst e3; exact ⟨rfl, rfl⟩
  | .v m' :: ks, ds, vs, o, h, ⟨d, dr, v, vr, o1, o2, e1, e2, e3, r, t⟩ => by
    have e : m' = m := h _ List.mem_cons_self
    subst e; subst e1; subst e2
    exact ⟨v, vr, o1, o2, rfl, e3, r, RA.all (fun k hk => h k (List.mem_cons_of_mem _ hk)) t⟩
  | .io s :: ks, ds, vs, o, h, _ => (h (.io s) List.mem_cons_self).elim

/-! ### displays -/
def dTup (ds : List D) : Option D := if ds.length ≤ lim then some (.tup ds) else none
def dLst (ds : List D) : Option D := if ds.length ≤ lim then some (.lst ds) else none
theorem de_tup {x1} (h : DA X K Γ Ek ks es tr fr) (hk : ks = List.replicate es.length (.v m) := by rfl) : DE X K Γ Ek (.own m) (.Tuple es x1 pos) (tTup tr) (bnd fr fun ds => lft (dTup ds)) := ⟨pe_tup h.pa, by
  refine SndG.op (k := fun xs H1 Q => xs.length ≤ sizeLine ∧ ∀ p, H1 p = none → Q (.ref p) (upd H1 p (.tup xs))) h.sn fun σ G H C ds vs o d Q rel s hg hq => ?_
  have r := RA.all (isV_rep hk) rel
  unfold dTup at hg
  split at hg
  · rename_i hl
    cases hg
    refine ⟨by rw [r.len, ← lim_eq]; exact hl, fun p hp => ?_⟩
    obtain ⟨s', g'⟩ := s.newG (u := .tup vs) hp
    exact hq _ _ _ o g' ⟨p, vs, rfl, .inl (.inl upd_same), RL.mono g' _ r⟩ s'
  · cases hg⟩
theorem de_lst (h : DA X K Γ Ek ks es tr fr) (hk : ks = List.replicate es.length (.v m) := by rfl) : DE X K Γ Ek (.own m) (.List es pos) (tLst tr) (bnd fr fun ds => lft (dLst ds)) := ⟨pe_lst h.pa, by
  refine SndG.op (k := fun xs H1 Q => xs.length ≤ sizeLine ∧ ∀ p, H1 p = none → Q (.ref p) (upd H1 p (.lst xs))) h.sn fun σ G H C ds vs o d Q rel s hg hq => ?_
  have r := RA.all (isV_rep hk) rel
  unfold dLst at hg
  split at hg
  · rename_i hl
    cases hg
    refine ⟨by rw [r.len, ← lim_eq]; exact hl, fun p hp => ?_⟩
    exact hq _ _ G _ (GLe.refl G) ⟨p, vs, o, rfl, rfl, r⟩ (s.newO hp)
  · cases hg⟩

/-! ### built-in functions -/
def VOpL (K : PySem.W.Frag) (m : Md) (r : List V → Hp → VK → Prop) (g : List D → Option D) : Prop :=
  ∀ (G H : Hp) (C : Fg) (vs : List V) (ds : List D) (d : D) (Q : VK), ShL K G ds vs → Sat H G C → g ds = some d →
    (∀ v H' G' o', GLe G G' → R K G' d m v o' → Sat H' G' (o' ++ C) → Q v H') → r vs H Q
def mCall (g : List D → Option D) (fr : Mr (List D)) : Mr D := bnd fr fun ds => lft (g ds)
theorem snd_cb {r : List V → Hp → VK → Prop} {g : List D → Option D} (h : SndG K Γ Ek (RA K Γ ks) tr fr) (hk : ∀ k ∈ ks, isV .sh k) (hv : VOpL K m r g) : Snd K Γ Ek m (tCB r tr) (mCall g fr) :=
  SndG.op (k := fun vs H Q => r vs H Q) h fun σ G H C ds vs o d Q rel s hg hq => by
    obtain ⟨z, q⟩ := (RL.sh_iff _).mp (RA.all hk rel)
    subst z
    exact hv G H C vs ds d Q q s hg hq
theorem de_cb {x : Str} {p : Pos} {id : String} {r : List V → Hp → VK → Prop} {g : List D → Option D} (hc : CallR X (.builtin id) r ∧ VOpL K m r g) (hm : X.mg x = none) (h : DA X K Γ Ek ks (e :: es) tr fr) (hg : Gl X x := by rfl) (hv : bootBuiltins x = some (.builtin id) := by first | rfl | decide +kernel)
    (hk : ks = List.replicate (es.length + 1) (.v .sh) := by rfl) (hn : x ≠ "__name__" := by decide) (hdb : (x == ("__debug__" : Str)) = false := by decide)
    (he : starEach (e :: es) X.env = (false, eval e X.env) :: starEach es X.env := by rfl) (hpl : (backTo pos (starEach es X.env)).any (·.1) = false := by rfl) : DE X K Γ Ek m (.Call (.Name x p) (e :: es) [] pos) (tCB r tr) (mCall g fr) :=
  ⟨pe_callB hc.1 hg hm hv h.pa hn hdb he hpl, snd_cb h.sn (isV_rep hk) hc.2⟩
theorem de_ct {x : Str} {p : Pos} {T : String} {r : List V → Hp → VK → Prop} {g : List D → Option D} (hc : CallR X (.type T) r ∧ VOpL K m r g) (hm : X.mg x = none) (h : DA X K Γ Ek ks (e :: es) tr fr) (hg : Gl X x := by rfl) (hv : bootBuiltins x = some (.type T) := by first | rfl | decide +kernel)
    (hk : ks = List.replicate (es.length + 1) (.v .sh) := by rfl) (hn : x ≠ "__name__" := by decide) (hdb : (x == ("__debug__" : Str)) = false := by decide)
    (he : starEach (e :: es) X.env = (false, eval e X.env) :: starEach es X.env := by rfl) (hpl : (backTo pos (starEach es X.env)).any (·.1) = false := by rfl) : DE X K Γ Ek m (.Call (.Name x p) (e :: es) [] pos) (tCB r tr) (mCall g fr) :=
  ⟨pe_callTy hc.1 hg hm hv h.pa hn hdb he hpl, snd_cb h.sn (isV_rep hk) hc.2⟩
end
end Dl
/-! Dl, sixth part: statements, targets, loops. -/
namespace Dl
open PySem L2
local macro_rules | `(tactic| walk_at "fle") => `(tactic| (intro P; simp only [List.countP_append, List.countP_cons, List.countP_nil, List.append_nil, List.nil_append]; first | omega | (split <;> omega)))

inductive Fl where
  | nx | rt (d : D) | bk | ct
/-- the slots io hold what they held -/
def Fix (io : List Nat) (σ σ' : St) : Prop := ∀ i ∈ io, σ'[i]? = σ[i]?
theorem Fix.refl {io : List Nat} (σ : St) : Fix io σ σ := fun _ _ => rfl
theorem Fix.trans {io : List Nat} {a b c : St} (h : Fix io a b) (h' : Fix io b c) : Fix io a c := fun i hi => (h' i hi).trans (h i hi)
theorem Fix.set {io : List Nat} {σ : St} {i : Nat} {v : Option V} (h : i ∉ io) : Fix io σ (σ.set i v) := fun j hj => List.getElem?_set_ne (by rintro rfl; exact h hj)
section
variable (K : PySem.W.Frag) (Γ : List Md) (Ek : XK) (rm : Md) (io : List Nat)
def SQ (G : Hp) (C : Fg) (σ : St) (E : Ends) : Rs Fl → Prop
  | .ok .nx ρ' => ∀ σ' H' G', GLe G G' → Fix io σ σ' → Good K Γ G' H' C σ' ρ' → E.nx σ' H'
  | .ok .bk ρ' => ∀ σ' H' G', GLe G G' → Fix io σ σ' → Good K Γ G' H' C σ' ρ' → E.bk σ' H'
  | .ok .ct ρ' => ∀ σ' H' G', GLe G G' → Fix io σ σ' → Good K Γ G' H' C σ' ρ' → E.ct σ' H'
  | .ok (.rt d) ρ' => ∀ v σ' H' G' o, GLe G G' → Fix io σ σ' → R K G' d rm v o → Good K Γ G' H' (o ++ C) σ' ρ' → E.rt v H'
  | .ex x ρ' => ∀ c dx σ' H' G', GLe G G' → Fix io σ σ' → XR K G' x c dx → Good K Γ G' H' C σ' ρ' → Ek c dx H'
def SndS (t : TS) (f : Mr Fl) : Prop := ∀ (σ : St) (H G : Hp) (C : Fg) (ρ : De) (E : Ends) (r : Rs Fl), Good K Γ G H C σ ρ → f ρ = some r → SQ K Γ Ek rm io G C σ E r → t E σ H
/-- a target -/
def SndT (m : Md) (g : TG) (gt : D → De → Option De) : Prop := ∀ (G H : Hp) (C o : Fg) (σ : St) (ρ ρ' : De) (d : D) (v : V) (Q : St → Hp → Prop), R K G d m v o → Good K Γ G H (o ++ C) σ ρ → gt d ρ = some ρ' →
  (∀ σ' H' G', GLe G G' → Fix io σ σ' → Good K Γ G' H' C σ' ρ' → Q σ' H') → g v σ H Q
def SndTs (m : Md) (g : TGs) (gt : List D → De → Option De) : Prop := ∀ (G H : Hp) (C o : Fg) (σ : St) (ρ ρ' : De) (ds : List D) (vs : List V) (Q : St → Hp → Prop), RL K G ds m vs o → Good K Γ G H (o ++ C) σ ρ → gt ds ρ = some ρ' →
  (∀ σ' H' G', GLe G G' → Fix io σ σ' → Good K Γ G' H' C σ' ρ' → Q σ' H') → g vs σ H Q
end
structure DS (X : Cx) (K : PySem.W.Frag) (Γ : List Md) (Ek : XK) (rm : Md) (io : List Nat) (st : Stmt) (t : TS) (f : Mr Fl) : Prop where
  ps : PS X st t
  sn : SndS K Γ Ek rm io t f
structure DSs (X : Cx) (K : PySem.W.Frag) (Γ : List Md) (Ek : XK) (rm : Md) (io : List Nat) (st : List Stmt) (t : TS) (f : Mr Fl) : Prop where
  ps : PSs X st t
  sn : SndS K Γ Ek rm io t f
structure DG (X : Cx) (K : PySem.W.Frag) (Γ : List Md) (io : List Nat) (m : Md) (tg : PySem.Expr) (g : TG) (gt : D → De → Option De) : Prop where
  pg : PG X tg g
  sn : SndT K Γ io m g gt
structure DGs (X : Cx) (K : PySem.W.Frag) (Γ : List Md) (io : List Nat) (m : Md) (tg : List PySem.Expr) (g : TGs) (gt : List D → De → Option De) : Prop where
  pg : PGs X tg g
  sn : SndTs K Γ io m g gt
section
variable {K : PySem.W.Frag} {X : Cx} {Γ : List Md} {Ek : XK} {m rm : Md} {io : List Nat} {a b c e tg : PySem.Expr} {t u : TS} {te ta tb : TE} {tA : TT} {f f' : Mr Fl} {fe fa fb : Mr D} {gA : Mr Bool} {pos p : Pos} {st : Stmt} {rest sa sb : List Stmt} {ks : List AK} {es : List PySem.Expr} {tr : TA} {fr : Mr (List D)}
theorem SQ.mono {G G' : Hp} {C : Fg} {σ σ' : St} {E : Ends} {r : Rs Fl} (g : GLe G G') (x : Fix io σ σ') (h : SQ K Γ Ek rm io G C σ E r) : SQ K Γ Ek rm io G' C σ' E r := by
  cases r with
  | ok fl ρ =>
    cases fl with
    | nx => exact fun σ2 H2 G2 g2 x2 => h σ2 H2 G2 (g.trans g2) (x.trans x2)
    | bk => exact fun σ2 H2 G2 g2 x2 => h σ2 H2 G2 (g.trans g2) (x.trans x2)
    | ct => exact fun σ2 H2 G2 g2 x2 => h σ2 H2 G2 (g.trans g2) (x.trans x2)
    | rt d => exact fun v σ2 H2 G2 o g2 x2 => h v σ2 H2 G2 o (g.trans g2) (x.trans x2)
  | ex x' ρ => exact fun c dx σ2 H2 G2 g2 x2 => h c dx σ2 H2 G2 (g.trans g2) (x.trans x2)

/-! ### blocks -/
def mSeq (f g : Mr Fl) : Mr Fl := fun ρ => match f ρ with
  | some (.ok .nx ρ') => g ρ'
  | r => r
def mSkip : Mr Fl := ret .nx
theorem dss_nil : DSs X K Γ Ek rm io [] tNext mSkip := ⟨pss_nil, fun σ H G C ρ E r hg hf hq => by cases hf; exact hq σ H G (GLe.refl G) (Fix.refl σ) hg⟩
theorem dss_one (h : DS X K Γ Ek rm io st t f) : DSs X K Γ Ek rm io [st] t f := ⟨pss_one h.ps, h.sn⟩
theorem snd_seq (h : SndS K Γ Ek rm io t f) (h' : SndS K Γ Ek rm io u f') : SndS K Γ Ek rm io (tSeq t u) (mSeq f f') := by
  intro σ H G C ρ E r hg hf hq
  unfold mSeq at hf
  cases e : f ρ with
  | none => rw [e] at hf; cases hf
  | some r1 =>
    rw [e] at hf
    refine h σ H G C ρ { E with nx := u E } r1 hg e ?_
    cases r1 with
    | ok fl ρ1 =>
      cases fl with
      | nx => exact fun σ' H' G' g x good => h' σ' H' G' C ρ1 E r good hf (hq.mono g x)
      | bk => cases hf; exact hq
      | ct => cases hf; exact hq
      | rt d => cases hf; exact hq
    | ex x ρ1 => cases hf; exact hq
theorem dss_cons (h : DS X K Γ Ek rm io st t f) (h' : DSs X K Γ Ek rm io rest u f') : DSs X K Γ Ek rm io (st :: rest) (tSeq t u) (mSeq f f') := ⟨pss_cons h.ps h'.ps, snd_seq h.sn h'.sn⟩
theorem ds_no : DS X K Γ Ek rm io st tNever (fun _ => none) := ⟨ps_never, fun _ _ _ _ _ _ _ _ h _ => nomatch h⟩
theorem dss_no : DSs X K Γ Ek rm io rest tNever (fun _ => none) := ⟨pss_never, fun _ _ _ _ _ _ _ _ h _ => nomatch h⟩
theorem ds_pass : DS X K Γ Ek rm io (.Pass p) tNext mSkip := ⟨ps_pass, (dss_nil (X := X)).sn⟩
theorem ds_break : DS X K Γ Ek rm io (.Break p) tBreak (ret .bk) := ⟨ps_break, fun σ H G C ρ E r hg hf hq => by cases hf; exact hq σ H G (GLe.refl G) (Fix.refl σ) hg⟩
theorem ds_continue : DS X K Γ Ek rm io (.Continue p) tCont (ret .ct) := ⟨ps_continue, fun σ H G C ρ E r hg hf hq => by cases hf; exact hq σ H G (GLe.refl G) (Fix.refl σ) hg⟩
theorem ds_doc {x : Str} {j} {p p' : Pos} : DS X K Γ Ek rm io (.Expr (.Constant (.str x) j p) p') tNext mSkip := ⟨ps_doc, (dss_nil (X := X)).sn⟩
/-- what an expression's statement gives -/
theorem snd_then {E : Ends} {σ : St} {H G : Hp} {C : Fg} {ρ : De} {r : Rs Fl} {g : D → Mr Fl} {Q : VK} (h : Snd K Γ Ek m te fe) (hg : Good K Γ G H C σ ρ) (hf : bnd fe g ρ = some r) (hq : SQ K Γ Ek rm io G C σ E r)
    (k : ∀ d v o ρ1 H' G', GLe G G' → R K G' d m v o → Good K Γ G' H' (o ++ C) σ ρ1 → g d ρ1 = some r → Q v H') : te σ H Q := by
  rcases bnd_inv hf with ⟨d, ρ1, e1, e2⟩ | ⟨x, ρ1, e1, e2⟩
  · exact h σ H G C ρ _ _ hg e1 fun v H' G' o g' r' good => k d v o ρ1 H' G' g' r' good e2
  · subst e2
    exact h σ H G C ρ _ _ hg e1 fun c dx H' G' g' xr good => hq c dx σ H' G' g' (Fix.refl σ) xr good
theorem ds_expr (h : DE X K Γ Ek m e te fe) (hs : PS X (.Expr e pos) (tDrop te) := by exact ps_expr (by assumption)) : DS X K Γ Ek rm io (.Expr e pos) (tDrop te) (bnd fe fun _ => mSkip) := ⟨hs, by
  intro σ H G C ρ E r hg hf hq
  refine snd_then h.sn hg hf hq fun d v o ρ1 H' G' g' r' good e2 => ?_
  cases e2
  exact hq σ H' G' g' (Fix.refl σ) (good.re (by walk_at "fle"))⟩
theorem ds_ret (h : DE X K Γ Ek rm e te fe) : DS X K Γ Ek rm io (.Return (some e) pos) (tRet te) (bnd fe fun d => ret (.rt d)) := ⟨ps_ret h.pe, by
  intro σ H G C ρ E r hg hf hq
  refine snd_then h.sn hg hf hq fun d v o ρ1 H' G' g' r' good e2 => ?_
  cases e2
  exact hq v σ H' G' o g' (Fix.refl σ) r' good⟩
theorem ds_retN : DS X K Γ Ek rm io (.Return none pos) tRetN (ret (.rt .non)) := ⟨ps_retN, by
  intro σ H G C ρ E r hg hf hq
  cases hf
  exact hq .non σ H G [] (GLe.refl G) (Fix.refl σ) ⟨rfl, rfl⟩ hg⟩
theorem ds_if (h : DT X K Γ Ek c tA gA) (ha : DSs X K Γ Ek rm io sa t f) (hb : DSs X K Γ Ek rm io sb u f') : DS X K Γ Ek rm io (.If c sa sb pos) (tIfS tA t u) (mIf gA f f') := ⟨ps_if h.pt ha.ps hb.ps, by
  intro σ H G C ρ E r hg hf hq
  rcases bnd_inv hf with ⟨k, ρ1, e1, e2⟩ | ⟨x, ρ1, e1, e2⟩
  · refine h.sn σ H G C ρ _ _ hg e1 fun b H' G' o g' rel good => ?_
    obtain ⟨rfl, rfl⟩ := rel
    cases k with
    | true => exact ha.sn σ H' G' C ρ1 E r good e2 (hq.mono g' (Fix.refl σ))
    | false => exact hb.sn σ H' G' C ρ1 E r good e2 (hq.mono g' (Fix.refl σ))
  · subst e2
    exact h.sn σ H G C ρ _ _ hg e1 fun c dx H' G' g' xr good => hq c dx σ H' G' g' (Fix.refl σ) xr good⟩

/-! ### targets -/
def gtName (i : Nat) (d : D) (ρ : De) : Option De := some (ρ.set i (some d))
def gtScal (i : Nat) (d : D) (ρ : De) : Option De := if scal d then some (ρ.set i (some d)) else none
def gtAny (i : Nat) (_ : D) (ρ : De) : Option De := some (ρ.set i none)
theorem snt_name {i : Nat} (h : Γ[i]? = some m) (hi : i ∉ io) : SndT K Γ io m (gName i) (gtName i) := fun G H C o σ ρ ρ' d v Q r good e hq => by
  cases e
  exact hq _ H G (GLe.refl G) (Fix.set hi) (good.put r h)
theorem snt_scal {i : Nat} {m' : Md} (h : Γ[i]? = some m') (hi : i ∉ io) : SndT K Γ io m (gName i) (gtScal i) := fun G H C o σ ρ ρ' d v Q r good e hq => by
  unfold gtScal at e
  split at e
  · rename_i hs
    cases e
    exact hq _ H G (GLe.refl G) (Fix.set hi) (good.put (R.scal hs r) h)
  · cases e
theorem snt_any {i : Nat} (hi : i ∉ io) : SndT K Γ io m (gName i) (gtAny i) := fun G H C o σ ρ ρ' d v Q r good e hq => by
  cases e
  exact hq _ H G (GLe.refl G) (Fix.set hi) (good.putAny.re (by walk_at "fle"))
theorem dg_name (i : Nat) {x : Str} (nd : X.N.Nodup) (hi : X.N[i]? = some x := by rfl) (hx : Loc X.env.scope x := by first | exact Or.inl rfl | exact Or.inr rfl) (h : Γ[i]? = some m := by rfl) (hio : i ∉ io := by decide)
    (hf : X.fn x = true ∨ X.env.scope.names.lookup x = some .local := by first | exact .inl rfl | exact .inr rfl) : DG X K Γ io m (.Name x p) (gName i) (gtName i) := ⟨pg_name nd hi hx hf, snt_name h hio⟩
theorem dg_scal (i : Nat) {x : Str} {m' : Md} (nd : X.N.Nodup) (hi : X.N[i]? = some x := by rfl) (hx : Loc X.env.scope x := by first | exact Or.inl rfl | exact Or.inr rfl) (h : Γ[i]? = some m' := by rfl) (hio : i ∉ io := by decide)
    (hf : X.fn x = true ∨ X.env.scope.names.lookup x = some .local := by first | exact .inl rfl | exact .inr rfl) : DG X K Γ io m (.Name x p) (gName i) (gtScal i) := ⟨pg_name nd hi hx hf, snt_scal h hio⟩
theorem dg_any (i : Nat) {x : Str} (nd : X.N.Nodup) (hi : X.N[i]? = some x := by rfl) (hx : Loc X.env.scope x := by first | exact Or.inl rfl | exact Or.inr rfl) (hio : i ∉ io := by decide)
    (hf : X.fn x = true ∨ X.env.scope.names.lookup x = some .local := by first | exact .inl rfl | exact .inr rfl) : DG X K Γ io m (.Name x p) (gName i) (gtAny i) := ⟨pg_name nd hi hx hf, snt_any hio⟩
def gtNil (ds : List D) (ρ : De) : Option De := match ds with
  | [] => some ρ
  | _ => none
def gtCons (gt : D → De → Option De) (gr : List D → De → Option De) (ds : List D) (ρ : De) : Option De := match ds with
  | d :: r => (gt d ρ).bind fun ρ' => gr r ρ'
  | [] => none
theorem dgs_nil : DGs X K Γ io m [] gNil gtNil := ⟨pgs_nil, fun G H C o σ ρ ρ' ds vs Q r good e hq => by
  cases ds with
  | cons => cases e
  | nil =>
    cases e
    obtain ⟨e1, e2⟩ := r
    subst e1; subst e2
    exact ⟨rfl, hq σ H G (GLe.refl G) (Fix.refl σ) good⟩⟩
theorem dgs_cons {g : TG} {gs : TGs} {gt : D → De → Option De} {gr : List D → De → Option De} (h : DG X K Γ io m e g gt) (h' : DGs X K Γ io m es gs gr) (hs : (assignEach (e :: es) X.env).map (·.2) = assign e X.env :: (assignEach es X.env).map (·.2) := by rfl) : DGs X K Γ io m (e :: es) (gCons g gs) (gtCons gt gr) := ⟨pgs_cons h.pg h'.pg hs, fun G H C o σ ρ ρ' ds vs Q r good e hq => by
  cases ds with
  | nil => cases e
  | cons d ds =>
    obtain ⟨v, vr, o1, o2, e1, e2, r1, r2⟩ := r
    subst e1; subst e2
    obtain ⟨ρ1, e3, e4⟩ := Option.bind_eq_some_iff.mp e
    refine ⟨v, vr, rfl, h.sn G H (o2 ++ C) o1 σ ρ ρ1 d v _ r1 (good.re (by walk_at "fle")) e3 fun σ' H' G' g' x' good' => ?_⟩
    exact h'.sn G' H' C o2 σ' ρ1 ρ' ds vr Q (RL.mono g' ds r2) good' e4 fun σ2 H2 G2 g2 x2 => hq σ2 H2 G2 (g'.trans g2) (x'.trans x2)⟩
def gtTup (n : Nat) (gr : List D → De → Option De) (d : D) (ρ : De) : Option De := match d with
  | .tup ds => if ds.length = n then gr ds ρ else none
  | _ => none
theorem dg_tup {k : Nat} {gs : TGs} {gr : List D → De → Option De} {n : Nat} (hc : X.calm = true) (h : DGs X K Γ io m es gs gr) (hn : (assignEach es X.env).length = n := by rfl) (hst : (assignEach es X.env).findIdx? (·.1) = none := by rfl) (hK : X.K = K := by rfl) :
    DG X K Γ io (.own m) (.Tuple es k p) (gTup K n gs) (gtTup n gr) := by subst hK; exact ⟨pg_tup hc h.pg hn hst, fun G H C o σ ρ ρ' d v Q r good e hq => by
  cases d <;> first | (cases e; done) | skip
  rename_i ds
  obtain ⟨a, vs, e1, e2, r1⟩ := r
  dsimp only [gtTup] at e
  split at e
  · rename_i hl
    exact ⟨a, vs, e1, good.sat.le.sqT e2, by rw [r1.len]; exact hl, h.sn G H C o σ ρ ρ' ds vs Q r1 good e hq⟩
  · cases e⟩
theorem dg_tupS {k : Nat} {gs : TGs} {gr : List D → De → Option De} {n : Nat} (hc : X.calm = true) (h : DGs X K Γ io .sh es gs gr) (hn : (assignEach es X.env).length = n := by rfl) (hst : (assignEach es X.env).findIdx? (·.1) = none := by rfl) (hK : X.K = K := by rfl) :
    DG X K Γ io .sh (.Tuple es k p) (gTup K n gs) (gtTup n gr) := by subst hK; exact ⟨pg_tup hc h.pg hn hst, fun G H C o σ ρ ρ' d v Q r good e hq => by
  cases d <;> first | (cases e; done) | skip
  rename_i ds
  obtain ⟨z, a, vs, e1, e2, r1⟩ := r
  subst z
  dsimp only [gtTup] at e
  split at e
  · rename_i hl
    exact ⟨a, vs, e1, good.sat.le.sqT e2, by rw [r1.len]; exact hl, h.sn G H C [] σ ρ ρ' ds vs Q ((RL.sh_iff _).mpr ⟨rfl, r1⟩) good e hq⟩
  · cases e⟩
def mAsg (fe : Mr D) (gt : D → De → Option De) : Mr Fl := bnd fe fun d ρ => match gt d ρ with
  | none => none
  | some ρ' => some (.ok .nx ρ')
theorem snd_asg {g : TG} {gt : D → De → Option De} (h : Snd K Γ Ek m te fe) (hg' : SndT K Γ io m g gt) : SndS K Γ Ek rm io (tAsg te g) (mAsg fe gt) := by
  intro σ H G C ρ E r hg hf hq
  refine snd_then h hg hf hq fun d v o ρ1 H' G' g' r' good e2 => ?_
  split at e2
  · cases e2
  · rename_i ρ2 e3
    cases e2
    exact hg' G' H' C o σ ρ1 ρ2 d v E.nx r' good e3 fun σ2 H2 G2 g2 x2 => hq σ2 H2 G2 (g'.trans g2) x2
theorem ds_asg {g : TG} {gt : D → De → Option De} (h : DE X K Γ Ek m e te fe) (hg : DG X K Γ io m tg g gt) (hs : swapsWithSole [tg] e pos.line X.env = pure false := by rfl) (hw : swappedStores [tg] e X.env = pure none := by rfl)
    (h1 : (assignEach [tg] X.env).map (·.2) = [assign tg X.env] := by rfl) : DS X K Γ Ek rm io (.Assign [tg] e pos) (tAsg te g) (mAsg fe gt) := ⟨ps_asg h.pe hg.pg hs hw h1, snd_asg h.sn hg.sn⟩
/-- x, y = a, b -/
def mPar (i j : Nat) (fr : Mr (List D)) : Mr Fl := bnd fr fun ds ρ => match ds with
  | [d, e] => some (.ok .nx ((ρ.set i (some d)).set j (some e)))
  | _ => none
theorem ds_par {i j : Nat} {x y : Str} {px py pt : Pos} {kt k2 pt2} {mi mj : Md} (hc : X.calm = true) (hN : X.N.Nodup) (ha : DA X K Γ Ek [.v mi, .v mj] [a, b] tr fr)
    (hw : swappedStores [.Tuple [.Name x px, .Name y py] kt pt] (.Tuple [a, b] k2 pt2) X.env = pure (some [x, y])) (hi : X.N[i]? = some x := by rfl) (hj : X.N[j]? = some y := by rfl) (hij : i ≠ j := by decide)
    (hx : X.env.scope.names.lookup x = some .local := by rfl) (hy : X.env.scope.names.lookup y = some .local := by rfl) (h1 : Γ[i]? = some mi := by rfl) (h2 : Γ[j]? = some mj := by rfl) (hio : i ∉ io := by decide) (hjo : j ∉ io := by decide)
    (hs : swapsWithSole [.Tuple [.Name x px, .Name y py] kt pt] (.Tuple [a, b] k2 pt2) pos.line X.env = pure false := by rfl) :
    DS X K Γ Ek rm io (.Assign [.Tuple [.Name x px, .Name y py] kt pt] (.Tuple [a, b] k2 pt2) pos) (tPar i j tr) (mPar i j fr) := ⟨ps_par hc hN hi hj hij hx hy ha.pa hw hs, by
  intro σ H G C ρ E r hg hf hq
  rcases bnd_inv hf with ⟨ds, ρ1, e1, e2⟩ | ⟨x, ρ1, e1, e2⟩
  · refine ha.sn σ H G C ρ _ _ hg e1 fun vs H' G' o g' rel good => ?_
    obtain ⟨d, dr, v, vr, o1, o2, ed, ev, eo, r1, d', dr', v', vr', o3, o4, ed', ev', eo', r2, z1, z2, z3⟩ := rel
    subst z1; subst z2; subst z3; subst ed'; subst ev'; subst eo'; subst ed; subst ev; subst eo
    cases e2
    refine ⟨v, v', rfl, hq _ H' G' g' ((Fix.set hio).trans (Fix.set hjo)) ?_⟩
    exact Good.put (o := o3) (Good.put (o := o1) (C := o3 ++ C) (good.re (by walk_at "fle")) r1 h1) r2 h2
  · subst e2
    exact ha.sn σ H G C ρ _ _ hg e1 fun c dx H' G' g' xr good => hq c dx σ H' G' g' (Fix.refl σ) xr good⟩
def mPar3 (i j l : Nat) (fr : Mr (List D)) : Mr Fl := bnd fr fun ds ρ => match ds with
  | [d, e, f] => some (.ok .nx (((ρ.set i (some d)).set j (some e)).set l (some f)))
  | _ => none
theorem ds_par3 {i j l : Nat} {x y z : Str} {px py pz pt : Pos} {kt k2 pt2} {mi mj ml : Md} (hc : X.calm = true) (hN : X.N.Nodup) (ha : DA X K Γ Ek [.v mi, .v mj, .v ml] [a, b, c] tr fr)
    (hw : swappedStores [.Tuple [.Name x px, .Name y py, .Name z pz] kt pt] (.Tuple [a, b, c] k2 pt2) X.env = pure (some [x, y, z])) (hi : X.N[i]? = some x := by rfl) (hj : X.N[j]? = some y := by rfl) (hl : X.N[l]? = some z := by rfl) (hij : i ≠ j := by decide) (hil : i ≠ l := by decide) (hjl : j ≠ l := by decide)
    (hx : X.env.scope.names.lookup x = some .local := by rfl) (hy : X.env.scope.names.lookup y = some .local := by rfl) (hz : X.env.scope.names.lookup z = some .local := by rfl) (h1 : Γ[i]? = some mi := by rfl) (h2 : Γ[j]? = some mj := by rfl) (h3 : Γ[l]? = some ml := by rfl)
    (hio : i ∉ io := by decide) (hjo : j ∉ io := by decide) (hlo : l ∉ io := by decide)
    (hs : swapsWithSole [.Tuple [.Name x px, .Name y py, .Name z pz] kt pt] (.Tuple [a, b, c] k2 pt2) pos.line X.env = pure false := by rfl) :
    DS X K Γ Ek rm io (.Assign [.Tuple [.Name x px, .Name y py, .Name z pz] kt pt] (.Tuple [a, b, c] k2 pt2) pos) (tPar3 i j l tr) (mPar3 i j l fr) := ⟨ps_par3 hc hN hi hj hl hij hil hjl hx hy hz ha.pa hw hs, by
  intro σ H G C ρ E r hg hf hq
  rcases bnd_inv hf with ⟨ds, ρ1, e1, e2⟩ | ⟨x, ρ1, e1, e2⟩
  · refine ha.sn σ H G C ρ _ _ hg e1 fun vs H' G' o g' rel good => ?_
    obtain ⟨d, dr, v, vr, o1, o2, ed, ev, eo, r1, d', dr', v', vr', o3, o4, ed', ev', eo', r2, d2, dr2, v2, vr2, o5, o6, ed2, ev2, eo2, r3, z1, z2, z3⟩ := rel
    subst z1; subst z2; subst z3; subst ed2; subst ev2; subst eo2; subst ed'; subst ev'; subst eo'; subst ed; subst ev; subst eo
    cases e2
    refine ⟨v, v', v2, rfl, hq _ H' G' g' (((Fix.set hio).trans (Fix.set hjo)).trans (Fix.set hlo)) ?_⟩
    exact Good.put (o := o5) (Good.put (o := o3) (C := o5 ++ C) (Good.put (o := o1) (C := o3 ++ (o5 ++ C)) (good.re (by walk_at "fle")) r1 h1) r2 h2) r3 h3
  · subst e2
    exact ha.sn σ H G C ρ _ _ hg e1 fun c dx H' G' g' xr good => hq c dx σ H' G' g' (Fix.refl σ) xr good⟩
end
end Dl
/-! Dl, seventh part: what is walked; for, while, comprehensions. -/
namespace Dl
open PySem L2
local macro_rules | `(tactic| walk_at "fle") => `(tactic| (intro P; simp only [List.countP_append, List.countP_cons, List.countP_nil, List.append_nil, List.nil_append]; first | omega | (split <;> omega)))

/-- J walks the data ds -/
def ItR (K : PySem.W.Frag) : St → Hp → List D → It → Fg → Prop := fun _ G ds J o => o = [] ∧ ∀ (i : Nat) (H G' : Hp) (O : Fg), GLe G G' → Sat H G' O →
  (∀ d, ds[i]? = some d → J.go i H ∧ ∀ x H', J.yld i H x H' → ∃ G'', GLe G' G'' ∧ Sat H' G'' O ∧ Sh K G'' d x) ∧ (ds.length ≤ i → J.stop i H)
structure DI (X : Cx) (K : PySem.W.Frag) (Γ : List Md) (Ek : XK) (tg e : PySem.Expr) (wi : TI) (fi : Mr (List D)) : Prop where
  pi : PI X tg e wi
  sn : SndG K Γ Ek (ItR K) wi fi
theorem ItR.mono {K : PySem.W.Frag} : RMono (ItR K) := fun σ G G' ds J o g r => ⟨r.1, fun i H G2 O g2 => r.2 i H G2 O (g.trans g2)⟩

def iSeq (K : PySem.W.Frag) (tl : TE) : TI := fun σ H R => tl σ H fun x H1 => (∃ a, x = .ref a ∧ (∃ xs, SqL K H1 a xs) ∧ R (Itl K a) H1) ∨ (∃ a, x = .ref a ∧ (∃ xs, SqT K H1 a xs) ∧ R (Itt K a) H1) ∨ ∃ z, x = .str z ∧ R (Its z) H1
section
open PySem.Spec PyProof.Rows
theorem pi_seqA {X : Cx} {tg l : PySem.Expr} {tl : TE} (hl : PE X l tl) : PI X tg l (iSeq X.K tl) := by
  refine ⟨fun pins s σ H R I h => ?_⟩
  refine thn (hl.run pins s σ H _ I h) fun v s1 ⟨x, H1, I1, r1, q1⟩ => ?_
  rcases q1 with ⟨a, e, ⟨xs, hq⟩, q⟩ | ⟨a, e, ⟨xs, hq⟩, q⟩ | ⟨z, e, q⟩
  · subst e
    cases r1
    obtain ⟨its, rv, p, hz⟩ := I1.list hq
    refine wpAny_pyIter_list p.isList ?_
    refine ⟨s1.heap.objs.size, [s1.heap.objs.size], _, _, H1, rfl, I1.kept (t' := s1.toks) fun b o e => Heap.get?_push_of_some _ e, turn_list a _, ⟨_, Heap.get?_push_size _ rfl, rfl, rfl⟩, fun b hb => ?_, q⟩
    have e : b = s1.heap.objs.size := by simpa using hb
    subst e
    exact I1.fpOk (Nat.le_refl _) (I1.hok.fresh (Nat.le_refl _))
  · subst e
    cases r1
    obtain ⟨its, rv, p, hz⟩ := I1.tuple hq
    refine wpAny_pyIter_tuple (show s1.heap.IsTuple a its.toArray from p) ?_
    refine ⟨s1.heap.objs.size, [s1.heap.objs.size], _, _, H1, rfl, I1.kept (t' := s1.toks) fun b o e => Heap.get?_push_of_some _ e, turn_tuple a _, ⟨_, Heap.get?_push_size _ rfl, rfl, rfl⟩, fun b hb => ?_, q⟩
    have e : b = s1.heap.objs.size := by simpa using hb
    subst e
    exact I1.fpOk (Nat.le_refl _) (I1.hok.fresh (Nat.le_refl _))
  · subst e
    obtain ⟨t, rfl⟩ := r1
    cases ha : z.cps.all (· < 128)
    · exact wpAny_pyIter_wide ha (pi_one (tk := s1.toks) I1 _ (turn_str _ z t "str_iterator" (.inr rfl)) ⟨_, Heap.get?_push_size _ rfl, rfl, rfl⟩ q)
    · exact wpAny_pyIter_ascii ha (pi_one (tk := s1.toks) I1 _ (turn_str _ z t "str_ascii_iterator" (.inl rfl)) ⟨_, Heap.get?_push_size _ rfl, rfl, rfl⟩ q)
end
section
variable {K : PySem.W.Frag} {X : Cx} {Γ : List Md} {Ek : XK} {m mt rm c : Md} {io : List Nat} {e tg : PySem.Expr} {te : TE} {fe : Mr D} {pos p : Pos}
/-- the items of what is walked -/
def dItems : D → Option (List D)
  | .lst xs => some xs
  | .frl xs => some xs
  | .tup xs => some xs
  | .str z => some (z.cps.toList.map fun c => .str ⟨#[c]⟩)
  | _ => none
theorem itl_of {G : Hp} {a : Addr} {vs : List V} {ds : List D} {σ : St} (h : SqL K G a vs) (r : ShL K G ds vs) (inj : ∀ (H G' : Hp) (O : Fg) (ws : List V), GLe G G' → Sat H G' O → SqL K H a ws → ws = vs) : ItR K σ G ds (Itl K a) [] := by
  refine ⟨rfl, fun i H G' O g s => ⟨fun d e => ?_, fun hl => ?_⟩⟩
  · obtain ⟨v, ev, rv⟩ := r.get e
    have hs : SqL K H a vs := s.le.sqL (g.sqL h)
    refine ⟨⟨vs, v, hs, ev⟩, fun x H' ⟨e1, y⟩ => ?_⟩
    subst e1
    have := y vs hs
    rw [ev] at this; cases this
    exact ⟨G', GLe.refl G', s, Sh.mono g d rv⟩
  · exact ⟨vs, s.le.sqL (g.sqL h), by rw [r.len]; exact hl⟩
theorem itl_of' {G : Hp} {a : Addr} {vs : List V} {ds : List D} {σ : St} (h : SqL K G a vs) (r : ShL K G ds vs) : ItR K σ G ds (Itl K a) [] := by
  refine ⟨rfl, fun i H G' O g s => ⟨fun d e => ?_, fun hl => ?_⟩⟩
  · obtain ⟨v, ev, rv⟩ := r.get e
    have hs : SqL K H a vs := s.le.sqL (g.sqL h)
    refine ⟨⟨vs, v, hs, ev⟩, fun x H' ⟨e1, y⟩ => ?_⟩
    subst e1
    have := y vs hs
    rw [ev] at this; cases this
    exact ⟨G', GLe.refl G', s, Sh.mono g d rv⟩
  · exact ⟨vs, s.le.sqL (g.sqL h), by rw [r.len]; exact hl⟩
theorem itt_of {G : Hp} {a : Addr} {vs : List V} {ds : List D} {σ : St} (h : SqT K G a vs) (r : ShL K G ds vs) : ItR K σ G ds (Itt K a) [] := by
  refine ⟨rfl, fun i H G' O g s => ⟨fun d e => ?_, fun hl => ?_⟩⟩
  · obtain ⟨v, ev, rv⟩ := r.get e
    have hs : SqT K H a vs := s.le.sqT (g.sqT h)
    refine ⟨⟨vs, v, hs, ev⟩, fun x H' ⟨e1, y⟩ => ?_⟩
    subst e1
    have := y vs hs
    rw [ev] at this; cases this
    exact ⟨G', GLe.refl G', s, Sh.mono g d rv⟩
  · exact ⟨vs, s.le.sqT (g.sqT h), by rw [r.len]; exact hl⟩
theorem its_of {G : Hp} {z : Str} {σ : St} : ItR K σ G (z.cps.toList.map fun c => .str ⟨#[c]⟩) (Its z) [] := by
  refine ⟨rfl, fun i H G' O g s => ⟨fun d e => ?_, fun hl => ?_⟩⟩
  · rw [List.getElem?_map] at e
    obtain ⟨c, h1, h2⟩ := Option.map_eq_some_iff.mp e
    subst h2
    have hi : i < z.cps.size := by
      have := (List.getElem?_eq_some_iff.mp h1).1
      simpa using this
    refine ⟨hi, fun x H' ⟨e1, c', e2, e3⟩ => ?_⟩
    subst e1
    have e4 : z.cps[i]? = some c := by simpa using h1
    rw [e4] at e2; cases e2
    subst e3
    exact ⟨G', GLe.refl G', s, rfl⟩
  · have hl' : z.cps.size ≤ i := by simpa using hl
    exact hl'
theorem snd_iseq (h : Snd K Γ Ek .sh te fe) : SndG K Γ Ek (ItR K) (iSeq K te) (bnd fe fun d => lft (dItems d)) := by
  refine SndG.bind (Rel1 := RE K .sh) (t2 := fun x _ H1 R => (∃ a, x = .ref a ∧ (∃ xs, SqL K H1 a xs) ∧ R (Itl K a) H1) ∨ (∃ a, x = .ref a ∧ (∃ xs, SqT K H1 a xs) ∧ R (Itt K a) H1) ∨ ∃ z, x = .str z ∧ R (Its z) H1) h fun a b σ H G C o ρ Q r rel good hf hq => ?_
  obtain ⟨rfl, q⟩ := (R.sh_iff _).mp rel
  have le := good.sat.le
  cases a <;> first | (cases hf; done) | skip
  · cases hf
    exact .inr (.inr ⟨_, q, hq _ H G [] (GLe.refl G) its_of good⟩)
  · obtain ⟨a, vs, e1, e2, r⟩ := q
    cases hf
    exact .inl ⟨a, e1, ⟨vs, .inl (.inl (le _ _ e2))⟩, hq _ H G [] (GLe.refl G) (itl_of' (.inl (.inl e2)) r) good⟩
  · obtain ⟨a, vs, e1, e2, r⟩ := q
    cases hf
    exact .inl ⟨a, e1, ⟨vs, le.sqL e2⟩, hq _ H G [] (GLe.refl G) (itl_of' e2 r) good⟩
  · obtain ⟨a, vs, e1, e2, r⟩ := q
    cases hf
    exact .inr (.inl ⟨a, e1, ⟨vs, le.sqT e2⟩, hq _ H G [] (GLe.refl G) (itt_of e2 r) good⟩)
theorem di_seq (h : DE X K Γ Ek .sh e te fe) (hK : X.K = K := by rfl) : DI X K Γ Ek tg e (iSeq K te) (bnd fe fun d => lft (dItems d)) := by subst hK; exact ⟨pi_seqA h.pe, snd_iseq h.sn⟩

/-! ### ranges -/
def rgC (lo c : Int) (n : Nat) : List D := (List.range n).map fun i => .int (lo + (i : Nat) * c)
def ok62 (i : Int) : Bool := Nat.ble i.natAbs 4611686018427387903
theorem ok62_mp {i : Int} (h : ok62 i = true) : -(2 ^ 62) ≤ i ∧ i < 2 ^ 62 := by
  have := Nat.le_of_ble_eq_true h
  omega
theorem ok62_of {i : Int} (h : i.natAbs ≤ 4611686018427387903) : ok62 i = true := Nat.ble_eq_true_of_le h
def dRng : List D → Option (List D)
  | [.int j] => if ok62 j = true then some (rgC 0 1 j.toNat) else none
  | [.int i, .int j] => if (ok62 i && ok62 j) = true then some (rgC i 1 (j - i).toNat) else none
  | [.int i, .int j, .int c] => if (c != 0 && decide (c.natAbs < 1073741824) && Builtin.Range.small i j c) = true then some (rgC i c (Builtin.Range.rangeSize i j c).toNat) else none
  | _ => none
theorem rgC_get {lo c : Int} {n i : Nat} {d : D} (h : (rgC lo c n)[i]? = some d) : i < n ∧ d = .int (lo + (i : Nat) * c) := by
  unfold rgC at h
  rw [List.getElem?_map] at h
  obtain ⟨k, h1, h2⟩ := Option.map_eq_some_iff.mp h
  obtain ⟨h3, h4⟩ := List.getElem?_eq_some_iff.mp h1
  rw [List.length_range] at h3
  rw [List.getElem_range] at h4
  subst h4
  exact ⟨h3, h2.symm⟩
theorem rgC_len {lo c : Int} {n : Nat} : (rgC lo c n).length = n := by simp [rgC]
theorem itr_of {G : Hp} {lo : Int} {n : Nat} {σ : St} : ItR K σ G (rgC lo 1 n) (Itr lo n) [] := by
  refine ⟨rfl, fun i H G' O g s => ⟨fun d e => ?_, fun hl => ?_⟩⟩
  · obtain ⟨hi, e1⟩ := rgC_get e
    subst e1
    refine ⟨hi, fun x H' ⟨e1, e2⟩ => ?_⟩
    subst e1; subst e2
    exact ⟨G', GLe.refl G', s, by rw [Int.mul_one]; rfl⟩
  · rw [rgC_len] at hl; exact hl
theorem itc_of {G : Hp} {lo c : Int} {n : Nat} {σ : St} : ItR K σ G (rgC lo c n) (Itc lo c n) [] := by
  refine ⟨rfl, fun i H G' O g s => ⟨fun d e => ?_, fun hl => ?_⟩⟩
  · obtain ⟨hi, e1⟩ := rgC_get e
    subst e1
    refine ⟨hi, fun x H' ⟨e1, e2⟩ => ?_⟩
    subst e1; subst e2
    exact ⟨G', GLe.refl G', s, rfl⟩
  · rw [rgC_len] at hl; exact hl
variable {ks : List AK} {es : List PySem.Expr} {tr : TA} {fr : Mr (List D)} {a b c' : PySem.Expr}
def mRng (fr : Mr (List D)) : Mr (List D) := bnd fr fun ds => lft (dRng ds)
theorem shl1 {G : Hp} {i : Int} {vs : List V} (h : ShL K G [.int i] vs) : vs = [.int i] := by
  obtain ⟨v, r, e, q, t⟩ := h
  rw [e, show r = [] from t, show v = _ from q]
theorem shl2 {G : Hp} {i j : Int} {vs : List V} (h : ShL K G [.int i, .int j] vs) : vs = [.int i, .int j] := by
  obtain ⟨v, r, e, q, t⟩ := h
  rw [e, shl1 t, show v = _ from q]
theorem shl3 {G : Hp} {i j k : Int} {vs : List V} (h : ShL K G [.int i, .int j, .int k] vs) : vs = [.int i, .int j, .int k] := by
  obtain ⟨v, r, e, q, t⟩ := h
  rw [e, shl2 t, show v = _ from q]
theorem di_range1 (hm : X.mg "range" = none) (h : DA X K Γ Ek [.v .sh] [a] tr fr) (hg : Gl X "range" := by rfl) (hs : starEach [a] X.env = [(false, eval a X.env)] := by rfl) : DI X K Γ Ek tg (.Call (.Name "range" p) [a] [] pos) (iRng1 tr) (mRng fr) := ⟨pi_range1 hg hm h.pa hs, by
  refine SndG.bind (t2 := fun vs _ H1 R => ∃ j : Int, vs = [.int j] ∧ -(2 ^ 62) ≤ j ∧ j < 2 ^ 62 ∧ R (Itr 0 j.toNat) H1) h.sn fun ds vs σ H G C o ρ Q r rel good hf hq => ?_
  obtain ⟨z, q⟩ := (RL.sh_iff _).mp (RA.all (m := .sh) (by simp [isV]) rel)
  subst z
  have q0 := id q
  obtain ⟨v, vr, ev, q1, q2⟩ : ∃ v vr, vs = v :: vr ∧ True ∧ True := by
    obtain ⟨d, dr, v, vr, o1, o2, e1, e2, e3, r1, r2⟩ := rel
    exact ⟨v, vr, e2, trivial, trivial⟩
  cases e : dRng ds with
  | none => rw [e] at hf; cases hf
  | some L =>
    rw [e] at hf
    cases hf
    obtain ⟨d, dr, v', vr', o1, o2, e1, e2, e3, r1, r2, r3, r4⟩ := rel
    subst r2; subst e1
    cases d <;> first | (cases e; done) | skip
    rename_i j
    dsimp only [dRng] at e
    split at e
    · rename_i hj
      cases e
      obtain ⟨h1, h2⟩ := ok62_mp hj
      exact ⟨j, shl1 q, h1, h2, hq _ H G [] (GLe.refl G) itr_of good⟩
    · cases e⟩
theorem ra_sh {ks : List AK} {σ : St} {G : Hp} {ds : List D} {vs : List V} {o : Fg} (h : RA K Γ ks σ G ds vs o) (hk : ∀ k ∈ ks, isV .sh k) : o = [] ∧ ShL K G ds vs := (RL.sh_iff _).mp (RA.all hk h)
theorem di_range2 (hm : X.mg "range" = none) (h : DA X K Γ Ek [.v .sh, .v .sh] [a, b] tr fr) (hg : Gl X "range" := by rfl) (hs : starEach [a, b] X.env = [(false, eval a X.env), (false, eval b X.env)] := by rfl) (hs2 : starEach [b] X.env = [(false, eval b X.env)] := by rfl) :
    DI X K Γ Ek tg (.Call (.Name "range" p) [a, b] [] pos) (iRng2 tr) (mRng fr) := ⟨pi_range2 hg hm h.pa hs hs2, by
  refine SndG.bind (t2 := fun vs _ H1 R => ∃ i j : Int, vs = [.int i, .int j] ∧ (-(2 ^ 62) ≤ i ∧ i < 2 ^ 62 ∧ -(2 ^ 62) ≤ j ∧ j < 2 ^ 62) ∧ R (Itr i (j - i).toNat) H1) h.sn fun ds vs σ H G C o ρ Q r rel good hf hq => ?_
  obtain ⟨z, q⟩ := ra_sh rel (by simp [isV])
  subst z
  obtain ⟨d, dr, v', vr', o1, o2, e1, e2, e3, r1, d2, dr2, v2, vr2, o3, o4, e4, e5, e6, r2, r3, r4, r5⟩ := rel
  subst r3; subst e4; subst e1
  cases d <;> first | (cases hf; done) | skip
  cases d2 <;> first | (cases hf; done) | skip
  rename_i i j
  dsimp only [dRng] at hf
  split at hf
  · rename_i hj
    cases hf
    rw [Bool.and_eq_true] at hj
    obtain ⟨h1, h2⟩ := ok62_mp hj.1
    obtain ⟨h3, h4⟩ := ok62_mp hj.2
    exact ⟨i, j, shl2 q, ⟨h1, h2, h3, h4⟩, hq _ H G [] (GLe.refl G) itr_of good⟩
  · cases hf⟩
theorem rgSize_nonneg (i j k : Int) : 0 ≤ Builtin.Range.rangeSize i j k := by
  unfold Builtin.Range.rangeSize
  split
  · split
    · have := Int.ediv_nonneg (show 0 ≤ j - i - 1 by omega) (show 0 ≤ k by omega)
      omega
    · omega
  · split
    · have := Int.ediv_nonneg (show 0 ≤ i - j - 1 by omega) (show 0 ≤ -k by omega)
      omega
    · omega
theorem di_range3 (hm : X.mg "range" = none) (h : DA X K Γ Ek [.v .sh, .v .sh, .v .sh] [a, b, c'] tr fr) (hg : Gl X "range" := by rfl) (hs : starEach [a, b, c'] X.env = (false, eval a X.env) :: starEach [b, c'] X.env := by rfl) (hpl : (backTo pos (starEach [b, c'] X.env)).any (·.1) = false := by rfl) :
    DI X K Γ Ek tg (.Call (.Name "range" p) [a, b, c'] [] pos) (iRng3 tr) (mRng fr) := ⟨pi_range3 hg hm h.pa hs hpl, by
  refine SndG.bind (t2 := fun vs _ H1 R => ∃ (i j c : Int) (n : Nat), vs = [.int i, .int j, .int c] ∧ RgC i j c n ∧ R (Itc i c n) H1) h.sn fun ds vs σ H G C o ρ Q r rel good hf hq => ?_
  obtain ⟨z, q⟩ := ra_sh rel (by simp [isV])
  subst z
  obtain ⟨d, dr, v', vr', o1, o2, e1, e2, e3, r1, d2, dr2, v2, vr2, o3, o4, e4, e5, e6, r2, d3, dr3, v3, vr3, o5, o6, e7, e8, e9, r3, r4, r5, r6⟩ := rel
  subst r4; subst e7; subst e4; subst e1
  cases d <;> first | (cases hf; done) | skip
  cases d2 <;> first | (cases hf; done) | skip
  cases d3 <;> first | (cases hf; done) | skip
  rename_i i j k
  dsimp only [dRng] at hf
  split at hf
  · rename_i hj
    cases hf
    rw [Bool.and_eq_true, Bool.and_eq_true, decide_eq_true_eq] at hj
    refine ⟨i, j, k, _, shl3 q, ⟨by simpa using hj.1.1, hj.1.2, hj.2, ?_⟩, hq _ H G [] (GLe.refl G) itc_of good⟩
    exact (Int.toNat_of_nonneg (rgSize_nonneg i j k)).symm
  · cases hf⟩

/-! ### zip, enumerate -/
def zipD : List D → List D → List D
  | a :: as, b :: bs => .tup [a, b] :: zipD as bs
  | _, _ => []
theorem zipD_get : ∀ {xs ys : List D} {i : Nat} {d : D}, (zipD xs ys)[i]? = some d → ∃ a b, xs[i]? = some a ∧ ys[i]? = some b ∧ d = .tup [a, b]
  | [], _, _, _, h => by simp [zipD] at h
  | _ :: _, [], _, _, h => by simp [zipD] at h
  | a :: as, b :: bs, 0, d, h => by
    simp [zipD] at h
    exact ⟨a, b, rfl, rfl, h.symm⟩
  | a :: as, b :: bs, i + 1, d, h => by
    have h' : (zipD as bs)[i]? = some d := by simpa [zipD] using h
    obtain ⟨x, y, h1, h2, h3⟩ := zipD_get h'
    exact ⟨x, y, by simpa using h1, by simpa using h2, h3⟩
theorem zipD_len : ∀ xs ys : List D, (zipD xs ys).length = min xs.length ys.length
  | [], ys => by simp [zipD]
  | _ :: _, [] => by simp [zipD]
  | a :: as, b :: bs => by simp only [zipD, List.length_cons, zipD_len as bs]; omega
def dSeqL : D → Option (List D)
  | .lst xs => some xs
  | .frl xs => some xs
  | _ => none
theorem dSeqL_of {G H : Hp} {d : D} {v : V} {xs : List D} (h : dSeqL d = some xs) (r : Sh K G d v) : ∃ a vs, v = .ref a ∧ SqL K G a vs ∧ ShL K G xs vs := by
  cases d <;> first | (cases h; done) | skip
  · cases h; obtain ⟨a, vs, e1, e2, r⟩ := r; exact ⟨a, vs, e1, .inl (.inl e2), r⟩
  · cases h; obtain ⟨a, vs, e1, e2, r⟩ := r; exact ⟨a, vs, e1, e2, r⟩
def dZip : List D → Option (List D)
  | [a, b] => (dSeqL a).bind fun xs => (dSeqL b).map fun ys => zipD xs ys
  | _ => none
theorem itz_of {G : Hp} {a b : Addr} {vs us : List V} {xs ys : List D} {σ : St} (h1 : SqL K G a vs) (h2 : SqL K G b us) (r1 : ShL K G xs vs) (r2 : ShL K G ys us) : ItR K σ G (zipD xs ys) (Itz K a b) [] := by
  refine ⟨rfl, fun i H G' O g s => ⟨fun d e => ?_, fun hl => ?_⟩⟩
  · obtain ⟨x, y, e1, e2, e3⟩ := zipD_get e
    obtain ⟨v, ev, rv⟩ := r1.get e1
    obtain ⟨u, eu, ru⟩ := r2.get e2
    have hs : SqL K H a vs := s.le.sqL (g.sqL h1)
    have hs2 : SqL K H b us := s.le.sqL (g.sqL h2)
    refine ⟨⟨vs, us, v, u, hs, hs2, ev, eu⟩, fun w H' ⟨T, v', u', ew, hT, eH, y1, y2⟩ => ?_⟩
    have z1 := y1 vs hs
    have z2 := y2 us hs2
    rw [ev] at z1; rw [eu] at z2
    cases z1; cases z2
    subst eH; subst ew; subst e3
    obtain ⟨s', g'⟩ := s.newG (u := .tup [v, u]) hT
    exact ⟨_, g', s', T, [v, u], rfl, .inl (.inl upd_same), v, [u], rfl, Sh.mono (g.trans g') _ rv, u, [], rfl, Sh.mono (g.trans g') _ ru, rfl⟩
  · rw [zipD_len] at hl
    refine ⟨vs, us, s.le.sqL (g.sqL h1), s.le.sqL (g.sqL h2), ?_⟩
    rw [r1.len, r2.len]
    omega
theorem di_zip {elts : List PySem.Expr} {kk : Nat} {tpos : Pos} (hm : X.mg "zip" = none) (h : DA X K Γ Ek [.v .sh, .v .sh] [a, b] tr fr) (hg : Gl X "zip" := by rfl) (hs : starEach [a, b] X.env = (false, eval a X.env) :: starEach [b] X.env := by rfl) (hpl : (backTo pos (starEach [b] X.env)).any (·.1) = false := by rfl) (hK : X.K = K := by rfl) :
    DI X K Γ Ek (.Tuple elts kk tpos) (.Call (.Name "zip" p) [a, b] [] pos) (iZip K tr) (bnd fr fun ds => lft (dZip ds)) := by subst hK; exact ⟨pi_zip hg hm h.pa hs hpl, by
  refine SndG.bind (t2 := fun vs _ H1 R => ∃ a b xs ys, vs = [.ref a, .ref b] ∧ SqL X.K H1 a xs ∧ SqL X.K H1 b ys ∧ R (Itz X.K a b) H1) h.sn fun ds vs σ H G C o ρ Q r rel good hf hq => ?_
  obtain ⟨z, q⟩ := ra_sh rel (by simp [isV])
  subst z
  obtain ⟨d, dr, v', vr', o1, o2, e1, e2, e3, r1, d2, dr2, v2, vr2, o3, o4, e4, e5, e6, r2, r3, r4, r5⟩ := rel
  subst r3; subst e4; subst e1
  cases e7 : dSeqL d with
  | none => dsimp only [dZip] at hf; rw [e7] at hf; cases hf
  | some xs =>
    cases e8 : dSeqL d2 with
    | none => dsimp only [dZip] at hf; rw [e7, e8] at hf; cases hf
    | some ys =>
      dsimp only [dZip] at hf; rw [e7, e8] at hf; cases hf
      obtain ⟨v, w, ev, q1, w2, w3, ew, q2, q3⟩ := q
      obtain ⟨a, us, ea, sa, ra⟩ := dSeqL_of (H := H) e7 q1
      obtain ⟨b, ws, eb, sb, rb⟩ := dSeqL_of (H := H) e8 q2
      subst ea; subst eb
      rw [show w3 = [] from q3] at ew
      subst ew
      have le := good.sat.le
      exact ⟨a, b, us, ws, ev, le.sqL sa, le.sqL sb, hq _ H G [] (GLe.refl G) (itz_of sa sb ra rb) good⟩⟩

/-! ### for -/
def forM (gt : D → De → Option De) (body : Mr Fl) : List D → De → Option (Rs Fl)
  | [], ρ => some (.ok .nx ρ)
  | d :: ds, ρ => match gt d ρ with
    | none => none
    | some ρ1 => match body ρ1 with
      | some (.ok .nx ρ2) => forM gt body ds ρ2
      | some (.ok .ct ρ2) => forM gt body ds ρ2
      | some (.ok .bk ρ2) => some (.ok .nx ρ2)
      | r => r
def mFor (fi : Mr (List D)) (gt : D → De → Option De) (body : Mr Fl) : Mr Fl := bnd fi fun ds ρ => forM gt body ds ρ
variable {f : Mr Fl} {t : TS} {body : List Stmt}
theorem snd_for {wi : TI} {g : TG} {fi : Mr (List D)} {gt : D → De → Option De} (hi : SndG K Γ Ek (ItR K) wi fi) (hg' : SndT K Γ io .sh g gt) (hb : SndS K Γ Ek rm io t f) : SndS K Γ Ek rm io (tFor wi g t) (mFor fi gt f) := by
  intro σ H G C ρ E r hg hf hq
  rcases bnd_inv hf with ⟨ds, ρ1, e1, e2⟩ | ⟨x, ρ1, e1, e2⟩
  · refine hi σ H G C ρ _ _ hg e1 fun J H1 G1 o g1 rel good => ?_
    obtain ⟨rfl, walk⟩ := rel
    refine ⟨fun i m σ' H' => m = ds.length - i ∧ i ≤ ds.length ∧ ∃ G' ρ', GLe G1 G' ∧ Fix io σ σ' ∧ Good K Γ G' H' C σ' ρ' ∧ forM gt f (ds.drop i) ρ' = some r, ⟨ds.length, by simp, Nat.zero_le _, G1, ρ1, GLe.refl G1, Fix.refl σ, good, e2⟩, ?_⟩
    rintro i m σ' H' ⟨rfl, hil, G', ρ', g', fx, good', ef⟩
    obtain ⟨os, sl, s⟩ := good'.ex
    obtain ⟨w1, w2⟩ := walk i H' G' _ g' s
    by_cases hlt : i < ds.length
    · have ei : ds[i]? = some ds[i] := by simp [hlt]
      have ed : ds.drop i = ds[i] :: ds.drop (i + 1) := List.drop_eq_getElem_cons hlt
      rw [ed] at ef
      obtain ⟨hgo, hy⟩ := w1 _ ei
      refine .inr ⟨hgo, fun σ2 H2 => ∃ G2 ρ2, GLe G1 G2 ∧ Fix io σ σ2 ∧ Good K Γ G2 H2 C σ2 ρ2 ∧ forM gt f (ds.drop (i + 1)) ρ2 = some r, fun σ2 H2 ⟨G2, ρ2, h1, h2, h3, h4⟩ => ⟨ds.length - (i + 1), by omega, rfl, hlt, G2, ρ2, h1, h2, h3, h4⟩, fun x H2 y => ?_⟩
      obtain ⟨G2, g2, s2, rx⟩ := hy x H2 y
      unfold forM at ef
      cases e3 : gt ds[i] ρ' with
      | none => rw [e3] at ef; cases ef
      | some ρ2 =>
        rw [e3] at ef
        dsimp only at ef
        refine hg' G2 H2 C [] σ' ρ' ρ2 ds[i] x _ (R.of_sh rx) ⟨os, sl.mono g2, s2⟩ e3 fun σ3 H3 G3 g3 fx3 good3 => ?_
        cases e4 : f ρ2 with
        | none => rw [e4] at ef; cases ef
        | some r4 =>
          rw [e4] at ef
          refine hb σ3 H3 G3 C ρ2 _ r4 good3 e4 ?_
          have g13 : GLe G1 G3 := g'.trans (g2.trans g3)
          have fx13 : Fix io σ σ3 := fx.trans fx3
          cases r4 with
          | ok fl ρ4 =>
            cases fl with
            | nx => exact fun σ5 H5 G5 g5 fx5 good5 => ⟨G5, ρ4, g13.trans g5, fx13.trans fx5, good5, ef⟩
            | ct => exact fun σ5 H5 G5 g5 fx5 good5 => ⟨G5, ρ4, g13.trans g5, fx13.trans fx5, good5, ef⟩
            | bk =>
              cases ef
              exact fun σ5 H5 G5 g5 fx5 good5 => hq σ5 H5 G5 (g1.trans (g13.trans g5)) (fx13.trans fx5) good5
            | rt d =>
              cases ef
              exact fun v σ5 H5 G5 o5 g5 fx5 r5 good5 => hq v σ5 H5 G5 o5 (g1.trans (g13.trans g5)) (fx13.trans fx5) r5 good5
          | ex x4 ρ4 =>
            cases ef
            exact fun c dx σ5 H5 G5 g5 fx5 xr good5 => hq c dx σ5 H5 G5 (g1.trans (g13.trans g5)) (fx13.trans fx5) xr good5
    · have e : i = ds.length := by omega
      subst e
      rw [List.drop_length] at ef
      cases ef
      exact .inl ⟨w2 (Nat.le_refl _), hq σ' H' G' (g1.trans g') fx good'⟩
  · subst e2
    exact hi σ H G C ρ _ _ hg e1 fun c dx H' G' g' xr good => hq c dx σ H' G' g' (Fix.refl σ) xr good
theorem ds_for {wi : TI} {g : TG} {fi : Mr (List D)} {gt : D → De → Option De} {iter : PySem.Expr} (hp : PassesOwn (model X.prog X.w) X.A X.env X.xe) (hc : X.calm = true) (hi : DI X K Γ Ek tg iter wi fi) (hg : DG X K Γ io .sh tg g gt) (hb : DSs X K Γ Ek rm io body t f)
    (hs : ∀ x, foldedSetIterable iter X.env x = pure x := by intro _; rfl) : DS X K Γ Ek rm io (.For tg iter body [] pos) (tFor wi g t) (mFor fi gt f) := ⟨ps_for hp hc hi.pi hg.pg hb.ps hs, snd_for hi.sn hg.sn hb.sn⟩

/-! ### while -/
def whileM (g : Mr Bool) (f : Mr Fl) : Nat → De → Option (Rs Fl)
  | 0, _ => none
  | n + 1, ρ => match g ρ with
    | some (.ok true ρ1) => (match f ρ1 with
      | some (.ok .nx ρ2) => whileM g f n ρ2
      | some (.ok .ct ρ2) => whileM g f n ρ2
      | some (.ok .bk ρ2) => some (.ok .nx ρ2)
      | r => r)
    | some (.ok false ρ1) => some (.ok .nx ρ1)
    | some (.ex x ρ1) => some (.ex x ρ1)
    | none => none
theorem snd_while {tA : TT} {gA : Mr Bool} (n : Nat) (h : SndG K Γ Ek RB tA gA) (hb : SndS K Γ Ek rm io t f) : SndS K Γ Ek rm io (tWhile tA t) (whileM gA f n) := by
  intro σ H G C ρ E r hg hf hq
  refine ⟨fun m σ' H' => ∃ G' ρ', GLe G G' ∧ Fix io σ σ' ∧ Good K Γ G' H' C σ' ρ' ∧ whileM gA f m ρ' = some r, ⟨n, G, ρ, GLe.refl G, Fix.refl σ, hg, hf⟩, ?_⟩
  rintro m σ' H' ⟨G', ρ', g', fx, good', ef⟩
  cases m with
  | zero => cases ef
  | succ m =>
    unfold whileM at ef
    cases e1 : gA ρ' with
    | none => rw [e1] at ef; cases ef
    | some r1 =>
      rw [e1] at ef
      refine h σ' H' G' C ρ' _ r1 good' e1 ?_
      cases r1 with
      | ex x ρ1 =>
        cases ef
        exact fun c dx H2 G2 g2 xr good2 => hq c dx σ' H2 G2 (g'.trans g2) fx xr good2
      | ok k ρ1 =>
        intro b H2 G2 o g2 rel good2
        obtain ⟨rfl, rfl⟩ := rel
        cases k with
        | false =>
          cases ef
          rw [if_neg Bool.false_ne_true]
          exact hq σ' H2 G2 (g'.trans g2) fx good2
        | true =>
          rw [if_pos rfl]
          refine ⟨fun σ3 H3 => ∃ G3 ρ3, GLe G G3 ∧ Fix io σ σ3 ∧ Good K Γ G3 H3 C σ3 ρ3 ∧ whileM gA f m ρ3 = some r, fun σ3 H3 ⟨G3, ρ3, h1, h2, h3, h4⟩ => ⟨m, Nat.lt_succ_self m, G3, ρ3, h1, h2, h3, h4⟩, ?_⟩
          have ef : (match f ρ1 with
            | some (.ok .nx ρ2) => whileM gA f m ρ2
            | some (.ok .ct ρ2) => whileM gA f m ρ2
            | some (.ok .bk ρ2) => some (.ok .nx ρ2)
            | r => r) = some r := ef
          cases e4 : f ρ1 with
          | none => rw [e4] at ef; cases ef
          | some r4 =>
            rw [e4] at ef
            refine hb σ' H2 G2 C ρ1 _ r4 good2 e4 ?_
            have g12 : GLe G G2 := g'.trans g2
            cases r4 with
            | ok fl ρ4 =>
              cases fl with
              | nx => exact fun σ5 H5 G5 g5 fx5 good5 => ⟨G5, ρ4, g12.trans g5, fx.trans fx5, good5, ef⟩
              | ct => exact fun σ5 H5 G5 g5 fx5 good5 => ⟨G5, ρ4, g12.trans g5, fx.trans fx5, good5, ef⟩
              | bk =>
                cases ef
                exact fun σ5 H5 G5 g5 fx5 good5 => hq σ5 H5 G5 (g12.trans g5) (fx.trans fx5) good5
              | rt d =>
                cases ef
                exact fun v σ5 H5 G5 o5 g5 fx5 r5 good5 => hq v σ5 H5 G5 o5 (g12.trans g5) (fx.trans fx5) r5 good5
            | ex x4 ρ4 =>
              cases ef
              exact fun c dx σ5 H5 G5 g5 fx5 xr good5 => hq c dx σ5 H5 G5 (g12.trans g5) (fx.trans fx5) xr good5
theorem ds_while {tA : TT} {gA : Mr Bool} {cnd : PySem.Expr} (n : Nat) (hp : PassesOwn (model X.prog X.w) X.A X.env X.xe) (h : DT X K Γ Ek cnd tA gA) (hb : DSs X K Γ Ek rm io body t f) : DS X K Γ Ek rm io (.While cnd body [] pos) (tWhile tA t) (whileM gA f n) := ⟨ps_while hp h.pt hb.ps, snd_while n h.sn hb.sn⟩
end
end Dl
/-! Dl, eighth part: comprehensions. -/
namespace Dl
open PySem L2
local macro_rules | `(tactic| walk_at "fle") => `(tactic| (intro P; simp only [List.countP_append, List.countP_cons, List.countP_nil, List.append_nil, List.nil_append]; first | omega | (split <;> omega)))

def wipeD (ρ : De) : List Nat → De
  | [] => ρ
  | v :: vs => (wipeD ρ vs).set v none
theorem wipe_get {σ : St} {i : Nat} : ∀ {vs : List Nat}, i ∉ vs → (wipe σ vs)[i]? = σ[i]?
  | [], _ => rfl
  | v :: vs, h => by
    have h1 : v ≠ i := fun e => h (e ▸ List.mem_cons_self)
    have h2 : i ∉ vs := fun e => h (List.mem_cons_of_mem _ e)
    unfold wipe
    rw [List.getElem?_set_ne h1, wipe_get h2]
theorem wipeD_some {ρ : De} {i : Nat} {d : D} : ∀ {vs : List Nat}, (wipeD ρ vs)[i]? = some (some d) → ρ[i]? = some (some d) ∧ i ∉ vs
  | [], h => ⟨h, by simp⟩
  | v :: vs, h => by
    unfold wipeD at h
    by_cases hi : v = i
    · subst hi
      by_cases hv : v < (wipeD ρ vs).length
      · rw [List.getElem?_set_self hv] at h; cases h
      · rw [List.getElem?_eq_none (by simpa using hv)] at h; cases h
    · rw [List.getElem?_set_ne hi] at h
      obtain ⟨h1, h2⟩ := wipeD_some h
      exact ⟨h1, by simp only [List.mem_cons, not_or]; exact ⟨fun e => hi e.symm, h2⟩⟩
theorem wipeD_length (ρ : De) : ∀ vs : List Nat, (wipeD ρ vs).length = ρ.length
  | [] => rfl
  | v :: vs => by unfold wipeD; rw [List.length_set, wipeD_length ρ vs]
section
variable {K : PySem.W.Frag} {X : Cx} {Γ : List Md} {Ek : XK} {G G' H H' : Hp} {C : Fg} {σ σ2 : St} {ρ : De} {vs : List Nat}
/-- the slots vs forgotten, whatever they hold -/
theorem Good.wipes (h : Good K Γ G H C σ2 ρ) (hl : σ.length = σ2.length) (e : ∀ i, i ∉ vs → σ2[i]? = σ[i]?) : Good K Γ G H C σ (wipeD ρ vs) := by
  obtain ⟨os, a, b⟩ := h.ex
  refine ⟨os, ⟨by rw [wipeD_length, hl]; exact a.ls, by rw [hl]; exact a.lo, by rw [hl]; exact a.lg, fun i d ei => ?_⟩, b⟩
  obtain ⟨h1, h2⟩ := wipeD_some ei
  obtain ⟨v, m, o, e1, e2, e3, r⟩ := a.at_ i d h1
  exact ⟨v, m, o, by rw [← e i h2]; exact e1, e2, e3, r⟩
theorem wipe_eq {io' : List Nat} (hl : σ2.length = σ.length) (hio : ∀ i, i < σ.length → i ∉ vs → i ∈ io') (fx : Fix io' (wipe σ vs) σ2) : wipe σ2 vs = wipe σ vs := by
  apply List.ext_getElem?
  intro i
  by_cases hv : i ∈ vs
  · by_cases hi : i < σ.length
    · have z : ∀ (τ : St) (ws : List Nat), i ∈ ws → i < τ.length → (wipe τ ws)[i]? = some none := by
        intro τ ws
        induction ws with
        | nil => intro h; cases h
        | cons w ws ih =>
          intro h hi
          unfold wipe
          by_cases hw : w = i
          · subst hw
            rw [List.getElem?_set_self (by rw [wipe_length]; exact hi)]
          · rw [List.getElem?_set_ne hw]
            exact ih ((List.mem_cons.mp h).elim (fun e => absurd e.symm hw) id) hi
      rw [z σ2 vs hv (by rw [hl]; exact hi), z σ vs hv hi]
    · rw [List.getElem?_eq_none (by rw [wipe_length]; omega), List.getElem?_eq_none (by rw [wipe_length]; omega)]
  · rw [wipe_get hv]
    by_cases hi : i < σ.length
    · exact fx i (hio i hi hv)
    · rw [List.getElem?_eq_none (by omega), List.getElem?_eq_none (by rw [wipe_length]; omega)]
theorem get_of_wipe_eq {i : Nat} (e : wipe σ2 vs = wipe σ vs) (h : i ∉ vs) : σ2[i]? = σ[i]? := by
  rw [← wipe_get (σ := σ2) h, e, wipe_get h]
theorem len_of_wipe_eq (e : wipe σ2 vs = wipe σ vs) : σ2.length = σ.length := by
  rw [← wipe_length σ2 vs, e, wipe_length]

/-- the loop of a comprehension -/
def lcM (vs : List Nat) (gt : D → De → Option De) (ft : Mr Bool) (fe : Mr D) : List D → List D → De → Option (List D × De)
  | [], acc, ρ => some (acc, ρ)
  | d :: ds, acc, ρ => match gt d ρ with
    | none => none
    | some ρ1 => match ft ρ1 with
      | some (.ok true ρ2) => (match fe ρ2 with
        | some (.ok y ρ3) => if acc.length < lim then lcM vs gt ft fe ds (acc ++ [y]) (wipeD ρ3 vs) else none
        | _ => none)
      | some (.ok false ρ2) => lcM vs gt ft fe ds acc (wipeD ρ2 vs)
      | _ => none
def mLc (fi : Mr (List D)) (vs : List Nat) (gt : D → De → Option De) (ft : Mr Bool) (fe : Mr D) : Mr D := bnd fi fun ds ρ => match lcM vs gt ft fe ds [] (wipeD ρ vs) with
  | none => none
  | some (ys, ρ') => some (.ok (.lst ys) (wipeD ρ' vs))
abbrev Ek0 : XK := fun _ _ _ => False
theorem snd_lc {c : Md} {wi : TI} {fi : Mr (List D)} {g : TG} {gt : D → De → Option De} {tt : TT} {ft : Mr Bool} {te : TE} {fe : Mr D} {io' : List Nat} (hi : SndG K Γ Ek (ItR K) wi fi) (hg' : SndT K Γ io' .sh g gt) (ht : SndG K Γ Ek0 RB tt ft) (he : Snd K Γ Ek0 c te fe)
    (hio : ∀ i, i < Γ.length → i ∉ vs → i ∈ io') : Snd K Γ Ek (.own c) (tLc wi g tt te vs) (mLc fi vs gt ft fe) := by
  intro σ H G C ρ Q r hg hf hq
  rcases bnd_inv hf with ⟨ds, ρ1, e1, e2⟩ | ⟨x, ρ1, e1, e2⟩
  · refine hi σ H G C ρ _ _ hg e1 fun J H1 G1 o g1 rel good => ?_
    obtain ⟨rfl, walk⟩ := rel
    intro Dn hD
    cases e3 : lcM vs gt ft fe ds [] (wipeD ρ1 vs) with
    | none => rw [e3] at e2; cases e2
    | some yr =>
      obtain ⟨ys, ρ2⟩ := yr
      rw [e3] at e2
      cases e2
      have lσ : Γ.length = σ.length := hg.lenΓ
      refine ⟨fun i m H' => m = ds.length - i ∧ i ≤ ds.length ∧ ∃ G' ρ' acc accv oa, GLe G1 G' ∧ RL K G' acc c accv oa ∧ Good K Γ G' H' ((Dn, .lst accv) :: (oa ++ C)) (wipe σ vs) ρ' ∧ lcM vs gt ft fe (ds.drop i) acc ρ' = some (ys, ρ2),
        ⟨ds.length, by simp, Nat.zero_le _, G1, wipeD ρ1 vs, [], [], [], GLe.refl G1, ⟨rfl, rfl⟩, ?_, e3⟩, ?_⟩
      · have good1 : Good K Γ G1 H1 C (wipe σ vs) (wipeD ρ1 vs) := good.wipes (by rw [wipe_length]) fun i hi => (wipe_get hi).symm
        exact good1.step (GLe.refl G1) fun O s => (s.newO (u := .lst []) hD).re (by walk_at "fle")
      rintro i m H' ⟨rfl, hil, G', ρ', acc, accv, oa, g', racc, good', ef⟩
      obtain ⟨os, sl, s⟩ := good'.ex
      obtain ⟨w1, w2⟩ := walk i H' G' _ g' s
      by_cases hlt : i < ds.length
      · have ei : ds[i]? = some ds[i] := by simp [hlt]
        have ed : ds.drop i = ds[i] :: ds.drop (i + 1) := List.drop_eq_getElem_cons hlt
        rw [ed] at ef
        obtain ⟨hgo, hy⟩ := w1 _ ei
        refine .inr ⟨hgo, fun H2 => ∃ G2 ρ2' acc2 accv2 oa2, GLe G1 G2 ∧ RL K G2 acc2 c accv2 oa2 ∧ Good K Γ G2 H2 ((Dn, .lst accv2) :: (oa2 ++ C)) (wipe σ vs) ρ2' ∧ lcM vs gt ft fe (ds.drop (i + 1)) acc2 ρ2' = some (ys, ρ2),
          fun H2 z => ⟨ds.length - (i + 1), by omega, rfl, hlt, z⟩, fun x H2 y => ?_⟩
        obtain ⟨G2, g2, s2, rx⟩ := hy x H2 y
        unfold lcM at ef
        cases e4 : gt ds[i] ρ' with
        | none => rw [e4] at ef; cases ef
        | some ρ3 =>
          rw [e4] at ef
          dsimp only at ef
          refine hg' G2 H2 _ [] (wipe σ vs) ρ' ρ3 ds[i] x _ (R.of_sh rx) ⟨os, sl.mono g2, s2⟩ e4 fun σ3 H3 G3 g3 fx3 good3 => ?_
          have hl3 : σ3.length = σ.length := by rw [← good3.lenΓ, lσ]
          have ew : wipe σ3 vs = wipe σ vs := wipe_eq hl3 (fun i hi hv => hio i (by rw [lσ]; exact hi) hv) fx3
          refine ⟨ew, ?_⟩
          cases e5 : ft ρ3 with
          | none => rw [e5] at ef; cases ef
          | some r5 =>
            rw [e5] at ef
            refine ht σ3 H3 G3 _ ρ3 _ r5 good3 e5 ?_
            cases r5 with
            | ex x5 ρ5 => cases ef
            | ok k ρ5 =>
              intro b H5 G5 o5 g5 rel5 good5
              obtain ⟨rfl, rfl⟩ := rel5
              have g15 : GLe G' G5 := g2.trans (g3.trans g5)
              cases k with
              | false =>
                rw [if_neg Bool.false_ne_true]
                exact ⟨G5, wipeD ρ5 vs, acc, accv, oa, g'.trans g15, RL.mono g15 _ racc, good5.wipes (by rw [wipe_length, hl3]) fun j hj => by rw [wipe_get hj]; exact get_of_wipe_eq ew hj, ef⟩
              | true =>
                rw [if_pos rfl]
                have ef : (match fe ρ5 with
                  | some (.ok y ρ3) => if acc.length < lim then lcM vs gt ft fe (ds.drop (i + 1)) (acc ++ [y]) (wipeD ρ3 vs) else none
                  | _ => none) = some (ys, ρ2) := ef
                cases e6 : fe ρ5 with
                | none => rw [e6] at ef; cases ef
                | some r6 =>
                  rw [e6] at ef
                  refine he σ3 H5 G5 _ ρ5 _ r6 good5 e6 ?_
                  cases r6 with
                  | ex x6 ρ6 => cases ef
                  | ok yd ρ6 =>
                    intro yv H6 G6 oy g6 ry good6
                    dsimp only at ef
                    split at ef
                    · rename_i hlim
                      refine ⟨accv, ?_, by rw [(RL.len racc), ← lim_eq]; exact hlim, ?_⟩
                      · have s6 := good6.sat
                        exact (s6.re (O' := (Dn, .lst accv) :: (oy ++ (oa ++ C))) (by walk_at "fle")).own
                      · have g16 : GLe G' G6 := g15.trans g6
                        refine ⟨G6, wipeD ρ6 vs, acc ++ [yd], accv ++ [yv], oa ++ (oy ++ []), g'.trans g16, RL.append (RL.mono g16 _ racc) ⟨yv, [], oy, [], rfl, rfl, ry, rfl, rfl⟩, ?_, ef⟩
                        have good7 : Good K Γ G6 H6 (oy ++ (Dn, .lst accv) :: (oa ++ C)) (wipe σ vs) (wipeD ρ6 vs) := good6.wipes (by rw [wipe_length, hl3]) fun j hj => by rw [wipe_get hj]; exact get_of_wipe_eq ew hj
                        refine good7.step (GLe.refl G6) fun O s7 => ?_
                        have s8 : Sat H6 G6 ((Dn, .lst accv) :: (O ++ (oy ++ (oa ++ C)))) := s7.re (by walk_at "fle")
                        exact (s8.write (u' := .lst (accv ++ [yv]))).re (by walk_at "fle")
                    · cases ef
      · have e : i = ds.length := by omega
        subst e
        rw [List.drop_length] at ef
        cases ef
        refine .inl ⟨w2 (Nat.le_refl _), hq (.ref Dn) H' G' ((Dn, .lst accv) :: oa) (g1.trans g') ⟨Dn, accv, oa, rfl, rfl, racc⟩ ?_⟩
        exact good'.wipes (by rw [wipe_length]) fun j hj => wipe_get hj
  · subst e2
    exact hi σ H G C ρ _ _ hg e1 fun c dx H' G' g' xr good => hq c dx H' G' g' xr good
end
structure DTs (X : Cx) (K : PySem.W.Frag) (Γ : List Md) (Ek : XK) (es : List PySem.Expr) (t : TT) (f : Mr Bool) : Prop where
  pt : PTs X es t
  sn : SndG K Γ Ek RB t f
section
variable {X : Cx} {K : PySem.W.Frag} {Γ : List Md} {Ek : XK} {c rm : Md} {io : List Nat} {e tg elt iter : PySem.Expr} {te : TE} {fe : Mr D} {tt : TT} {ft : Mr Bool} {pos p : Pos} {ifs : List PySem.Expr} {scope : Scope} {own : List (Str × Nat)} {wi : TI} {fi : Mr (List D)} {g : TG} {gt : D → De → Option De} {io' : List Nat}
theorem dts_nil : DTs X K Γ Ek [] tYes (ret true) := ⟨pts_nil, fun σ H G C ρ Q r hg hf hq => by cases hf; exact hq true H G [] (GLe.refl G) ⟨rfl, rfl⟩ hg⟩
theorem dts_one (h : DT X K Γ Ek e tt ft) : DTs X K Γ Ek [e] tt ft := ⟨pts_one h.pt, h.sn⟩
theorem de_lc (own : List (Str × Nat)) (hc : X.calm = true) (hN : X.N.Nodup) (hi : DI X K Γ Ek tg iter wi fi) (ok : BlkOk X.N X.env.scope scope own)
    (hg : ∀ (s : Shared) (H : Hp) (C : Addr) (cl : List (Str × Addr)) (fp : List Addr), DG (X.blk s H scope (compEnvC scope cl C X.env) fp) K Γ io' .sh tg g gt)
    (ht : ∀ (s : Shared) (H : Hp) (C : Addr) (cl : List (Str × Addr)) (fp : List Addr), DTs (X.blk s H scope (compEnvC scope cl C X.env) fp) K Γ Ek0 ifs tt ft)
    (he : ∀ (s : Shared) (H : Hp) (C : Addr) (cl : List (Str × Addr)) (fp : List Addr), DE (X.blk s H scope (compEnvC scope cl C X.env) fp) K Γ Ek0 c elt te fe)
    (hio : ∀ i, i < Γ.length → i ∉ own.map (·.2) → i ∈ io' := by decide) (hs : ∀ x, foldedSetIterable iter X.env x = pure x := by intro _; rfl) :
    DE X K Γ Ek (.own c) (.ListComp elt [⟨tg, iter, ifs, 0⟩] scope pos) (tLc wi g tt te (own.map (·.2))) (mLc fi (own.map (·.2)) gt ft fe) :=
  ⟨pe_lc hc hN hi.pi ok (fun s H C cl fp => (hg s H C cl fp).pg) (fun s H C cl fp => (ht s H C cl fp).pt) (fun s H C cl fp => (he s H C cl fp).pe) hs,
    snd_lc hi.sn (hg X.s_0 (fun _ => none) 0 [] []).sn (ht X.s_0 (fun _ => none) 0 [] []).sn (he X.s_0 (fun _ => none) 0 [] []).sn hio⟩
theorem ds_setLc (i : Nat) {y : Str} {py spos : Pos} (own : List (Str × Nat)) (hc : X.calm = true) (hN : X.N.Nodup) (hi : DI X K Γ Ek tg iter wi fi) (ok : BlkOk X.N X.env.scope scope own)
    (hg : ∀ (s : Shared) (H : Hp) (C : Addr) (cl : List (Str × Addr)) (fp : List Addr), DG (X.blk s H scope (compEnvC scope cl C X.env) fp) K Γ io' .sh tg g gt)
    (ht : ∀ (s : Shared) (H : Hp) (C : Addr) (cl : List (Str × Addr)) (fp : List Addr), DTs (X.blk s H scope (compEnvC scope cl C X.env) fp) K Γ Ek0 ifs tt ft)
    (he : ∀ (s : Shared) (H : Hp) (C : Addr) (cl : List (Str × Addr)) (fp : List Addr), DE (X.blk s H scope (compEnvC scope cl C X.env) fp) K Γ Ek0 c elt te fe)
    (hsw : swapsWith (.ListComp elt [⟨tg, iter, ifs, 0⟩] scope pos) (some (.Name y py)) spos.line X.env = pure true) (hm : Γ[i]? = some (.own c) := by rfl) (hio0 : i ∉ io := by decide)
    (hy : X.N[i]? = some y := by rfl) (hyl : X.env.scope.names.lookup y = some .local := by rfl)
    (hio : ∀ i, i < Γ.length → i ∉ own.map (·.2) → i ∈ io' := by decide) (hs : ∀ x, foldedSetIterable iter X.env x = pure x := by intro _; rfl) :
    DS X K Γ Ek rm io (.Assign [.Name y py] (.ListComp elt [⟨tg, iter, ifs, 0⟩] scope pos) spos) (tAsg (tLc wi g tt te (own.map (·.2))) (gName i)) (mAsg (mLc fi (own.map (·.2)) gt ft fe) (gtName i)) :=
  ⟨ps_setLc hc hN hy hyl hsw hi.pi ok (fun s H C cl fp => (hg s H C cl fp).pg) (fun s H C cl fp => (ht s H C cl fp).pt) (fun s H C cl fp => (he s H C cl fp).pe) hs,
    snd_asg (snd_lc hi.sn (hg X.s_0 (fun _ => none) 0 [] []).sn (ht X.s_0 (fun _ => none) 0 [] []).sn (he X.s_0 (fun _ => none) 0 [] []).sn hio) (snt_name hm hio0)⟩
/-- .. into a slot that is shared -/
theorem ds_setLcS (i : Nat) {y : Str} {py spos : Pos} (own : List (Str × Nat)) (hc : X.calm = true) (hN : X.N.Nodup) (hi : DI X K Γ Ek tg iter wi fi) (ok : BlkOk X.N X.env.scope scope own)
    (hg : ∀ (s : Shared) (H : Hp) (C : Addr) (cl : List (Str × Addr)) (fp : List Addr), DG (X.blk s H scope (compEnvC scope cl C X.env) fp) K Γ io' .sh tg g gt)
    (ht : ∀ (s : Shared) (H : Hp) (C : Addr) (cl : List (Str × Addr)) (fp : List Addr), DTs (X.blk s H scope (compEnvC scope cl C X.env) fp) K Γ Ek0 ifs tt ft)
    (he : ∀ (s : Shared) (H : Hp) (C : Addr) (cl : List (Str × Addr)) (fp : List Addr), DE (X.blk s H scope (compEnvC scope cl C X.env) fp) K Γ Ek0 c elt te fe)
    (hsw : swapsWith (.ListComp elt [⟨tg, iter, ifs, 0⟩] scope pos) (some (.Name y py)) spos.line X.env = pure true) (hm : Γ[i]? = some .sh := by rfl) (hio0 : i ∉ io := by decide)
    (hy : X.N[i]? = some y := by rfl) (hyl : X.env.scope.names.lookup y = some .local := by rfl)
    (hio : ∀ i, i < Γ.length → i ∉ own.map (·.2) → i ∈ io' := by decide) (hs : ∀ x, foldedSetIterable iter X.env x = pure x := by intro _; rfl) :
    DS X K Γ Ek rm io (.Assign [.Name y py] (.ListComp elt [⟨tg, iter, ifs, 0⟩] scope pos) spos) (tAsg (tLc wi g tt te (own.map (·.2))) (gName i)) (mAsg (mLc fi (own.map (·.2)) gt ft fe) (gtName i)) :=
  ⟨ps_setLc hc hN hy hyl hsw hi.pi ok (fun s H C cl fp => (hg s H C cl fp).pg) (fun s H C cl fp => (ht s H C cl fp).pt) (fun s H C cl fp => (he s H C cl fp).pe) hs,
    snd_asg (snd_lc hi.sn (hg X.s_0 (fun _ => none) 0 [] []).sn (ht X.s_0 (fun _ => none) 0 [] []).sn (he X.s_0 (fun _ => none) 0 [] []).sn hio).froze (snt_name hm hio0)⟩
end
end Dl
/-! Dl, ninth part: defs and their calls. -/
namespace Dl
open PySem L2
local macro_rules | `(tactic| walk_at "fle") => `(tactic| (intro P; simp only [List.countP_append, List.countP_cons, List.countP_nil, List.append_nil, List.nil_append]; first | omega | (split <;> omega)))

/-- a def's promise: ms the modes of the parameters, rm of the answer; F: data to the answer and what the parameters hold then -/
def spD (K : PySem.W.Frag) (ms : List Md) (rm : Md) (F : List D → Option (Rs D)) : Sp := fun vs H Q E => ∃ (G : Hp) (C : Fg) (ds : List D) (r : Rs D), vs.length = ms.length ∧ Good K ms G H C (vs.map some) (ds.map some) ∧ F ds = some r ∧
  match r with
  | .ok d fs => ∀ v H' G' o, GLe G G' → R K G' d rm v o → Good K ms G' H' (o ++ C) (vs.map some) fs → Q v H'
  | .ex x fs => ∀ c dx H' G', GLe G G' → XR K G' x c dx → Good K ms G' H' C (vs.map some) fs → E c dx H'
def maskIo (io : List Nat) (n : Nat) (ρ : De) : De := (List.range n).map fun i => if i ∈ io then (ρ[i]?).join else none
def bodyF (n : Nat) (io : List Nat) (f : Mr Fl) (ds : List D) : Option (Rs D) := match f (ds.map some ++ List.replicate (n - ds.length) none) with
  | some (.ok (.rt d) ρ) => some (.ok d (maskIo io ds.length ρ))
  | some (.ok .nx ρ) => some (.ok .non (maskIo io ds.length ρ))
  | some (.ex x ρ) => some (.ex x (maskIo io ds.length ρ))
  | _ => none
/-- .. of a def that lets no exception out -/
def bodyF0 (n : Nat) (io : List Nat) (f : Mr Fl) (ds : List D) : Option (Rs D) := match f (ds.map some ++ List.replicate (n - ds.length) none) with
  | some (.ok (.rt d) ρ) => some (.ok d (maskIo io ds.length ρ))
  | some (.ok .nx ρ) => some (.ok .non (maskIo io ds.length ρ))
  | _ => none
section
variable {K : PySem.W.Frag} {Γ ms : List Md} {G H : Hp} {C : Fg} {σ : St} {ρ : De} {io : List Nat} {vs : List V} {ds : List D} {N : List Str}
theorem Good.extend (h : Good K ms G H C (vs.map some) (ds.map some)) (hΓ : Γ.length = N.length) (hm : Γ.take ms.length = ms) (hl : vs.length = ms.length) : Good K Γ G H C (start N vs) (ds.map some ++ List.replicate (N.length - ds.length) none) := by
  obtain ⟨os, a, b⟩ := h.ex
  have l1 : ds.length = vs.length := by simpa using a.ls
  have l2 : os.length = vs.length := by simpa using a.lo
  have l3 : ms.length ≤ Γ.length := by
    have := congrArg List.length hm
    rw [List.length_take] at this; omega
  have l4 : (start N vs).length = N.length := by
    unfold L2.start
    rw [List.length_append, List.length_map, List.length_replicate]; omega
  refine ⟨os ++ List.replicate (N.length - os.length) [], ⟨?_, ?_, ?_, fun i d e => ?_⟩, b.re fun P => ?_⟩
  · rw [l4, List.length_append, List.length_map, List.length_replicate]; omega
  · rw [l4, List.length_append, List.length_replicate]; omega
  · rw [l4]; exact hΓ
  · by_cases hi : i < ds.length
    · have e' : (ds.map some)[i]? = some (some d) := by rw [List.getElem?_append_left (by simpa using hi)] at e; exact e
      obtain ⟨v, m, o, e1, e2, e3, r⟩ := a.at_ i d e'
      refine ⟨v, m, o, ?_, ?_, ?_, r⟩
      · unfold L2.start
        rw [List.getElem?_append_left (by rw [List.length_map]; omega)]; exact e1
      · rw [← hm] at e2
        rw [List.getElem?_take] at e2
        split at e2
        · exact e2
        · cases e2
      · rw [List.getElem?_append_left (by omega)]; exact e3
    · rw [List.getElem?_append_right (by simpa using hi), List.getElem?_replicate] at e
      split at e <;> cases e
  · have z : ∀ n : Nat, (List.replicate n ([] : Fg)).flatten = [] := fun n => by induction n with
      | zero => rfl
      | succ n ih => rw [List.replicate_succ, List.flatten_cons, ih]; rfl
    rw [List.flatten_append, z, List.append_nil]
    exact Nat.le_refl _
theorem flat_take (P : Addr × HO → Bool) : ∀ (os : List Fg) (n : Nat), (os.take n).flatten.countP P ≤ os.flatten.countP P
  | [], n => by simp
  | x :: r, 0 => by simp
  | x :: r, n + 1 => by
    have := flat_take P r n
    simp only [List.take_succ_cons, List.flatten_cons, List.countP_append]
    omega
theorem Good.restrict (h : Good K Γ G H C σ ρ) (fx : Fix io (start N vs) σ) (hm : Γ.take ms.length = ms) (hl : vs.length = ms.length) (hn : ms.length ≤ N.length) (hσ : Γ.length = N.length) : Good K ms G H C (vs.map some) (maskIo io ms.length ρ) := by
  obtain ⟨os, a, b⟩ := h.ex
  have l2 : os.length = N.length := by rw [a.lo, ← a.lg, hσ]
  refine ⟨os.take ms.length, ⟨?_, ?_, ?_, fun i d e => ?_⟩, b.re fun P => ?_⟩
  · unfold maskIo
    rw [List.length_map, List.length_range, List.length_map, hl]
  · rw [List.length_take, List.length_map]; omega
  · rw [List.length_map, hl]
  · unfold maskIo at e
    rw [List.getElem?_map] at e
    obtain ⟨j, e1, e2⟩ := Option.map_eq_some_iff.mp e
    obtain ⟨h3, h4⟩ := List.getElem?_eq_some_iff.mp e1
    rw [List.getElem_range] at h4
    rw [List.length_range] at h3
    subst h4
    split at e2
    · rename_i hio
      have e3 : ρ[i]? = some (some d) := by
        cases e4 : ρ[i]? with
        | none => rw [e4] at e2; cases e2
        | some x => rw [e4] at e2; rw [show x = some d from e2]
      obtain ⟨v, m, o, e4, e5, e6, r⟩ := a.at_ i d e3
      have e7 : (start N vs)[i]? = some (some v) := by rw [← fx i hio]; exact e4
      refine ⟨v, m, o, ?_, ?_, ?_, r⟩
      · unfold L2.start at e7
        rw [List.getElem?_append_left (by rw [List.length_map]; omega)] at e7
        exact e7
      · rw [← hm, List.getElem?_take, if_pos h3]; exact e5
      · rw [List.getElem?_take, if_pos h3]; exact e6
    · cases e2
  · have := flat_take P os ms.length
    simp only [List.countP_append]; omega
end
section
variable {P : Program} {w : World} {K : PySem.W.Frag} {mg : Str → Option Value} {base : Heap}
/-- a def keeps its promise -/
theorem fn_ok {x qual : Str} {st : Stmt} {f : Addr} {fd : FuncData} {N ps : List Str} {k : Nat} {Γ : List Md} {rm : Md} {io : List Nat} {ms : List Md} {fb : Mr Fl} (F : Fun K x qual st f fd) (S : FnScope N ps (defScope st)) (hΓ : Γ.length = N.length) (hp : ps.length = ms.length) (hm : Γ.take ms.length = ms)
    (hbody : ∀ (cdv : Value) (A : Around) (outer : List Env) (s : Shared) (H : Hp) (E : XK), Room k (A.deeper (PyProof.Rows.envOfC qual (defScope st) s.heap.objs.size f cdv)) →
      ∃ t, DSs (cxOf CX0 P w K mg base N qual (defScope st) f cdv A outer s H E).nox K Γ Ek0 rm io (defBody st) t fb) : FnOk P w K mg base CX0 (k + 1) f fd ps (spD K ms rm (bodyF0 N.length io fb)) := by
  refine F.ok S (fun vs H Q E h => ?_) (fun cdv A outer s H vs Q E hr h => ?_)
  · obtain ⟨G, C, ds, r, hl, _⟩ := h
    rw [hl, hp]
  · obtain ⟨G, C, ds, r, hl, good, hF, hr'⟩ := h
    obtain ⟨t, b⟩ := hbody cdv A outer s H E hr
    have ld : ds.length = ms.length := by
      have := good.lenσ
      simp only [List.length_map] at this
      omega
    have hn : ms.length ≤ N.length := by
      have := congrArg List.length hm
      rw [List.length_take] at this; omega
    refine ⟨t, b.ps, ?_⟩
    unfold bodyF0 at hF
    cases e : fb (ds.map some ++ List.replicate (N.length - ds.length) none) with
    | none => rw [e] at hF; cases hF
    | some r1 =>
      rw [e] at hF
      refine b.sn (start N vs) H G C _ _ r1 (good.extend hΓ hm hl) e ?_
      cases r1 with
      | ok fl ρ1 =>
        cases fl with
        | nx =>
          cases hF
          exact fun σ' H' G' g fx good' => hr' .non H' G' [] g ⟨rfl, rfl⟩ (by rw [ld]; exact good'.restrict fx hm hl hn hΓ)
        | rt d =>
          cases hF
          exact fun v σ' H' G' o g fx r good' => hr' v H' G' o g r (by rw [ld]; exact good'.restrict fx hm hl hn hΓ)
        | bk => cases hF
        | ct => cases hF
      | ex x ρ1 => cases hF
/-- a promise for nothing -/
theorem fn_none {cx : CXT} {k : Nat} {f : Addr} {fd : FuncData} {ps : List Str} {ms : List Md} {rm : Md} : FnOk P w K mg base cx k f fd ps (spD K ms rm fun _ => none) :=
  ⟨fun vs H Q E ⟨_, _, _, _, _, _, h, _⟩ => (nomatch h), fun A outer s H args us vs Q E _ _ _ _ ⟨_, _, _, _, _, _, h, _⟩ => (nomatch h)⟩
/-- what the law's end asks -/
theorem law_sp {H : Hp} {a : Addr} {ns : List Int} {F : List D → Option (Rs D)} (hS : SqL K H a (ns.map V.int)) (h : ∃ fs, F [.frl (ns.map .int)] = some (.ok (.bl true) fs)) : spD K [.sh] .sh F [.ref a] H (fun v _ => v = .bl true) fun _ _ _ => False := by
  obtain ⟨fs, e⟩ := h
  have shi : ∀ ns : List Int, ShL K H (ns.map D.int) (ns.map V.int) := fun ns => by
    induction ns with
    | nil => rfl
    | cons n r ih => exact ⟨.int n, r.map V.int, rfl, rfl, ih⟩
  refine ⟨H, [], [.frl (ns.map .int)], _, rfl, ⟨[[]], ⟨rfl, rfl, rfl, fun i d ei => ?_⟩, ⟨GLe.refl H, (fun p hp => by simp at hp), (fun a => by simp)⟩⟩, e, fun v H' G' o g r _ => r.2⟩
  cases i with
  | zero =>
    cases ei
    exact ⟨.ref a, .sh, [], rfl, rfl, rfl, rfl, a, _, rfl, hS, shi ns⟩
  | succ i => simp at ei
/-- a def that may be called by its name -/
structure Cl (P : Program) (w : World) (K : PySem.W.Frag) (mg : Str → Option Value) (base : Heap) (cx : CXT) (k : Nat) (x : Str) (ms : List Md) (rm : Md) (F : List D → Option (Rs D)) : Prop where
  ex : ∃ (f : Addr) (fd : FuncData) (ps : List Str), FnOk P w K mg base cx k f fd ps (spD K ms rm F) ∧ mg x = some (.ref f) ∧ PySem.W.keepIn K (.ref f) = true ∧ Binds K fd ps []
/-- the promise for all that another function gives too -/
theorem spD_mono {ms : List Md} {rm : Md} {F F' : List D → Option (Rs D)} (h : ∀ ds r, F' ds = some r → F ds = some r) : ∀ vs H Q E, spD K ms rm F' vs H Q E → spD K ms rm F vs H Q E :=
  fun _ _ _ _ ⟨G, C, ds, r, h1, h2, h3, h4⟩ => ⟨G, C, ds, r, h1, h2, h _ _ h3, h4⟩
theorem Cl.imp {cx : CXT} {k : Nat} {x : Str} {ms : List Md} {rm : Md} {F F' : List D → Option (Rs D)} (c : Cl P w K mg base cx k x ms rm F) (h : ∀ ds r, F' ds = some r → F ds = some r) : Cl P w K mg base cx k x ms rm F' := by
  obtain ⟨f, fd, ps, a, b⟩ := c.ex
  exact ⟨f, fd, ps, a.imp (spD_mono h), b⟩
theorem Cl.le {cx : CXT} {j k : Nat} {x : Str} {ms : List Md} {rm : Md} {F : List D → Option (Rs D)} (c : Cl P w K mg base cx j x ms rm F) (h : j ≤ k) : Cl P w K mg base cx k x ms rm F := by
  obtain ⟨f, fd, ps, a, b⟩ := c.ex
  exact ⟨f, fd, ps, a.mono h, b⟩
end

/-! ### calls -/
def akM (Γ : List Md) : AK → Option Md
  | .v m => some m
  | .io s => Γ[s]?
/-- what was handed on is laid back -/
def backIo : List AK → De → De → De
  | .io s :: ks, f :: fs, ρ => backIo ks fs (match f with
    | some d => ρ.set s (some d)
    | none => ρ)
  | .v _ :: ks, _ :: fs, ρ => backIo ks fs ρ
  | _, _, ρ => ρ
def mCl0 (ks : List AK) (F : List D → Option (Rs D)) (fr : Mr (List D)) : Mr D := bnd fr fun ds ρ => match F ds with
  | some (.ok d fs) => some (.ok d (backIo ks fs ρ))
  | _ => none
def mClX (ks : List AK) (F : List D → Option (Rs D)) (fr : Mr (List D)) : Mr D := bnd fr fun ds ρ => match F ds with
  | some (.ok d fs) => some (.ok d (backIo ks fs ρ))
  | some (.ex x fs) => some (.ex x (backIo ks fs ρ))
  | none => none
section
variable {K : PySem.W.Frag} {Γ : List Md} {Ek : XK} {G H : Hp} {C : Fg} {σ : St} {ρ : De}
/-- the arguments as a callee wants them; and what it leaves, laid back -/
theorem RA.split : ∀ (ks : List AK) {ms : List Md} {ds : List D} {vs : List V} {o : Fg}, ks.map (akM Γ) = ms.map some → RA K Γ ks σ G ds vs o → ∃ os, Sl K G ms (vs.map some) (ds.map some) os ∧ o = os.flatten ∧ vs.length = ms.length ∧
    ∀ (G' H' : Hp) (C' : Fg) (fs : De) (os' : List Fg) (ρ : De), Sl K G' ms (vs.map some) fs os' → Good K Γ G' H' (os'.flatten ++ C') σ ρ → Good K Γ G' H' C' σ (backIo ks fs ρ)
  | [], ms, ds, vs, o, hk, ⟨e1, e2, e3⟩ => by
    subst e1; subst e2; subst e3
    cases ms with
    | cons => cases hk
    | nil => exact ⟨[], ⟨rfl, rfl, rfl, fun i d e => by simp at e⟩, rfl, rfl, fun G' H' C' fs os' ρ sl good => good.re (by walk_at "fle")⟩
  | k :: ks, ms, ds, vs, o, hk, h => by
    cases ms with
    | nil => cases hk
    | cons m ms =>
      rw [List.map_cons, List.map_cons] at hk
      injection hk with hk1 hk2
      -- the head's datum
      have hd : ∃ d dr v vr o1 o2, ds = d :: dr ∧ vs = v :: vr ∧ o = o1 ++ o2 ∧ R K G d m v o1 ∧ RA K Γ ks σ G dr vr o2 ∧ ∀ s, k = .io s → σ[s]? = some (some v) ∧ Γ[s]? = some m := by
        cases k with
        | v m' =>
          obtain ⟨d, dr, v, vr, o1, o2, e1, e2, e3, r, t⟩ := h
          have e : m' = m := Option.some.inj hk1
          subst e
          exact ⟨d, dr, v, vr, o1, o2, e1, e2, e3, r, t, fun s e => nomatch e⟩
        | io s =>
          obtain ⟨d, dr, v, vr, o1, o2, m', e1, e2, e3, e4, e5, r, t⟩ := h
          have e : some m' = some m := e5.symm.trans hk1
          cases e
          exact ⟨d, dr, v, vr, o1, o2, e1, e2, e3, r, t, fun s' e => by cases e; exact ⟨e4, e5⟩⟩
      obtain ⟨d, dr, v, vr, o1, o2, e1, e2, e3, r, t, hio⟩ := hd
      obtain ⟨os, sl, eo, hl, back⟩ := RA.split ks hk2 t
      subst e1; subst e2; subst e3; subst eo
      refine ⟨o1 :: os, ⟨by simpa using sl.ls, by simpa using sl.lo, by simpa using sl.lg, fun i d' e => ?_⟩, rfl, by simpa using hl, fun G' H' C' fs os' ρ sl' good => ?_⟩
      · cases i with
        | zero =>
          rw [List.map_cons, List.getElem?_cons_zero] at e
          cases e
          exact ⟨v, m, o1, rfl, rfl, rfl, r⟩
        | succ i =>
          rw [List.map_cons, List.getElem?_cons_succ] at e
          obtain ⟨v', m', o', a1, a2, a3, a4⟩ := sl.at_ i d' e
          exact ⟨v', m', o', by simpa using a1, by simpa using a2, by simpa using a3, a4⟩
      · cases fs with
        | nil => have := sl'.ls; simp at this
        | cons f fs =>
          cases os' with
          | nil => have := sl'.lo; simp at this
          | cons oh os' =>
            have slr : Sl K G' ms (vr.map some) fs os' := ⟨by simpa using sl'.ls, by simpa using sl'.lo, by simpa using sl'.lg, fun i d' e => by
              obtain ⟨v', m', o', a1, a2, a3, a4⟩ := sl'.at_ (i + 1) d' (by simpa using e)
              exact ⟨v', m', o', by simpa using a1, by simpa using a2, by simpa using a3, a4⟩⟩
            cases k with
            | v m' => exact back G' H' C' fs os' ρ slr (good.re (by intro P; simp only [List.flatten_cons, List.countP_append]; omega))
            | io s =>
              obtain ⟨hs, hm⟩ := hio s rfl
              cases f with
              | none => exact back G' H' C' fs os' ρ slr (good.re (by intro P; simp only [List.flatten_cons, List.countP_append]; omega))
              | some d1 =>
                obtain ⟨v', m', o', a1, a2, a3, a4⟩ := sl'.at_ 0 d1 rfl
                cases a1; cases a2; cases a3
                refine back G' H' C' fs os' (ρ.set s (some d1)) slr ?_
                exact Good.back (o := oh) (good.re (by intro P; simp only [List.flatten_cons, List.countP_append]; omega)) a4 hs hm
variable {ks : List AK} {ms : List Md} {rm : Md} {F : List D → Option (Rs D)} {tr : TA} {fr : Mr (List D)}
theorem snd_call {E : XK} (h : SndG K Γ Ek (RA K Γ ks) tr fr) (hk : ks.map (akM Γ) = ms.map some) (hE : ∀ c dx H, E c dx H → Ek c dx H) (hE' : ∀ c dx H, Ek c dx H → E c dx H) : Snd K Γ Ek rm (tCall (spD K ms rm F) [] E tr) (mClX ks F fr) := by
  refine SndG.bind (t2 := fun vs _ H1 Q => spD K ms rm F (vs ++ []) H1 Q E) h fun ds vs σ H G C o ρ Q r rel good hf hq => ?_
  obtain ⟨os, sl, eo, hl, back⟩ := RA.split ks hk rel
  subst eo
  obtain ⟨osC, slC, s⟩ := good.ex
  rw [List.append_nil]
  cases e : F ds with
  | none => rw [e] at hf; cases hf
  | some r1 =>
    rw [e] at hf
    refine ⟨G, osC.flatten ++ C, ds, r1, hl, ⟨os, sl, s.re (by walk_at "fle")⟩, e, ?_⟩
    cases r1 with
    | ok d fs =>
      cases hf
      intro v H' G' o' g r good'
      obtain ⟨os', sl', s'⟩ := good'.ex
      exact hq v H' G' o' g r (back G' H' (o' ++ C) fs os' ρ sl' ⟨osC, slC.mono g, s'.re (by walk_at "fle")⟩)
    | ex x fs =>
      cases hf
      intro c dx H' G' g xr good'
      obtain ⟨os', sl', s'⟩ := good'.ex
      exact hE' _ _ _ (hq c dx H' G' g xr (back G' H' C fs os' ρ sl' ⟨osC, slC.mono g, s'.re (by walk_at "fle")⟩))
theorem snd_call0 {E : XK} (h : SndG K Γ Ek (RA K Γ ks) tr fr) (hk : ks.map (akM Γ) = ms.map some) : Snd K Γ Ek rm (tCall (spD K ms rm F) [] E tr) (mCl0 ks F fr) := by
  refine SndG.bind (t2 := fun vs _ H1 Q => spD K ms rm F (vs ++ []) H1 Q E) h fun ds vs σ H G C o ρ Q r rel good hf hq => ?_
  obtain ⟨os, sl, eo, hl, back⟩ := RA.split ks hk rel
  subst eo
  obtain ⟨osC, slC, s⟩ := good.ex
  rw [List.append_nil]
  cases e : F ds with
  | none => rw [e] at hf; cases hf
  | some r1 =>
    rw [e] at hf
    refine ⟨G, osC.flatten ++ C, ds, r1, hl, ⟨os, sl, s.re (by walk_at "fle")⟩, e, ?_⟩
    cases r1 with
    | ok d fs =>
      cases hf
      intro v H' G' o' g r good'
      obtain ⟨os', sl', s'⟩ := good'.ex
      exact hq v H' G' o' g r (back G' H' (o' ++ C) fs os' ρ sl' ⟨osC, slC.mono g, s'.re (by walk_at "fle")⟩)
    | ex x fs => cases hf
end
section
variable {X : Cx} {K : PySem.W.Frag} {Γ : List Md} {Ek : XK} {k j : Nat} {x : Str} {ms : List Md} {rm : Md} {F : List D → Option (Rs D)} {ks : List AK} {e : PySem.Expr} {es : List PySem.Expr} {tr : TA} {fr : Mr (List D)} {p pos : Pos}
theorem de_call (c : Cl X.prog X.w K X.mg X.base CX0 k x ms rm F) (hr : Room j X.A) (ha : DA X K Γ Ek ks (e :: es) tr fr) (hk : k ≤ j := by omega) (hks : ks.map (akM Γ) = ms.map some := by rfl) (hg : Gl X x := by rfl)
    (hdb : (x == ("__debug__" : Str)) = false := by decide) (he : starEach (e :: es) X.env = (false, eval e X.env) :: starEach es X.env := by rfl) (hpl : (backTo pos (starEach es X.env)).any (·.1) = false := by rfl) (hK : X.K = K := by rfl) :
    DE X K Γ Ek rm (.Call (.Name x p) (e :: es) [] pos) (tCall (spD K ms rm F) [] E0 tr) (mCl0 ks F fr) := by
  subst hK
  obtain ⟨f, fd, ps, a, hm, kp, b⟩ := c.ex
  exact ⟨pe_call a (hr.mono hk) hg hm kp b .nil pass0 ha.pa hdb he hpl, snd_call0 ha.sn hks⟩
end
end Dl
/-! Dl, tenth part: owned things by their place: items, stores, append, pop. -/
namespace Dl
open PySem L2
local macro_rules | `(tactic| walk_at "fle") => `(tactic| (intro P; simp only [List.countP_append, List.countP_cons, List.countP_nil, List.append_nil, List.nil_append]; first | omega | (split <;> omega)))

def kid (d : D) (k : Nat) : Option D := match d with
  | .lst ds => ds[k]?
  | .tup ds => ds[k]?
  | .dK _ ds => ds[k]?
  | .shd (.lst ds) => (ds[k]?).map .shd
  | .shd (.frl ds) => (ds[k]?).map .shd
  | .shd (.tup ds) => (ds[k]?).map .shd
  | _ => none
def putKid (d : D) (k : Nat) (x : D) : D := match d with
  | .lst ds => .lst (ds.set k x)
  | .tup ds => .tup (ds.set k x)
  | .dK ks ds => .dK ks (ds.set k x)
  | d => d
def getP : D → List Nat → Option D
  | d, [] => some d
  | d, k :: ks => (kid d k).bind fun x => getP x ks
def setP : D → List Nat → D → D
  | _, [], x => x
  | d, k :: ks, x => match kid d k with
    | some y => putKid d k (setP y ks x)
    | none => d
theorem getP_snoc : ∀ (p : List Nat) (d : D) (k : Nat), getP d (p ++ [k]) = (getP d p).bind fun x => kid x k
  | [], d, k => by
    show (kid d k).bind (fun x => some x) = kid d k
    cases kid d k <;> rfl
  | j :: p, d, k => by
    show (kid d j).bind (fun x => getP x (p ++ [k])) = ((kid d j).bind fun x => getP x p).bind fun x => kid x k
    cases kid d j with
    | none => rfl
    | some y => exact getP_snoc p y k
theorem setP_snoc : ∀ (p : List Nat) (d y z x : D) (k : Nat), getP d p = some y → kid y k = some z → setP d (p ++ [k]) x = setP d p (putKid y k x)
  | [], d, y, z, x, k, h, hk => by
    cases h
    show (match kid d k with | some y => putKid d k x | none => d) = putKid d k x
    rw [hk]
  | j :: p, d, y, z, x, k, h, hk => by
    have h : ((kid d j).bind fun x => getP x p) = some y := h
    show (match kid d j with | some w => putKid d j (setP w (p ++ [k]) x) | none => d) = (match kid d j with | some w => putKid d j (setP w p (putKid y k x)) | none => d)
    cases e : kid d j with
    | none => rw [e] at h; first | done | cases h
    | some w =>
      rw [e] at h
      dsimp only
      rw [setP_snoc p w y z x k h hk]

section
variable {K : PySem.W.Frag} {G H : Hp}
theorem RL.split : ∀ {ds : List D} {c : Md} {vs : List V} {o : Fg} {k : Nat} {d : D}, RL K G ds c vs o → ds[k]? = some d → ∃ (v : V) (o' rest : Fg), vs[k]? = some v ∧ R K G d c v o' ∧ (∀ P, o.countP P = o'.countP P + rest.countP P) ∧
    ∀ (G2 : Hp) (d2 : D) (o2 : Fg), GLe G G2 → R K G2 d2 c v o2 → ∃ o3, RL K G2 (ds.set k d2) c vs o3 ∧ ∀ P, o3.countP P = o2.countP P + rest.countP P
  | [], _, _, _, _, _, _, h => by simp at h
  | d :: ds, c, _, _, 0, d', ⟨v, r, o1, o2, e, e2, q, t⟩, h => by
    simp at h; subst h; subst e; subst e2
    exact ⟨v, o1, o2, rfl, q, fun P => List.countP_append, fun G2 d2 o3 g r2 => ⟨o3 ++ o2, ⟨v, r, o3, o2, rfl, rfl, r2, RL.mono g ds t⟩, fun P => List.countP_append⟩⟩
  | d :: ds, c, _, _, k + 1, d', ⟨v, r, o1, o2, e, e2, q, t⟩, h => by
    subst e; subst e2
    obtain ⟨v', o', rest, h1, h2, h3, h4⟩ := RL.split (k := k) t (by simpa using h)
    refine ⟨v', o', o1 ++ rest, by simpa using h1, h2, fun P => by have := h3 P; simp only [List.countP_append]; omega, fun G2 d2 o3 g r2 => ?_⟩
    obtain ⟨o4, h5, h6⟩ := h4 G2 d2 o3 g r2
    exact ⟨o1 ++ o4, ⟨v, r, o1, o4, rfl, rfl, R.mono g d q, h5⟩, fun P => by have := h6 P; simp only [List.countP_append]; omega⟩
theorem RL.setAt : ∀ {ds : List D} {c : Md} {vs : List V} {o o2 : Fg} {v2 : V} {d2 : D} (k : Nat), RL K G ds c vs o → R K G d2 c v2 o2 → ∃ o3, RL K G (ds.set k d2) c (vs.set k v2) o3 ∧ ∀ P, o3.countP P ≤ o.countP P + o2.countP P
  | [], c, vs, o, o2, v2, d2, k, ⟨e1, e2⟩, _ => by subst e1; subst e2; exact ⟨[], ⟨rfl, rfl⟩, fun P => by simp⟩
  | d :: ds, c, _, _, o2, v2, d2, 0, ⟨v, r, p1, p2, e, e2, q, t⟩, r2 => by
    subst e; subst e2
    exact ⟨o2 ++ p2, ⟨v2, r, o2, p2, rfl, rfl, r2, t⟩, fun P => by simp only [List.countP_append]; omega⟩
  | d :: ds, c, _, _, o2, v2, d2, k + 1, ⟨v, r, p1, p2, e, e2, q, t⟩, r2 => by
    subst e; subst e2
    obtain ⟨o3, h1, h2⟩ := RL.setAt k t r2
    exact ⟨p1 ++ o3, ⟨v, r.set k v2, p1, o3, rfl, rfl, q, h1⟩, fun P => by have := h2 P; simp only [List.countP_append]; omega⟩
/-- within root, at the path p, stands w of the mode m' -/
def Foc (K : PySem.W.Frag) (G : Hp) (root : D) (m : Md) (v : V) (o : Fg) (p : List Nat) (w : V) (m' : Md) : Prop := ∃ (d' : D) (o' rest : Fg), getP root p = some d' ∧ R K G d' m' w o' ∧ (∀ P, o.countP P = o'.countP P + rest.countP P) ∧
  ∀ (G2 : Hp) (d2 : D) (o2 : Fg), GLe G G2 → R K G2 d2 m' w o2 → ∃ o3, R K G2 (setP root p d2) m v o3 ∧ ∀ P, o3.countP P ≤ o2.countP P + rest.countP P
theorem Foc.mono {G' : Hp} {root : D} {m : Md} {v : V} {o : Fg} {p : List Nat} {w : V} {m' : Md} (g : GLe G G') (h : Foc K G root m v o p w m') : Foc K G' root m v o p w m' := by
  obtain ⟨d', o', rest, h1, h2, h3, h4⟩ := h
  exact ⟨d', o', rest, h1, R.mono g d' h2, h3, fun G2 d2 o2 g2 => h4 G2 d2 o2 (g.trans g2)⟩
/-- a list within: its items -/
theorem Foc.step {root : D} {m c : Md} {v : V} {o : Fg} {p : List Nat} {w : V} {ds : List D} {k : Nat} {d : D} (h : Foc K G root m v o p w (.own c)) (hp : getP root p = some (.lst ds)) (hk : ds[k]? = some d) :
    ∃ a vs v', w = .ref a ∧ (a, HO.lst vs) ∈ o ∧ vs.length = ds.length ∧ vs[k]? = some v' ∧ Foc K G root m v o (p ++ [k]) v' c := by
  obtain ⟨d', o', rest, h1, h2, h3, h4⟩ := h
  rw [hp] at h1; cases h1
  obtain ⟨a, vs, o1, ew, eo, rl⟩ := h2
  obtain ⟨v', o2, rest2, g1, g2, g3, g4⟩ := rl.split hk
  refine ⟨a, vs, v', ew, ?_, rl.len, g1, d, o2, (a, .lst vs) :: (rest2 ++ rest), ?_, g2, fun P => ?_, fun G2 d2 o3 g r2 => ?_⟩
  · have hle : Le o' o := fun P => by have := h3 P; omega
    exact hle.mem (by rw [eo]; exact List.mem_cons_self)
  · rw [getP_snoc, hp]; exact hk
  · have e1 := h3 P
    have e2 := g3 P
    subst eo
    simp only [List.countP_cons, List.countP_append] at e1 ⊢
    omega
  · obtain ⟨o4, r4, e4⟩ := g4 G2 d2 o3 g r2
    obtain ⟨o5, r5, e5⟩ := h4 G2 (.lst (ds.set k d2)) ((a, .lst vs) :: o4) g ⟨a, vs, o4, ew, rfl, r4⟩
    refine ⟨o5, ?_, fun P => ?_⟩
    · rw [setP_snoc p root (.lst ds) d d2 k hp hk]; exact r5
    · have e1 := e5 P
      have e2 := e4 P
      simp only [List.countP_cons, List.countP_append] at e1 ⊢
      omega
theorem Foc.stepT {root : D} {m c : Md} {v : V} {o : Fg} {p : List Nat} {w : V} {ds : List D} {k : Nat} {d : D} (h : Foc K G root m v o p w (.own c)) (hp : getP root p = some (.tup ds)) (hk : ds[k]? = some d) :
    ∃ a vs v', w = .ref a ∧ SqT K G a vs ∧ vs.length = ds.length ∧ vs[k]? = some v' ∧ Foc K G root m v o (p ++ [k]) v' c := by
  obtain ⟨d', o', rest, h1, h2, h3, h4⟩ := h
  rw [hp] at h1; cases h1
  obtain ⟨a, vs, ew, et, rl⟩ := h2
  obtain ⟨v', o2, rest2, g1, g2, g3, g4⟩ := rl.split hk
  refine ⟨a, vs, v', ew, et, rl.len, g1, d, o2, rest2 ++ rest, ?_, g2, fun P => ?_, fun G2 d2 o3 g r2 => ?_⟩
  · rw [getP_snoc, hp]; exact hk
  · have e1 := h3 P
    have e2 := g3 P
    simp only [List.countP_append]
    omega
  · obtain ⟨o4, r4, e4⟩ := g4 G2 d2 o3 g r2
    obtain ⟨o5, r5, e5⟩ := h4 G2 (.tup (ds.set k d2)) o4 g ⟨a, vs, ew, g.sqT et, r4⟩
    refine ⟨o5, ?_, fun P => ?_⟩
    · rw [setP_snoc p root (.tup ds) d d2 k hp hk]; exact r5
    · have e1 := e5 P
      have e2 := e4 P
      simp only [List.countP_append]
      omega
end

/-- the items of a list or a tuple that is shared now -/
def shItems : D → Option (List D)
  | .shd (.lst ds) => some ds
  | .shd (.frl ds) => some ds
  | .shd (.tup ds) => some ds
  | _ => none
section
variable {K : PySem.W.Frag} {G H : Hp}
theorem shItems_of {d : D} {m : Md} {w : V} {o : Fg} {ds : List D} (h : shItems d = some ds) (r : R K G d m w o) : o = [] ∧ ∃ a vs e, w = .ref a ∧ (SqL K G a vs ∨ SqT K G a vs) ∧ ShL K G ds vs ∧ d = .shd e ∧ (∀ k, kid d k = (ds[k]?).map .shd) ∧ (∀ k x, putKid d k x = d) := by
  cases d <;> first | (cases h; done) | skip
  rename_i e
  obtain ⟨z, r⟩ := r
  cases e <;> first | (cases h; done) | skip
  · cases h; obtain ⟨a, vs, ew, q, t⟩ := r; exact ⟨z, a, vs, _, ew, .inl (.inl (.inl q)), t, rfl, fun k => rfl, fun k x => rfl⟩
  · cases h; obtain ⟨a, vs, ew, q, t⟩ := r; exact ⟨z, a, vs, _, ew, .inl q, t, rfl, fun k => rfl, fun k x => rfl⟩
  · cases h; obtain ⟨a, vs, ew, q, t⟩ := r; exact ⟨z, a, vs, _, ew, .inr q, t, rfl, fun k => rfl, fun k x => rfl⟩
theorem Foc.stepS {root : D} {m m' c : Md} {v : V} {o : Fg} {p : List Nat} {w : V} {d0 : D} {ds : List D} {k : Nat} {d : D} (h : Foc K G root m v o p w m') (hp : getP root p = some d0) (hs : shItems d0 = some ds) (hk : ds[k]? = some d) :
    ∃ a vs v', w = .ref a ∧ (SqL K G a vs ∨ SqT K G a vs) ∧ vs.length = ds.length ∧ vs[k]? = some v' ∧ Foc K G root m v o (p ++ [k]) v' c := by
  obtain ⟨d', o', rest, h1, h2, h3, h4⟩ := h
  rw [hp] at h1; cases h1
  obtain ⟨z, a, vs, e, ew, hq, r, ed, hkid, hput⟩ := shItems_of hs h2
  subst z
  obtain ⟨v', hv, rv⟩ := r.get hk
  have hkk : kid d0 k = some (.shd d) := by rw [hkid, hk]; rfl
  refine ⟨a, vs, v', ew, hq, r.len, hv, .shd d, [], rest, ?_, ⟨rfl, rv⟩, h3, fun G2 d2 o2 g r2 => ?_⟩
  · rw [getP_snoc, hp]; exact hkk
  · obtain ⟨o5, r5, e5⟩ := h4 G2 d0 [] g (R.mono g _ h2)
    refine ⟨o5, ?_, fun P => ?_⟩
    · rw [setP_snoc p root d0 (.shd d) d2 k hp hkk, hput]; exact r5
    · have := e5 P
      simp only [List.countP_nil] at this
      omega
end
/-- taken out of its slot, owned or not -/
def mTk (i : Nat) : Mr D := fun ρ => match ρ[i]? with
  | some (some d) => some (.ok d (ρ.set i none))
  | _ => none
/-- a place within slot i, the slot being empty meanwhile -/
def PR (K : PySem.W.Frag) (Γ : List Md) (i : Nat) (m' : Md) : St → Hp → D × List Nat → V → Fg → Prop := fun σ G rp w o => ∃ v m, σ[i]? = some (some v) ∧ Γ[i]? = some m ∧ R K G rp.1 m v o ∧ Foc K G rp.1 m v o rp.2 w m'
theorem PR.mono {K : PySem.W.Frag} {Γ : List Md} {i : Nat} {m' : Md} : RMono (PR K Γ i m') := fun σ G G' rp w o g ⟨v, m, h1, h2, h3, h4⟩ => ⟨v, m, h1, h2, R.mono g _ h3, h4.mono g⟩
structure DP (X : Cx) (K : PySem.W.Frag) (Γ : List Md) (Ek : XK) (i : Nat) (m : Md) (e : PySem.Expr) (t : TE) (f : Mr (D × List Nat)) : Prop where
  pe : PE X e t
  sn : SndG K Γ Ek (PR K Γ i m) t f
section
variable {K : PySem.W.Frag} {X : Cx} {Γ : List Md} {Ek : XK} {i : Nat} {m c rm : Md} {e a b : PySem.Expr} {t ta tb te : TE} {f : Mr (D × List Nat)} {fb fe : Mr D} {pos p : Pos} {io : List Nat}
theorem dp_var (i : Nat) {x : Str} {p : Pos} (hN : X.N[i]? = some x := by rfl) (hv : Vis X.env.scope x := by first | exact Or.inl rfl | exact Or.inr (Or.inl rfl) | exact Or.inr (Or.inr rfl)) (h : Γ[i]? = some m := by rfl) (hd : (x == ("__debug__" : Str)) = false := by decide)
    (hcd : (x == ("__classdict__" : Str)) = false := by decide) : DP X K Γ Ek i m (.Name x p) (tVar i) (bnd (mTk i) fun d => ret (d, [])) := ⟨pe_var hN hv hd hcd, by
  intro σ H G C ρ Q r hg hf hq
  rcases bnd_inv hf with ⟨d, ρ1, e1, e2⟩ | ⟨x, ρ1, e1, e2⟩
  · unfold mTk at e1
    split at e1
    · rename_i d' e
      cases e1
      cases e2
      obtain ⟨v, m', o, h1, h2, r, g2⟩ := hg.take e
      rw [h] at h2; cases h2
      exact ⟨v, h1, hq v H G o (GLe.refl G) ⟨v, m, h1, h, r, d, o, [], rfl, r, fun P => by simp, fun G2 d2 o2 g r2 => ⟨o2, r2, fun P => by simp⟩⟩ g2⟩
    · cases e1
  · unfold mTk at e1
    split at e1 <;> cases e1⟩
def anyItems (d : D) : Option (List D) := match d with
  | .lst ds => some ds
  | .tup ds => some ds
  | d => shItems d
def ixP (rp : D × List Nat) (j : D) : Option (D × List Nat) := match j with
  | .int jj => (getP rp.1 rp.2).bind fun d => (anyItems d).bind fun ds => (ixN ds.length jj).map fun k => (rp.1, rp.2 ++ [k])
  | _ => none
theorem ixN_lt {n : Nat} {i : Int} {k : Nat} (h : ixN n i = some k) : k < n := (ixN_seq h).2.1
theorem atI_of {xs : List V} {n : Nat} {j : Int} {k : Nat} {v : V} (hn : xs.length = n) (h : ixN n j = some k) (hv : xs[k]? = some v) : atI xs j = some v := by
  unfold atI
  rw [hn, h]; exact hv
theorem snd_ixP (h : SndG K Γ Ek (PR K Γ i (.own c)) ta f) (hb : Snd K Γ Ek .sh tb fb) : SndG K Γ Ek (PR K Γ i c) (tOp (rIx K) ta tb) (bnd (mPair f fb) fun p => lft (ixP p.1 p.2)) := by
  refine SndG.bind (t1 := tPair ta tb) (t2 := fun p _ H Q => rIx K p.1 p.2 H Q) (SndG.pair h hb PR.mono) fun a b σ H G C o ρ Q r rel good hf hq => ?_
  obtain ⟨o1, o2, eo, ⟨v, m, h1, h2, h3, h4⟩, r2⟩ := rel
  obtain ⟨z2, q2⟩ := (R.sh_iff _).mp r2
  subst z2; subst eo
  obtain ⟨⟨root, pth⟩, j⟩ := a
  obtain ⟨w, y⟩ := b
  dsimp only at h3 h4 q2 ⊢
  have s := good.sat
  cases e : ixP (root, pth) j with
  | none => dsimp only at hf; rw [e] at hf; cases hf
  | some rp =>
    dsimp only at hf
    rw [e] at hf
    cases hf
    cases j <;> first | (cases e; done) | skip
    rename_i jj
    obtain ⟨d0, e1, e⟩ := Option.bind_eq_some_iff.mp e
    obtain ⟨ds, e4, e⟩ := Option.bind_eq_some_iff.mp e
    obtain ⟨k, e2, e3⟩ := Option.map_eq_some_iff.mp e
    subst e3
    have hkl := ixN_lt e2
    have hk : ds[k]? = some ds[k] := List.getElem?_eq_getElem hkl
    have shc : shItems d0 = some ds → rIx K w y H Q := fun hs => by
      obtain ⟨a, vs, v', ew, hm, hl, hv, foc⟩ := h4.stepS (c := c) e1 hs hk
      have fin := hq v' H G o1 (GLe.refl G) ⟨v, m, h1, h2, h3, foc⟩ (good.re (by walk_at "fle"))
      rcases hm with hm | hm
      · exact .inl ⟨a, vs, jj, v', ew, q2, s.le.sqL hm, atI_of hl e2 hv, fin⟩
      · exact .inr (.inl ⟨a, vs, jj, v', ew, q2, s.le.sqT hm, atI_of hl e2 hv, fin⟩)
    unfold anyItems at e4
    split at e4
    · cases e4
      obtain ⟨a, vs, v', ew, hm, hl, hv, foc⟩ := h4.step e1 hk
      have ha : H a = some (.lst vs) := (s.at_ (a, .lst vs) (List.mem_append_left _ (by simpa using hm))).1
      exact .inl ⟨a, vs, jj, v', ew, q2, .inl (.inl ha), atI_of hl e2 hv, hq v' H G o1 (GLe.refl G) ⟨v, m, h1, h2, h3, foc⟩ (good.re (by walk_at "fle"))⟩
    · cases e4
      obtain ⟨a, vs, v', ew, et, hl, hv, foc⟩ := h4.stepT e1 hk
      exact .inr (.inl ⟨a, vs, jj, v', ew, q2, s.le.sqT et, atI_of hl e2 hv, hq v' H G o1 (GLe.refl G) ⟨v, m, h1, h2, h3, foc⟩ (good.re (by walk_at "fle"))⟩)
    · exact shc e4
theorem dp_ix (h : DP X K Γ Ek i (.own c) a ta f) (hb : DE X K Γ Ek .sh b tb fb) (hs : PlainIx b := by exact fun _ _ => rfl) (hK : X.K = K := by rfl) : DP X K Γ Ek i c (.Subscript a b pos) (tOp (rIx K) ta tb) (bnd (mPair f fb) fun p => lft (ixP p.1 p.2)) := by subst hK; exact ⟨pe_ix ix_seq h.pe hb.pe hs, snd_ixP h.sn hb.sn⟩
/-- what stands there as something shared -/
def shOf (d : D) : Option D := match d with
  | .shd e => some e
  | d => if scal d = true then some d else none
theorem shOf_of {G : Hp} {d e : D} {m' : Md} {v : V} {o : Fg} (h : shOf d = some e) (r : R K G d m' v o) : o = [] ∧ Sh K G e v := by
  unfold shOf at h
  split at h
  · cases h; exact r
  · split at h
    · rename_i hs
      cases h
      exact (R.sh_iff _).mp (R.scal (m' := .sh) hs r)
    · cases h
/-- what stands there is shared, or no object: a value; the slot is full again -/
def mRead (i : Nat) (f : Mr (D × List Nat)) : Mr D := bnd f fun rp ρ => match getP rp.1 rp.2 with
  | some d => some (.ok (unsh d) (ρ.set i (some rp.1)))
  | none => none
theorem snd_read (h : SndG K Γ Ek (PR K Γ i .sh) t f) : Snd K Γ Ek .sh t (mRead i f) := by
  intro σ H G C ρ Q r hg hf hq
  rcases bnd_inv hf with ⟨rp, ρ1, e1, e2⟩ | ⟨x, ρ1, e1, e2⟩
  · refine h σ H G C ρ _ _ hg e1 fun w H' G' o g rel good => ?_
    obtain ⟨v, m, h1, h2, h3, d', o', rest, f1, f2, f3, f4⟩ := rel
    rw [f1] at e2
    cases e2
    obtain ⟨z, q⟩ := (R.sh_iff _).mp f2
    exact hq w H' G' [] g (R.of_sh (Sh.unsh q)) (Good.back good h3 h1 h2)
  · subst e2
    exact h σ H G C ρ _ _ hg e1 fun c dx H' G' g xr good => hq c dx H' G' g xr good
theorem de_read (h : DP X K Γ Ek i .sh e t f) : DE X K Γ Ek .sh e t (mRead i f) := ⟨h.pe, snd_read h.sn⟩
/-- .. whatever the mode there: something that is shared by now, or no object -/
def mReadU (i : Nat) (f : Mr (D × List Nat)) : Mr D := bnd f fun rp ρ => match (getP rp.1 rp.2).bind shOf with
  | some d => some (.ok d (ρ.set i (some rp.1)))
  | none => none
theorem snd_readU (h : SndG K Γ Ek (PR K Γ i m) t f) : Snd K Γ Ek .sh t (mReadU i f) := by
  intro σ H G C ρ Q r hg hf hq
  rcases bnd_inv hf with ⟨rp, ρ1, e1, e2⟩ | ⟨x, ρ1, e1, e2⟩
  · refine h σ H G C ρ _ _ hg e1 fun w H' G' o g rel good => ?_
    obtain ⟨v, m, h1, h2, h3, d', o', rest, f1, f2, f3, f4⟩ := rel
    rw [f1] at e2
    split at e2
    · rename_i d e3
      cases e2
      obtain ⟨z, q⟩ := shOf_of (show shOf d' = some d from e3) f2
      exact hq w H' G' [] g (R.of_sh q) (Good.back good h3 h1 h2)
    · cases e2
  · subst e2
    exact h σ H G C ρ _ _ hg e1 fun c dx H' G' g xr good => hq c dx H' G' g xr good
theorem de_readU (h : DP X K Γ Ek i m e t f) : DE X K Γ Ek .sh e t (mReadU i f) := ⟨h.pe, snd_readU h.sn⟩
theorem de_readS {m' : Md} (h : DP X K Γ Ek i m e t f) : DE X K Γ Ek m' e t (mScal (mReadU i f)) := (de_readU h).sc

/-! ### x[..] = v -/
def gtSub (i : Nat) (f : Mr (D × List Nat)) (fb : Mr D) (d : D) (ρ : De) : Option De := match bnd (mPair f fb) (fun p => ret p) ρ with
  | some (.ok ((root, pth), .int j) ρ2) => (match getP root pth with
    | some (.lst ds) => (ixN ds.length j).map fun k => ρ2.set i (some (setP root pth (.lst (ds.set k d))))
    | _ => none)
  | _ => none
theorem snt_sub {ti : TE} (h : SndG K Γ Ek0 (PR K Γ i (.own m)) ta f) (hb : Snd K Γ Ek0 .sh ti fb) : SndT K Γ io m (gSub ta ti rSetL) (gtSub i f fb) := by
  intro G H C o σ ρ ρ' d v Q r good e hq
  unfold gtSub at e
  split at e
  · rename_i root pth j ρ2 e1
    split at e
    · rename_i ds e2
      obtain ⟨k, e3, e4⟩ := Option.map_eq_some_iff.mp e
      subst e4
      have hb2 := SndG.pair h hb PR.mono
      have e5 : mPair f fb ρ = some (.ok ((root, pth), .int j) ρ2) := by
        rcases bnd_inv e1 with ⟨x, ρ3, a1, a2⟩ | ⟨x, ρ3, a1, a2⟩
        · cases a2; exact a1
        · cases a2
      refine hb2 σ H G (o ++ C) ρ (fun p H2 => rSetL p.1 p.2 v H2 fun H3 => Q σ H3) _ good e5 fun b H' G' o' g rel good' => ?_
      obtain ⟨o1, o2, eo, ⟨vr, mr, h1, h2, h3, foc⟩, r2⟩ := rel
      obtain ⟨z2, q2⟩ := (R.sh_iff _).mp r2
      subst z2; subst eo
      have q2 : b.2 = .int j := q2
      obtain ⟨d', od, rest, f1, f2, f3, f4⟩ := id foc
      have f1' : getP root pth = some d' := f1
      rw [e2] at f1'; cases f1'
      obtain ⟨a, vs, oc, ew, eo, rl⟩ := f2
      obtain ⟨osC, slC, s⟩ := good'.ex
      have s1 : Sat H' G' ((a, .lst vs) :: (oc ++ (rest ++ (osC.flatten ++ (o ++ C))))) := s.re fun P => by
        have := f3 P
        subst eo
        simp only [List.countP_append, List.countP_cons, List.countP_nil, List.append_nil] at this ⊢
        omega
      refine ⟨a, vs, j, k, ew, q2, s1.own, by rw [rl.len]; exact e3, ?_⟩
      obtain ⟨oc2, rl2, le2⟩ := rl.setAt k (R.mono g d r)
      obtain ⟨o3, r3, c3⟩ := f4 G' (.lst (ds.set k d)) ((a, .lst (vs.set k v)) :: oc2) (GLe.refl G') ⟨a, vs.set k v, oc2, ew, rfl, rl2⟩
      refine hq σ _ G' g (Fix.refl σ) (Good.back (o := o3) ⟨osC, slC, (s1.write (u' := .lst (vs.set k v))).re fun P => ?_⟩ r3 h1 h2)
      have x1 := c3 P
      have x2 := le2 P
      simp only [List.countP_append, List.countP_cons] at x1 x2 ⊢
      omega
    · cases e
  · cases e
theorem dg_sub {ti : TE} (h : DP X K Γ Ek0 i (.own m) a ta f) (hb : DE X K Γ Ek0 .sh b ti fb)
    (ha : ∀ v, assign (.Subscript a b pos) X.env v = (do
      let ov ← holding [v] (eval a X.env)
      let iv ← holding [v, ov] (eval b X.env)
      standAt pos
      holding [v, ov, iv] (setItem ov iv v)
      release [v, ov, iv] []) := by intro _; rfl) : DG X K Γ io m (.Subscript a b pos) (gSub ta ti rSetL) (gtSub i f fb) := ⟨pg_sub h.pe hb.pe set_list ha, snt_sub h.sn hb.sn⟩

/-! ### x[..] += v, ints -/
def mAugS (i : Nat) (g : Int → Int → Int) (f : Mr (D × List Nat)) (fb fe : Mr D) : Mr Fl := bnd (mPair f fb) fun p ρ => match p with
  | ((root, pth), .int j) => (match getP root pth with
    | some (.lst ds) => (match ixN ds.length j with
      | some k => (match ds[k]? with
        | some (.int x) => (match fe ρ with
          | some (.ok (.int y) ρ') => some (.ok .nx (ρ'.set i (some (setP root pth (.lst (ds.set k (.int (g x y))))))))
          | _ => none)
        | _ => none)
      | none => none)
    | _ => none)
  | _ => none
end
section
open PySem.Spec PyProof.Rows
theorem get_listI {X : Cx} : PGet X (rIxL X.K) := by
  intro pins s σ H x y v u Q I rx ry h
  obtain ⟨p, xs, i, z, rfl, rfl, hq, he, q⟩ := h
  cases rx
  obtain ⟨t, rfl⟩ := ry
  obtain ⟨its, r, pl, hz⟩ := I.list hq
  obtain ⟨j, h1, h2, h3, h4, h5⟩ := atI_get he
  obtain ⟨w, ew, rw'⟩ := r.get h2
  have hl := r.length
  have hn := line63
  have fin : EP X pins σ Q w s := ⟨z, H, I, rw', q⟩
  by_cases h0 : 0 ≤ i
  · have hj : i.toNat = j := by
      rw [seqIndex_of h0 h5] at h1
      exact Option.some.inj h1
    exact wpAny_getItem_list pl.isList h0 (by omega) (by rw [hj]; simpa using ew) fin
  · have hj : (i + (its.toArray.size : Int)).toNat = j := by
      rw [seqIndex_neg (by omega) h4] at h1
      rw [List.size_toArray, ← hl]
      exact Option.some.inj h1
    exact wpAny_getItem_list_neg pl.isList (by omega) (by rw [List.size_toArray] <;> omega) (by omega) (by rw [hj]; simpa using ew) fin
end
section
variable {K : PySem.W.Frag} {X : Cx} {Γ : List Md} {Ek : XK} {i : Nat} {m c rm : Md} {e a b : PySem.Expr} {t ta tb te ti to : TE} {f : Mr (D × List Nat)} {fb fe : Mr D} {pos p : Pos} {io : List Nat}
/-- an owned list within is changed: what was there, what is there now -/
theorem Foc.lst {G H : Hp} {root : D} {mr c : Md} {vr w : V} {o C : Fg} {pth : List Nat} {ds : List D} (foc : Foc K G root mr vr o pth w (.own c)) (hp : getP root pth = some (.lst ds)) (s : Sat H G (o ++ C)) :
    ∃ a vs oc, w = .ref a ∧ H a = some (.lst vs) ∧ vs.length = ds.length ∧ RL K G ds c vs oc ∧ Sat H G ((a, .lst vs) :: (oc ++ C)) ∧
      ∀ (G2 H2 : Hp) (ds2 : List D) (vs2 : List V) (oc2 C2 : Fg), GLe G G2 → RL K G2 ds2 c vs2 oc2 → (∀ rest, Sat H G ((a, .lst vs) :: (oc ++ (rest ++ C))) → Sat H2 G2 ((a, .lst vs2) :: (oc2 ++ (rest ++ C2)))) →
        ∃ o3, R K G2 (setP root pth (.lst ds2)) mr vr o3 ∧ Sat H2 G2 (o3 ++ C2) := by
  obtain ⟨d', od, rest, f1, f2, f3, f4⟩ := foc
  rw [hp] at f1; cases f1
  obtain ⟨a, vs, oc, ew, eo, rl⟩ := f2
  have s1 : Sat H G ((a, .lst vs) :: (oc ++ (rest ++ C))) := s.re fun P => by
    have := f3 P
    subst eo
    simp only [List.countP_append, List.countP_cons] at this ⊢
    omega
  refine ⟨a, vs, oc, ew, s1.own, rl.len, rl, s1.re (by walk_at "fle"), fun G2 H2 ds2 vs2 oc2 C2 g r2 k => ?_⟩
  obtain ⟨o3, r3, c3⟩ := f4 G2 (.lst ds2) ((a, .lst vs2) :: oc2) g ⟨a, vs2, oc2, ew, rfl, r2⟩
  refine ⟨o3, r3, (k rest s1).re fun P => ?_⟩
  have x1 := c3 P
  simp only [List.countP_append, List.countP_cons] at x1 ⊢
  omega
theorem snd_augS {g : Int → Int → Int} (h : SndG K Γ Ek (PR K Γ i (.own m)) to f) (hb : Snd K Γ Ek .sh ti fb) (he : Snd K Γ Ek .sh te fe) : SndS K Γ Ek rm io (tAugS to ti te (rIxL K) (ipI g) rSetL) (mAugS i g f fb fe) := by
  intro σ H G C ρ E r hg hf hq
  unfold mAugS at hf
  rcases bnd_inv hf with ⟨⟨⟨root, pth⟩, j⟩, ρ2, e3, e2⟩ | ⟨x, ρ2, e3, e2⟩
  · refine SndG.pair h hb PR.mono σ H G C ρ (fun p H2 => rIxL K p.1 p.2 H2 fun x H3 => te σ H3 fun y H4 => ipI g x y H4 fun z H5 => rSetL p.1 p.2 z H5 fun H6 => E.nx σ H6) _ hg e3 fun b H1 G1 o g1 rel good1 => ?_
    obtain ⟨o1, o2, eo, ⟨vr, mr, h1, h2, h3, foc⟩, r2⟩ := rel
    obtain ⟨z2, q2⟩ := (R.sh_iff _).mp r2
    subst z2; subst eo
    cases j <;> first | (cases e2; done) | skip
    rename_i j
    have q2 : b.2 = .int j := q2
    dsimp only at e2 foc h3
    split at e2
    · rename_i ds e7
      split at e2
      · rename_i k e8
        split at e2
        · rename_i x e9
          split at e2
          · rename_i y ρ3 e5
            cases e2
            obtain ⟨os1, sl1, s1⟩ := good1.ex
            obtain ⟨a, vs, oc, ew, ha, hl, rl, s2, upd2⟩ := foc.lst (C := os1.flatten ++ C) e7 (s1.re (by walk_at "fle"))
            obtain ⟨vx, ox, restx, k1, k2, k3, k4⟩ := rl.split e9
            have k2 : ox = [] ∧ vx = .int x := k2
            obtain ⟨rfl, rfl⟩ := k2
            refine ⟨a, vs, j, .int x, ew, q2, .inl (.inl ha), atI_of hl e8 k1, ?_⟩
            refine he σ H1 G1 (o1 ++ C) ρ2 _ _ (good1.re (by walk_at "fle")) e5 fun yv H2 G2 oy g2 ry good2 => ?_
            obtain ⟨rfl, rfl⟩ := (show oy = [] ∧ yv = .int y from ry)
            refine ⟨x, y, rfl, rfl, ?_⟩
            obtain ⟨os2, sl2, s3⟩ := good2.ex
            obtain ⟨a', vs', oc', ew', ha', hl', rl', s4, upd4⟩ := (foc.mono g2).lst (C := os2.flatten ++ C) e7 (s3.re (by walk_at "fle"))
            refine ⟨a', vs', j, k, ew', q2, ha', by rw [hl']; exact e8, ?_⟩
            obtain ⟨oc2, rl2, le2⟩ := rl'.setAt (o2 := []) (v2 := .int (g x y)) (d2 := .int (g x y)) k ⟨rfl, rfl⟩
            obtain ⟨o3, r3, s5⟩ := upd4 G2 (upd H2 a' (.lst (vs'.set k (.int (g x y))))) (ds.set k (.int (g x y))) (vs'.set k (.int (g x y))) oc2 (os2.flatten ++ C) (GLe.refl G2) rl2 fun rest s6 => (s6.write (u' := .lst (vs'.set k (.int (g x y))))).re fun P => by
              have := le2 P
              simp only [List.countP_append, List.countP_cons, List.countP_nil] at this ⊢
              omega
            exact hq σ _ G2 (g1.trans g2) (Fix.refl σ) (Good.back (o := o3) ⟨os2, sl2, s5.re (by walk_at "fle")⟩ r3 h1 h2)
          · cases e2
        · cases e2
      · cases e2
    · cases e2
  · subst e2
    exact SndG.pair h hb PR.mono σ H G C ρ (fun p H2 => rIxL K p.1 p.2 H2 fun x H3 => te σ H3 fun y H4 => ipI g x y H4 fun z H5 => rSetL p.1 p.2 z H5 fun H6 => E.nx σ H6) _ hg e3 fun c dx H' G' g' xr good => hq c dx σ H' G' g' (Fix.refl σ) xr good
theorem ds_augSub {op : Operator} {g : Int → Int → Int} {tpos : Pos} (h : DP X K Γ Ek i (.own m) a to f) (hb : DE X K Γ Ek .sh b ti fb) (he : DE X K Γ Ek .sh e te fe) (hp : PIp X op (ipI g))
    (ha : ∀ ov iv new, augStore b ov iv new = (do holding [new, ov, iv] (setItem ov iv new); release [new, ov, iv] []; pure .next) := by intros; rfl) (hK : X.K = K := by rfl) :
    DS X K Γ Ek rm io (.AugAssign (.Subscript a b tpos) op e pos) (tAugS to ti te (rIxL K) (ipI g) rSetL) (mAugS i g f fb fe) := by subst hK; exact ⟨ps_augS h.pe hb.pe get_listI he.pe hp set_list ha, snd_augS h.sn hb.sn he.sn⟩
/-- x += v, ints -/
def mAug (i : Nat) (g : Int → Int → Int) (fe : Mr D) : Mr Fl := fun ρ => match ρ[i]? with
  | some (some (.int x)) => (match fe ρ with
    | some (.ok (.int y) ρ') => some (.ok .nx (ρ'.set i (some (.int (g x y)))))
    | _ => none)
  | _ => none
theorem snd_aug {g : Int → Int → Int} (he : Snd K Γ Ek .sh te fe) (hi : i ∉ io) : SndS K Γ Ek rm io (tAug i te (ipI g)) (mAug i g fe) := by
  intro σ H G C ρ E r hg hf hq
  unfold mAug at hf
  split at hf
  · rename_i x e1
    split at hf
    · rename_i y ρ' e2
      cases hf
      obtain ⟨v, m, o, h1, h2, h3, h4⟩ := hg.take e1
      obtain ⟨rfl, rfl⟩ := (show o = [] ∧ v = .int x from h3)
      refine ⟨.int x, h1, he σ H G C ρ _ _ hg e2 fun yv H2 G2 oy g2 ry good2 => ?_⟩
      obtain ⟨rfl, rfl⟩ := (show oy = [] ∧ yv = .int y from ry)
      exact ⟨x, y, rfl, rfl, hq _ H2 G2 g2 (Fix.set hi) (Good.put (o := []) good2 ⟨rfl, rfl⟩ h2)⟩
    · cases hf
  · cases hf
theorem ds_aug (i : Nat) {x : Str} {op : Operator} {g : Int → Int → Int} {pos' : Pos} (nd : X.N.Nodup) (he : DE X K Γ Ek .sh e te fe) (hp : PIp X op (ipI g)) (hi : X.N[i]? = some x := by rfl) (hx : Loc X.env.scope x := by first | exact Or.inl rfl | exact Or.inr rfl) (hio : i ∉ io := by decide)
    (hf : X.fn x = true ∨ X.env.scope.names.lookup x = some .local := by first | exact .inl rfl | exact .inr rfl) : DS X K Γ Ek rm io (.AugAssign (.Name x pos') op e pos) (tAug i te (ipI g)) (mAug i g fe) := ⟨ps_aug nd hi hx he.pe hp hf, snd_aug he.sn hio⟩

/-! ### x.append(v) -/
def mApp (i : Nat) (f : Mr (D × List Nat)) (fe : Mr (List D)) : Mr D := bnd f fun rp ρ => match getP rp.1 rp.2 with
  | some (.lst ds) => (match fe ρ with
    | some (.ok [d] ρ') => if ds.length < lim then some (.ok .non (ρ'.set i (some (setP rp.1 rp.2 (.lst (ds ++ [d])))))) else none
    | _ => none)
  | _ => none
theorem foc_ty {G H : Hp} {root : D} {mr c : Md} {vr w : V} {o C : Fg} {pth : List Nat} (foc : Foc K G root mr vr o pth w (.own c)) (s : Sat H G (o ++ C)) (ds : List D) (hp : getP root pth = some (.lst ds)) : tyV K "list" w H := by
  obtain ⟨a, vs, oc, ew, ha, _⟩ := foc.lst hp s
  subst ew
  exact .inl ⟨rfl, vs, .inl (.inl ha)⟩
theorem snd_app {tr : TA} {fr : Mr (List D)} (h : SndG K Γ Ek (PR K Γ i (.own m)) to f) (he : SndG K Γ Ek (RA K Γ [.v m]) tr fr) : Snd K Γ Ek c (tBM K "list" rAppend to tr) (mApp i f fr) := by
  intro σ H G C ρ Q r hg hf hq
  unfold mApp at hf
  rcases bnd_inv hf with ⟨⟨root, pth⟩, ρ1, e4, e2⟩ | ⟨x, ρ1, e4, e2⟩
  · dsimp only at e2
    split at e2
    · rename_i ds e8
      split at e2
      · rename_i d ρ2 e6
        split at e2
        · rename_i hlim
          cases e2
          refine h σ H G C ρ _ _ hg e4 fun w H1 G1 o1 g1 rel good1 => ?_
          obtain ⟨vr, mr, h1, h2, h3, foc⟩ := rel
          refine ⟨foc_ty foc good1.sat ds e8, ?_⟩
          refine he σ H1 G1 (o1 ++ C) ρ1 _ _ good1 e6 fun vs1 H2 G2 oy g2 ry good2 => ?_
          obtain ⟨d', dr, y, vr', o3, o4, z1, z2, z3, ry, z4, z5, z6⟩ := ry
          cases z1
          subst z5; subst z2; subst z6; subst z3
          obtain ⟨os2, sl2, s3⟩ := good2.ex
          obtain ⟨a, vs, oc, ew, ha, hl, rl, s4, upd4⟩ := (foc.mono g2).lst (C := os2.flatten ++ (o3 ++ C)) e8 (s3.re (by walk_at "fle"))
          refine ⟨a, vs, y, ew, rfl, ha, by rw [hl, ← lim_eq]; exact hlim, ?_⟩
          obtain ⟨o5, r5, s5⟩ := upd4 G2 (upd H2 a (.lst (vs ++ [y]))) (ds ++ [d]) (vs ++ [y]) (oc ++ (o3 ++ [])) (os2.flatten ++ C) (GLe.refl G2) (RL.append rl ⟨y, [], o3, [], rfl, rfl, ry, rfl, rfl⟩) fun rest s6 => (s6.write (u' := .lst (vs ++ [y]))).re (by walk_at "fle")
          exact hq .non _ G2 [] (g1.trans g2) ⟨rfl, rfl⟩ (Good.back (o := o5) ⟨os2, sl2, s5.re (by walk_at "fle")⟩ r5 h1 h2)
        · cases e2
      · cases e2
    · cases e2
  · subst e2
    exact h σ H G C ρ _ _ hg e4 fun c dx H' G' g' xr good => hq c dx H' G' g' xr good
theorem de_app {apos cpos : Pos} {tr : TA} {fr : Mr (List D)} (h : DP X K Γ Ek i (.own m) a to f) (he : DA X K Γ Ek [.v m] [e] tr fr) (hbase : attributeBase a "append" X.env (eval a X.env) = eval a X.env := by rfl)
    (hfew : ((backTo cpos (starEach [e] X.env)).all (fun x => !x.1) && (backToKw cpos (keywordEach [] X.env)).all (fun x => x.1.isSome) && decide ([e].length + ([] : List Keyword).length + (if ([] : List Keyword).isEmpty then 0 else 1) < 30)) = true := by rfl)
    (hline : (apos.endLine == cpos.line) = true := by rfl) (hs : starEach [e] X.env = (false, eval e X.env) :: starEach [] X.env := by rfl) (hplain : (backTo cpos (starEach [] X.env)).any (·.1) = false := by rfl) (hK : X.K = K := by rfl) :
    DE X K Γ Ek c (.Call (.Attribute a "append" apos) [e] [] cpos) (tBM K "list" rAppend to tr) (mApp i f fr) := by subst hK; exact ⟨pe_bm PySem.F.plainAttrs_list PySem.F.slot_list_append PySem.F.type_list_append mt_append h.pe he.pa hbase hfew hline hs hplain, snd_app h.sn he.sn⟩

/-! ### x.pop(), x.pop(k) -/
theorem RL.drop_at : ∀ {ds : List D} {c : Md} {vs : List V} {o : Fg} {k : Nat} {d : D}, RL K G ds c vs o → ds[k]? = some d → ∃ (v : V) (o' rest : Fg), vs[k]? = some v ∧ R K G d c v o' ∧ RL K G (ds.eraseIdx k) c (vs.eraseIdx k) rest ∧ ∀ P, o.countP P = o'.countP P + rest.countP P
  | [], _, _, _, _, _, _, h => by simp at h
  | d :: ds, c, _, _, 0, d', ⟨v, r, o1, o2, e, e2, q, t⟩, h => by
    simp at h; subst h; subst e; subst e2
    exact ⟨v, o1, o2, rfl, q, t, fun P => List.countP_append⟩
  | d :: ds, c, _, _, k + 1, d', ⟨v, r, o1, o2, e, e2, q, t⟩, h => by
    subst e; subst e2
    obtain ⟨v', o', rest, h1, h2, h3, h4⟩ := RL.drop_at (k := k) t (by simpa using h)
    exact ⟨v', o', o1 ++ rest, by simpa using h1, h2, ⟨v, r.eraseIdx k, o1, rest, rfl, rfl, q, h3⟩, fun P => by have := h4 P; simp only [List.countP_append]; omega⟩
/-- the place that pop takes -/
def popIx (n : Nat) : List D → Option Nat
  | [] => if n = 0 then none else some (n - 1)
  | [.int j] => if ok62 j = true then ixN n j else none
  | _ => none
def mPop (i : Nat) (f : Mr (D × List Nat)) (fe : Mr (List D)) : Mr D := bnd f fun rp ρ => match getP rp.1 rp.2 with
  | some (.lst ds) => (match fe ρ with
    | some (.ok as ρ') => (match popIx ds.length as with
      | some k => (match ds[k]? with
        | some d => some (.ok d (ρ'.set i (some (setP rp.1 rp.2 (.lst (ds.eraseIdx k))))))
        | none => none)
      | none => none)
    | _ => none)
  | _ => none
def rPopA : V → List V → Hp → VK → Prop := fun x vs H Q => rPop x vs H Q ∨ rPopAt x vs H Q
theorem mt_popA {X : Cx} : MtM X "list.pop" rPopA := by
  intro pins s σ H x vs v us Q I rx rv h
  rcases h with h | h
  · exact mt_pop pins s σ H x vs v us Q I rx rv h
  · exact mt_popAt pins s σ H x vs v us Q I rx rv h
theorem snd_pop {ks : List AK} {tr : TA} {fr : Mr (List D)} (h : SndG K Γ Ek (PR K Γ i (.own m)) to f) (he : SndG K Γ Ek (RA K Γ ks) tr fr) (hk : ∀ k ∈ ks, isV .sh k) : Snd K Γ Ek m (tBM K "list" rPopA to tr) (mPop i f fr) := by
  intro σ H G C ρ Q r hg hf hq
  unfold mPop at hf
  rcases bnd_inv hf with ⟨⟨root, pth⟩, ρ1, e4, e2⟩ | ⟨x, ρ1, e4, e2⟩
  · dsimp only at e2
    split at e2
    · rename_i ds0 e8
      split at e2
      · rename_i as ρ2 e6
        split at e2
        · rename_i k e9
          split at e2
          · rename_i d e10
            cases e2
            refine h σ H G C ρ _ _ hg e4 fun w H1 G1 o1 g1 rel good1 => ?_
            obtain ⟨vr, mr, h1, h2, h3, foc⟩ := rel
            refine ⟨foc_ty foc good1.sat ds0 e8, ?_⟩
            refine he σ H1 G1 (o1 ++ C) ρ1 _ _ good1 e6 fun vs1 H2 G2 oy g2 ry good2 => ?_
            obtain ⟨z, qy⟩ := ra_sh ry hk
            subst z
            obtain ⟨os2, sl2, s3⟩ := good2.ex
            obtain ⟨a, vs, oc, ew, ha, hl, rl, s4, upd4⟩ := (foc.mono g2).lst (C := os2.flatten ++ C) e8 (s3.re (by walk_at "fle"))
            obtain ⟨v, ov, rest, k1, k2, k3, k4⟩ := rl.drop_at e10
            obtain ⟨o5, r5, s5⟩ := upd4 G2 (upd H2 a (.lst (vs.eraseIdx k))) (ds0.eraseIdx k) (vs.eraseIdx k) rest (ov ++ (os2.flatten ++ C)) (GLe.refl G2) k3 fun rest' s6 => (s6.write (u' := .lst (vs.eraseIdx k))).re fun P => by
              have := k4 P
              simp only [List.countP_append, List.countP_cons] at this ⊢
              omega
            have fin : Q v (upd H2 a (.lst (vs.eraseIdx k))) := hq v _ G2 ov (g1.trans g2) k2 (Good.back (o := o5) ⟨os2, sl2, s5.re (by walk_at "fle")⟩ r5 h1 h2)
            have hkl : k < ds0.length := (List.getElem?_eq_some_iff.mp e10).1
            unfold popIx at e9
            split at e9
            · split at e9
              · cases e9
              · cases e9
                refine .inl ⟨a, vs, v, ew, show vs1 = [] from qy, ha, by rw [hl]; exact k1, ?_⟩
                have ee : vs.eraseIdx (ds0.length - 1) = vs.dropLast := by
                  rw [← hl, List.eraseIdx_eq_dropLast]
                  omega
                rw [← ee]; exact fin
            · rename_i j
              split at e9
              · rename_i h62
                obtain ⟨b1, b2⟩ := ok62_mp h62
                obtain ⟨u1, u2, u3, u4⟩ := ixN_seq e9
                exact .inr ⟨a, vs, j, k, v, ew, shl1 qy, ha, by omega, by omega, by rw [hl]; exact u1, k1, fin⟩
              · cases e9
            · cases e9
          · cases e2
        · cases e2
      · cases e2
    · cases e2
  · subst e2
    exact h σ H G C ρ _ _ hg e4 fun c dx H' G' g' xr good => hq c dx H' G' g' xr good
theorem de_pop {apos cpos : Pos} {es : List PySem.Expr} {ks : List AK} {tr : TA} {fr : Mr (List D)} (h : DP X K Γ Ek i (.own m) a to f) (he : DA X K Γ Ek ks (e :: es) tr fr) (hk : ks = List.replicate (es.length + 1) (.v .sh) := by rfl) (hbase : attributeBase a "pop" X.env (eval a X.env) = eval a X.env := by rfl)
    (hfew : ((backTo cpos (starEach (e :: es) X.env)).all (fun x => !x.1) && (backToKw cpos (keywordEach [] X.env)).all (fun x => x.1.isSome) && decide ((e :: es).length + ([] : List Keyword).length + (if ([] : List Keyword).isEmpty then 0 else 1) < 30)) = true := by rfl)
    (hline : (apos.endLine == cpos.line) = true := by rfl) (hs : starEach (e :: es) X.env = (false, eval e X.env) :: starEach es X.env := by rfl) (hplain : (backTo cpos (starEach es X.env)).any (·.1) = false := by rfl) (hK : X.K = K := by rfl) :
    DE X K Γ Ek m (.Call (.Attribute a "pop" apos) (e :: es) [] cpos) (tBM K "list" rPopA to tr) (mPop i f fr) := by subst hK; exact ⟨pe_bm PySem.F.plainAttrs_list PySem.F.slot_list_pop PySem.F.type_list_pop mt_popA h.pe he.pa hbase hfew hline hs hplain, snd_pop h.sn he.sn (isV_rep hk)⟩
theorem de_pop0 {apos cpos : Pos} (h : DP X K Γ Ek i (.own m) a to f) (hbase : attributeBase a "pop" X.env (eval a X.env) = eval a X.env := by rfl) (hline : (apos.endLine == cpos.line) = true := by rfl) (hK : X.K = K := by rfl) :
    DE X K Γ Ek m (.Call (.Attribute a "pop" apos) [] [] cpos) (tBM0 K "list" rPopA to) (mPop i f mNil) := by subst hK; exact ⟨pe_bm0 PySem.F.plainAttrs_list PySem.F.slot_list_pop PySem.F.type_list_pop mt_popA h.pe hbase hline, snd_pop (tr := tNil) (ks := []) h.sn (da_nil (X := X)).sn (by simp)⟩

/-! ### reading an owned thing as a whole: len, truth, == -/
def mLen (i : Nat) (f : Mr (D × List Nat)) : Mr D := bnd f fun rp ρ => match getP rp.1 rp.2 with
  | some d => (match anyItems d with
    | some ds => some (.ok (.int ds.length) (ρ.set i (some rp.1)))
    | none => none)
  | none => none
theorem snd_len {r : List V → Hp → VK → Prop} (h : SndG K Γ Ek (PR K Γ i m) to f) (hr : ∀ w H Q n, LenV K w H n → Q (.int (n : Nat)) H → r [w] H Q) : Snd K Γ Ek c (tCB r (tCons to tNil)) (mLen i f) := by
  intro σ H G C ρ Q r' hg hf hq
  rcases bnd_inv hf with ⟨⟨root, pth⟩, ρ1, e4, e2⟩ | ⟨x, ρ1, e4, e2⟩
  · refine h σ H G C ρ _ _ hg e4 fun w H1 G1 o1 g1 rel good1 => ?_
    obtain ⟨vr, mr, h1, h2, h3, foc⟩ := rel
    obtain ⟨d', o', rest, f1, f2, f3, f4⟩ := id foc
    have s := good1.sat
    dsimp only at e2 f1 h3 foc
    rw [f1] at e2
    have fin : ∀ n : Nat, r' = .ok (.int n) (ρ1.set i (some root)) → Q (.int n) H1 := fun n e => by
      subst e
      exact hq (.int n) H1 G1 [] g1 ⟨rfl, rfl⟩ (Good.back good1 h3 h1 h2)
    dsimp only at e2
    split at e2
    · rename_i ds e5
      cases e2
      refine hr w H1 Q ds.length ?_ (fin _ rfl)
      have shc : shItems d' = some ds → LenV K w H1 ds.length := fun hs => by
        obtain ⟨z, a, vs, e, ew, hq', r, _⟩ := shItems_of hs f2
        subst ew
        rcases hq' with hq' | hq'
        · exact .inl ⟨vs, s.le.sqL hq', r.len.symm⟩
        · exact .inr ⟨vs, s.le.sqT hq', r.len.symm⟩
      unfold anyItems at e5
      split at e5
      · cases e5
        cases m with
        | sh =>
          obtain ⟨z, a, vs, ew, e5, r⟩ := f2
          subst ew
          exact .inl ⟨vs, .inl (.inl (s.le _ _ e5)), r.len.symm⟩
        | own c =>
          obtain ⟨a, vs, oc, ew, ha, hl, rl, _⟩ := foc.lst f1 s
          subst ew
          exact .inl ⟨vs, .inl (.inl ha), hl.symm⟩
      · cases e5
        cases m with
        | sh =>
          obtain ⟨z, a, vs, ew, e5, r⟩ := f2
          subst ew
          exact .inr ⟨vs, s.le.sqT e5, r.len.symm⟩
        | own c =>
          obtain ⟨a, vs, ew, e5, r⟩ := f2
          subst ew
          exact .inr ⟨vs, s.le.sqT e5, r.len.symm⟩
      · exact shc e5
    · cases e2
  · subst e2
    exact h σ H G C ρ _ _ hg e4 fun c dx H' G' g xr good => hq c dx H' G' g xr good
theorem de_lenP {p : Pos} (hm : X.mg "len" = none) (h : DP X K Γ Ek i m a to f) (hg : Gl X "len" := by rfl) (he : starEach [a] X.env = (false, eval a X.env) :: starEach [] X.env := by rfl) (hpl : (backTo pos (starEach [] X.env)).any (·.1) = false := by rfl) (hK : X.K = K := by rfl) :
    DE X K Γ Ek c (.Call (.Name "len" p) [a] [] pos) (tCB (fun xs H Q => ∃ x n, xs = [x] ∧ LenV K x H n ∧ Q (.int n) H) (tCons to tNil)) (mLen i f) := by subst hK; exact ⟨pe_callB call_len hg hm boot_len (pa_cons h.pe pa_nil he) (by decide) (by decide) he hpl, snd_len h.sn fun w H Q n hl q => ⟨w, n, rfl, hl, q⟩⟩
end
end Dl
/-! Dl, eleventh part: built-in functions. -/
namespace Dl
open PySem L2
local macro_rules | `(tactic| walk_at "fle") => `(tactic| (intro P; simp only [List.countP_append, List.countP_cons, List.countP_nil, List.append_nil, List.nil_append]; first | omega | (split <;> omega)))
section
variable {K : PySem.W.Frag} {X : Cx} {m : Md} {G H : Hp}
theorem shl_one {d : D} {vs : List V} (h : ShL K G [d] vs) : ∃ v, vs = [v] ∧ Sh K G d v := by
  obtain ⟨v, r, e, q, t⟩ := h
  exact ⟨v, by rw [e, show r = [] from t], q⟩
theorem shl_two {d e : D} {vs : List V} (h : ShL K G [d, e] vs) : ∃ v w, vs = [v, w] ∧ Sh K G d v ∧ Sh K G e w := by
  obtain ⟨v, r, e, q, t⟩ := h
  obtain ⟨w, e2, q2⟩ := shl_one t
  exact ⟨v, w, by rw [e, e2], q, q2⟩
/-- all intsD -/
def intsD : List D → Option (List Int)
  | [] => some []
  | .int i :: r => (intsD r).map (i :: ·)
  | _ => none
theorem intsD_of : ∀ {ds : List D} {ns : List Int} {vs : List V}, intsD ds = some ns → ShL K G ds vs → vs = ns.map V.int
  | [], _, _, h, e => by cases h; exact e
  | d :: ds, ns, vs, h, ⟨v, r, e, q, t⟩ => by
    cases d <;> first | (cases h; done) | skip
    rename_i i
    obtain ⟨ms, h1, h2⟩ := Option.map_eq_some_iff.mp h
    subst h2; subst e
    rw [intsD_of h1 t, show v = .int i from q]; rfl
def boolsD : List D → Option (List Bool)
  | [] => some []
  | .bl i :: r => (boolsD r).map (i :: ·)
  | _ => none
theorem boolsD_of : ∀ {ds : List D} {ns : List Bool} {vs : List V}, boolsD ds = some ns → ShL K G ds vs → vs = ns.map V.bl
  | [], _, _, h, e => by cases h; exact e
  | d :: ds, ns, vs, h, ⟨v, r, e, q, t⟩ => by
    cases d <;> first | (cases h; done) | skip
    rename_i i
    obtain ⟨ms, h1, h2⟩ := Option.map_eq_some_iff.mp h
    subst h2; subst e
    rw [boolsD_of h1 t, show v = .bl i from q]; rfl

def bLen : List D → Option D
  | [.lst xs] => some (.int xs.length)
  | [.frl xs] => some (.int xs.length)
  | [.tup xs] => some (.int xs.length)
  | [.str x] => if x.length ≤ lim then some (.int x.length) else none
  | [.dK ks _] => some (.int ks.length)
  | _ => none
def rLenA (K : PySem.W.Frag) : List V → Hp → VK → Prop := fun xs H Q => (∃ x n, xs = [x] ∧ LenV K x H n ∧ Q (.int (n : Nat)) H) ∨ ∃ a kvs, xs = [V.ref a] ∧ H a = some (.dK kvs) ∧ Q (.int (kvs.length : Nat)) H
theorem b_len (hK : X.K = K := by rfl) : CallR X (.builtin "len") (rLenA K) ∧ VOpL K m (rLenA K) bLen := by subst hK; exact ⟨call_len.or call_lenD, by
  intro G H C vs ds d Q hx s hg hq
  unfold bLen at hg
  split at hg
  · cases hg
    obtain ⟨v, e, a, us, e1, e2, r⟩ := shl_one hx
    subst e; subst e1
    exact .inl ⟨_, us.length, rfl, .inl ⟨us, .inl (.inl (s.le _ _ e2)), rfl⟩, hq _ H G [] (GLe.refl G) ⟨rfl, by rw [r.len]⟩ s⟩
  · cases hg
    obtain ⟨v, e, a, us, e1, e2, r⟩ := shl_one hx
    subst e; subst e1
    exact .inl ⟨_, us.length, rfl, .inl ⟨us, s.le.sqL e2, rfl⟩, hq _ H G [] (GLe.refl G) ⟨rfl, by rw [r.len]⟩ s⟩
  · cases hg
    obtain ⟨v, e, a, us, e1, e2, r⟩ := shl_one hx
    subst e; subst e1
    exact .inl ⟨_, us.length, rfl, .inr ⟨us, s.le.sqT e2, rfl⟩, hq _ H G [] (GLe.refl G) ⟨rfl, by rw [r.len]⟩ s⟩
  · split at hg
    · rename_i x hl
      cases hg
      obtain ⟨v, e, q⟩ := shl_one hx
      subst e
      exact .inl ⟨v, x.length, rfl, by rw [show v = .str x from q]; exact ⟨by rw [← lim_eq]; exact hl, rfl⟩, hq _ H G [] (GLe.refl G) ⟨rfl, rfl⟩ s⟩
    · cases hg
  · rename_i ks xs
    cases hg
    obtain ⟨v, e, a, us, e1, e2, l, r⟩ := shl_one hx
    subst e; subst e1
    exact .inr ⟨a, ks.zip us, rfl, s.le _ _ e2, hq _ H G [] (GLe.refl G) ⟨rfl, by rw [List.length_zip, l, Nat.min_self]⟩ s⟩
  · cases hg⟩
def bAbs : List D → Option D
  | [.int i] => some (.int (if i < 0 then -i else i))
  | _ => none
theorem b_abs : CallR X (.builtin "abs") (fun xs H Q => ∃ i, xs = [.int i] ∧ Q (.int (if i < 0 then -i else i)) H) ∧ VOpL K m (fun xs H Q => ∃ i, xs = [.int i] ∧ Q (.int (if i < 0 then -i else i)) H) bAbs := ⟨call_abs, by
  intro G H C vs ds d Q hx s hg hq
  unfold bAbs at hg
  split at hg
  · cases hg
    exact ⟨_, shl1 hx, hq _ H G [] (GLe.refl G) ⟨rfl, rfl⟩ s⟩
  · cases hg⟩
def maxI (ns : List Int) : Option Int := match ns with
  | [] => none
  | n :: r => some (r.foldl (fun a b => if b > a then b else a) n)
def minI (ns : List Int) : Option Int := match ns with
  | [] => none
  | n :: r => some (r.foldl (fun a b => if b < a then b else a) n)
theorem maxI_spec {ns : List Int} {m : Int} (h : maxI ns = some m) : m ∈ ns ∧ ∀ y ∈ ns, y ≤ m := by
  cases ns with
  | nil => cases h
  | cons n r =>
    cases h
    have key : ∀ (r : List Int) (n : Int), (r.foldl (fun a b => if b > a then b else a) n = n ∨ r.foldl (fun a b => if b > a then b else a) n ∈ r) ∧ n ≤ r.foldl (fun a b => if b > a then b else a) n ∧ ∀ y ∈ r, y ≤ r.foldl (fun a b => if b > a then b else a) n := by
      intro r
      induction r with
      | nil => intro n; exact ⟨.inl rfl, Int.le_refl n, fun y hy => nomatch hy⟩
      | cons b r ih =>
        intro n
        rw [List.foldl_cons]
        obtain ⟨h1, h2, h3⟩ := ih (if b > n then b else n)
        refine ⟨?_, ?_, fun y hy => ?_⟩
        · rcases h1 with h1 | h1
          · rw [h1]; split
            · exact .inr List.mem_cons_self
            · exact .inl rfl
          · exact .inr (List.mem_cons_of_mem _ h1)
        · refine Int.le_trans ?_ h2
          split <;> omega
        · rcases List.mem_cons.mp hy with e | hy
          · subst e; refine Int.le_trans ?_ h2; split <;> omega
          · exact h3 y hy
    obtain ⟨h1, h2, h3⟩ := key r n
    refine ⟨?_, fun y hy => ?_⟩
    · rcases h1 with h1 | h1
      · rw [h1]; exact List.mem_cons_self
      · exact List.mem_cons_of_mem _ h1
    · rcases List.mem_cons.mp hy with e | hy
      · rw [e]; exact h2
      · exact h3 y hy
theorem minI_spec {ns : List Int} {m : Int} (h : minI ns = some m) : m ∈ ns ∧ ∀ y ∈ ns, m ≤ y := by
  cases ns with
  | nil => cases h
  | cons n r =>
    cases h
    have key : ∀ (r : List Int) (n : Int), (r.foldl (fun a b => if b < a then b else a) n = n ∨ r.foldl (fun a b => if b < a then b else a) n ∈ r) ∧ r.foldl (fun a b => if b < a then b else a) n ≤ n ∧ ∀ y ∈ r, r.foldl (fun a b => if b < a then b else a) n ≤ y := by
      intro r
      induction r with
      | nil => intro n; exact ⟨.inl rfl, Int.le_refl n, fun y hy => nomatch hy⟩
      | cons b r ih =>
        intro n
        rw [List.foldl_cons]
        obtain ⟨h1, h2, h3⟩ := ih (if b < n then b else n)
        refine ⟨?_, ?_, fun y hy => ?_⟩
        · rcases h1 with h1 | h1
          · rw [h1]; split
            · exact .inr List.mem_cons_self
            · exact .inl rfl
          · exact .inr (List.mem_cons_of_mem _ h1)
        · refine Int.le_trans h2 ?_
          split <;> omega
        · rcases List.mem_cons.mp hy with e | hy
          · subst e; refine Int.le_trans h2 ?_; split <;> omega
          · exact h3 y hy
    obtain ⟨h1, h2, h3⟩ := key r n
    refine ⟨?_, fun y hy => ?_⟩
    · rcases h1 with h1 | h1
      · rw [h1]; exact List.mem_cons_self
      · exact List.mem_cons_of_mem _ h1
    · rcases List.mem_cons.mp hy with e | hy
      · rw [e]; exact h2
      · exact h3 y hy
def seqOf : D → Option (List D)
  | .lst xs => some xs
  | .frl xs => some xs
  | .tup xs => some xs
  | _ => none
def bMax : List D → Option D
  | [.int i, .int j] => some (.int (if j > i then j else i))
  | [d] => (dSeqL d).bind fun xs => (intsD xs).bind fun ns => (maxI ns).map .int
  | _ => none
def bMin : List D → Option D
  | [.int i, .int j] => some (.int (if j < i then j else i))
  | [d] => (dSeqL d).bind fun xs => (intsD xs).bind fun ns => (minI ns).map .int
  | _ => none
def rMaxA (K : PySem.W.Frag) : List V → Hp → VK → Prop := fun xs H Q => (∃ i j, xs = [.int i, .int j] ∧ Q (.int (if j > i then j else i)) H) ∨ rMax K xs H Q
def rMinA (K : PySem.W.Frag) : List V → Hp → VK → Prop := fun xs H Q => (∃ i j, xs = [.int i, .int j] ∧ Q (.int (if j < i then j else i)) H) ∨ rMin K xs H Q
theorem b_max (hc : X.calm = true) (hK : X.K = K := by rfl) : CallR X (.builtin "max") (rMaxA K) ∧ VOpL K m (rMaxA K) bMax := by subst hK; exact ⟨(call_max2 hc).or (cr_max hc), by
  intro G H C vs ds d Q hx s hg hq
  unfold bMax at hg
  split at hg
  · cases hg
    exact .inl ⟨_, _, shl2 hx, hq _ H G [] (GLe.refl G) ⟨rfl, rfl⟩ s⟩
  · rename_i d0
    obtain ⟨xs, e1, hg⟩ := Option.bind_eq_some_iff.mp hg
    obtain ⟨ns, e2, hg⟩ := Option.bind_eq_some_iff.mp hg
    obtain ⟨mm, e3, e4⟩ := Option.map_eq_some_iff.mp hg
    subst e4
    obtain ⟨v, e, q⟩ := shl_one hx
    obtain ⟨a, us, e5, e6, r⟩ := dSeqL_of (H := H) e1 q
    have e7 := intsD_of e2 r
    subst e; subst e5; subst e7
    obtain ⟨h1, h2⟩ := maxI_spec e3
    refine .inr ⟨a, ns, rfl, s.le.sqL e6, List.length_pos_of_mem h1, fun m' hm hle => ?_⟩
    have : m' = mm := Int.le_antisymm (h2 m' hm) (hle mm h1)
    subst this
    exact hq _ H G [] (GLe.refl G) ⟨rfl, rfl⟩ s
  · cases hg⟩
theorem b_min (hc : X.calm = true) (hK : X.K = K := by rfl) : CallR X (.builtin "min") (rMinA K) ∧ VOpL K m (rMinA K) bMin := by subst hK; exact ⟨(call_min2 hc).or (cr_min hc), by
  intro G H C vs ds d Q hx s hg hq
  unfold bMin at hg
  split at hg
  · cases hg
    exact .inl ⟨_, _, shl2 hx, hq _ H G [] (GLe.refl G) ⟨rfl, rfl⟩ s⟩
  · rename_i d0
    obtain ⟨xs, e1, hg⟩ := Option.bind_eq_some_iff.mp hg
    obtain ⟨ns, e2, hg⟩ := Option.bind_eq_some_iff.mp hg
    obtain ⟨mm, e3, e4⟩ := Option.map_eq_some_iff.mp hg
    subst e4
    obtain ⟨v, e, q⟩ := shl_one hx
    obtain ⟨a, us, e5, e6, r⟩ := dSeqL_of (H := H) e1 q
    have e7 := intsD_of e2 r
    subst e; subst e5; subst e7
    obtain ⟨h1, h2⟩ := minI_spec e3
    refine .inr ⟨a, ns, rfl, s.le.sqL e6, List.length_pos_of_mem h1, fun m' hm hle => ?_⟩
    have : m' = mm := Int.le_antisymm (hle mm h1) (h2 m' hm)
    subst this
    exact hq _ H G [] (GLe.refl G) ⟨rfl, rfl⟩ s
  · cases hg⟩
def bInt : List D → Option D
  | [.int i] => some (.int i)
  | [.bl k] => some (.int (if k then 1 else 0))
  | _ => none
theorem b_int : CallR X (.type "int") (fun xs H Q => (∃ i, xs = [.int i] ∧ Q (.int i) H) ∨ ∃ k, xs = [.bl k] ∧ Q (.int (if k then 1 else 0)) H) ∧ VOpL K m (fun xs H Q => (∃ i, xs = [.int i] ∧ Q (.int i) H) ∨ ∃ k, xs = [.bl k] ∧ Q (.int (if k then 1 else 0)) H) bInt := ⟨call_int1, by
  intro G H C vs ds d Q hx s hg hq
  unfold bInt at hg
  split at hg
  · cases hg
    exact .inl ⟨_, shl1 hx, hq _ H G [] (GLe.refl G) ⟨rfl, rfl⟩ s⟩
  · cases hg
    obtain ⟨v, e, q⟩ := shl_one hx
    exact .inr ⟨_, by rw [e, show v = .bl _ from q], hq _ H G [] (GLe.refl G) ⟨rfl, rfl⟩ s⟩
  · cases hg⟩
def bList : List D → Option D
  | [.lst xs] => some (.lst xs)
  | [.frl xs] => some (.lst xs)
  | [.tup xs] => some (.lst xs)
  | _ => none
theorem b_list (hK : X.K = K := by rfl) : CallR X (.type "list") (fun xs H Q => ∃ p ys, xs = [.ref p] ∧ (SqL K H p ys ∨ SqT K H p ys) ∧ ∀ l, H l = none → Q (.ref l) (upd H l (.lst ys))) ∧ VOpL K (.own .sh) (fun xs H Q => ∃ p ys, xs = [.ref p] ∧ (SqL K H p ys ∨ SqT K H p ys) ∧ ∀ l, H l = none → Q (.ref l) (upd H l (.lst ys))) bList := by subst hK; exact ⟨call_list_of, by
  intro G H C vs ds d Q hx s hg hq
  unfold bList at hg
  split at hg
  · cases hg
    obtain ⟨v, e, a, us, e1, e2, r⟩ := shl_one hx
    subst e; subst e1
    exact ⟨a, us, rfl, .inl (.inl (.inl (s.le _ _ e2))), fun l hl => hq _ _ G _ (GLe.refl G) ⟨l, us, [], rfl, rfl, (RL.sh_iff _).mpr ⟨rfl, r⟩⟩ (s.newO hl)⟩
  · cases hg
    obtain ⟨v, e, a, us, e1, e2, r⟩ := shl_one hx
    subst e; subst e1
    exact ⟨a, us, rfl, .inl (s.le.sqL e2), fun l hl => hq _ _ G _ (GLe.refl G) ⟨l, us, [], rfl, rfl, (RL.sh_iff _).mpr ⟨rfl, r⟩⟩ (s.newO hl)⟩
  · cases hg
    obtain ⟨v, e, a, us, e1, e2, r⟩ := shl_one hx
    subst e; subst e1
    exact ⟨a, us, rfl, .inr (s.le.sqT e2), fun l hl => hq _ _ G _ (GLe.refl G) ⟨l, us, [], rfl, rfl, (RL.sh_iff _).mpr ⟨rfl, r⟩⟩ (s.newO hl)⟩
  · cases hg⟩
def bTuple : List D → Option D
  | [.lst xs] => some (.tup xs)
  | [.frl xs] => some (.tup xs)
  | [.tup xs] => some (.tup xs)
  | _ => none
def rTupA (K : PySem.W.Frag) : List V → Hp → VK → Prop := fun xs H Q => ∃ p ys, xs = [.ref p] ∧ ((SqL K H p ys ∧ ∀ l, H l = none → Q (.ref l) (upd H l (.tup ys))) ∨ (SqT K H p ys ∧ Q (.ref p) H))
theorem b_tuple (hK : X.K = K := by rfl) : CallR X (.type "tuple") (rTupA K) ∧ VOpL K (.own .sh) (rTupA K) bTuple := by subst hK; exact ⟨call_tuple_of, by
  intro G H C vs ds d Q hx s hg hq
  have new : ∀ (us : List V) (xs : List D) l, ShL X.K G xs us → H l = none → (∀ v H' G' o', GLe G G' → R X.K G' (.tup xs) (.own .sh) v o' → Sat H' G' (o' ++ C) → Q v H') → Q (.ref l) (upd H l (.tup us)) := fun us xs l r hl hq => by
    obtain ⟨s', g'⟩ := s.newG (u := .tup us) hl
    exact hq _ _ _ [] g' ⟨l, us, rfl, .inl (.inl upd_same), (RL.sh_iff _).mpr ⟨rfl, ShL.mono g' _ r⟩⟩ s'
  unfold bTuple at hg
  split at hg
  · cases hg
    obtain ⟨v, e, a, us, e1, e2, r⟩ := shl_one hx
    subst e; subst e1
    exact ⟨a, us, rfl, .inl ⟨.inl (.inl (s.le _ _ e2)), fun l hl => new us _ l r hl hq⟩⟩
  · cases hg
    obtain ⟨v, e, a, us, e1, e2, r⟩ := shl_one hx
    subst e; subst e1
    exact ⟨a, us, rfl, .inl ⟨s.le.sqL e2, fun l hl => new us _ l r hl hq⟩⟩
  · cases hg
    obtain ⟨v, e, a, us, e1, e2, r⟩ := shl_one hx
    subst e; subst e1
    exact ⟨a, us, rfl, .inr ⟨s.le.sqT e2, hq _ H G [] (GLe.refl G) ⟨a, us, rfl, e2, (RL.sh_iff _).mpr ⟨rfl, r⟩⟩ s⟩⟩
  · cases hg⟩
def bSum : List D → Option D
  | [d] => (dSeqL d).bind fun xs => (intsD xs).map fun ns => D.int ns.sum
  | _ => none
theorem b_sum (hc : X.calm = true) (hK : X.K = K := by rfl) : CallR X (.builtin "sum") (rSum K) ∧ VOpL K m (rSum K) bSum := by subst hK; exact ⟨cr_sum hc, by
  intro G H C vs ds d Q hx s hg hq
  unfold bSum at hg
  split at hg
  · obtain ⟨xs, e1, hg⟩ := Option.bind_eq_some_iff.mp hg
    obtain ⟨ns, e2, e3⟩ := Option.map_eq_some_iff.mp hg
    subst e3
    obtain ⟨v, e, q⟩ := shl_one hx
    obtain ⟨a, us, e5, e6, r⟩ := dSeqL_of (H := H) e1 q
    have e7 := intsD_of e2 r
    subst e; subst e5; subst e7
    exact ⟨a, ns, rfl, s.le.sqL e6, hq _ H G [] (GLe.refl G) ⟨rfl, rfl⟩ s⟩
  · cases hg⟩
def bAny : List D → Option D
  | [d] => (dSeqL d).bind fun xs => (boolsD xs).map fun ns => D.bl (ns.any id)
  | _ => none
def bAll : List D → Option D
  | [d] => (dSeqL d).bind fun xs => (boolsD xs).map fun ns => D.bl (ns.all id)
  | _ => none
theorem b_any (hc : X.calm = true) (hK : X.K = K := by rfl) : CallR X (.builtin "any") (rAny K) ∧ VOpL K m (rAny K) bAny := by subst hK; exact ⟨cr_any hc, by
  intro G H C vs ds d Q hx s hg hq
  unfold bAny at hg
  split at hg
  · obtain ⟨xs, e1, hg⟩ := Option.bind_eq_some_iff.mp hg
    obtain ⟨ns, e2, e3⟩ := Option.map_eq_some_iff.mp hg
    subst e3
    obtain ⟨v, e, q⟩ := shl_one hx
    obtain ⟨a, us, e5, e6, r⟩ := dSeqL_of (H := H) e1 q
    have e7 := boolsD_of e2 r
    subst e; subst e5; subst e7
    exact ⟨a, ns, rfl, s.le.sqL e6, hq _ H G [] (GLe.refl G) ⟨rfl, rfl⟩ s⟩
  · cases hg⟩
theorem b_all (hc : X.calm = true) (hK : X.K = K := by rfl) : CallR X (.builtin "all") (rAll K) ∧ VOpL K m (rAll K) bAll := by subst hK; exact ⟨cr_all hc, by
  intro G H C vs ds d Q hx s hg hq
  unfold bAll at hg
  split at hg
  · obtain ⟨xs, e1, hg⟩ := Option.bind_eq_some_iff.mp hg
    obtain ⟨ns, e2, e3⟩ := Option.map_eq_some_iff.mp hg
    subst e3
    obtain ⟨v, e, q⟩ := shl_one hx
    obtain ⟨a, us, e5, e6, r⟩ := dSeqL_of (H := H) e1 q
    have e7 := boolsD_of e2 r
    subst e; subst e5; subst e7
    exact ⟨a, ns, rfl, s.le.sqL e6, hq _ H G [] (GLe.refl G) ⟨rfl, rfl⟩ s⟩
  · cases hg⟩

/-! ### isinstance, of one built-in type -/
inductive Ty where
  | int | bool | str | list | tuple | dict
  deriving DecidableEq
def Ty.nm : Ty → String
  | .int => "int" | .bool => "bool" | .str => "str" | .list => "list" | .tuple => "tuple" | .dict => "dict"
def isiD (T : Ty) : D → Option Bool
  | .non => some false
  | .bl _ => some (decide (T = .bool) || decide (T = .int))
  | .int _ => some (decide (T = .int))
  | .str _ => some (decide (T = .str))
  | .lst _ => some (decide (T = .list))
  | .tup _ => some (decide (T = .tuple))
  | .dK _ _ => some (decide (T = .dict))
  | .dT _ _ => some (decide (T = .dict))
  | _ => none
theorem kit_all : ∀ T : Ty, kitB "NoneType" T.nm = some false ∧ kitB "bool" T.nm = some (decide (T = .bool) || decide (T = .int)) ∧ kitB "int" T.nm = some (decide (T = .int)) ∧ kitB "str" T.nm = some (decide (T = .str)) ∧ kitB "list" T.nm = some (decide (T = .list)) ∧ kitB "tuple" T.nm = some (decide (T = .tuple)) ∧ kitB "dict" T.nm = some (decide (T = .dict)) := by
  intro T
  cases T <;> refine ⟨?_, ?_, ?_, ?_, ?_, ?_, ?_⟩ <;> decide +kernel
def bIsi (T : Ty) : List D → Option D
  | [d, .val (.ty n)] => if n = T.nm then (isiD T d).map .bl else none
  | _ => none
theorem tup_ty {a : Addr} {xs : List V} (h : SqT K H a xs) : TyX K H (.ref a) (.type "tuple") := by
  rcases h with (h | ⟨o, h⟩) | ⟨o, its, n, h1, h2, _⟩
  · exact .base (.tup h)
  · exact .fTuple h
  · exact .kTuple h1 h2
theorem b_isi (T : Ty) (hK : X.K = K := by rfl) : CallR X (.builtin "isinstance") (rIsi K) ∧ VOpL K m (rIsi K) (bIsi T) := by subst hK; exact ⟨call_isi, by
  intro G H C vs ds d Q hx s hg hq
  unfold bIsi at hg
  split at hg
  · rename_i d0 n
    split at hg
    · rename_i hn
      obtain ⟨b, e1, e2⟩ := Option.map_eq_some_iff.mp hg
      subst e2; subst hn
      obtain ⟨v, w, e, q, q2⟩ := shl_two hx
      have q2 : w = .ty T.nm := q2
      subst q2
      obtain ⟨k1, k2, k3, k4, k5, k6, k7⟩ := kit_all T
      have fin : ∀ t : String, TyX X.K H v (.type t) → kitB t T.nm = some b → rIsi X.K vs H Q := fun t ty hk => ⟨v, .ty T.nm, .type t, .type T.nm, b, e, .ty _, ty, kit_ty hk, hq _ H G [] (GLe.refl G) ⟨rfl, rfl⟩ s⟩
      cases d0 <;> first | (cases e1; done) | skip
      · cases e1; rw [show v = .non from q] at fin; exact fin _ (.base .non) k1
      · cases e1; rw [show v = .bl _ from q] at fin; exact fin _ (.base (.bl _)) k2
      · cases e1; rw [show v = .int _ from q] at fin; exact fin _ (.base (.int _)) k3
      · cases e1; rw [show v = .str _ from q] at fin; exact fin _ (.base (.str _)) k4
      · cases e1; obtain ⟨a, us, e5, e6, r⟩ := q; subst e5; exact fin _ (.base (.lst (s.le _ _ e6))) k5
      · cases e1; obtain ⟨a, us, e5, e6, r⟩ := q; subst e5; exact fin _ (tup_ty (s.le.sqT e6)) k6
      · cases e1; obtain ⟨a, us, e5, e6, r⟩ := q; subst e5; exact fin _ (.base (.dK (s.le _ _ e6))) k7
      · cases e1; obtain ⟨a, us, e5, e6, r⟩ := q; subst e5; exact fin _ (.base (.dT (s.le _ _ e6))) k7
    · cases hg
  · cases hg⟩

/-! ### str of an int -/
def bStr : List D → Option D
  | [.int i] => if i.natAbs < 2 ^ 1900 then some (.str (toString i)) else none
  | _ => none
end
section
variable {K : PySem.W.Frag} {X : Cx} {Γ : List Md} {Ek : XK} {m rm : Md} {io : List Nat} {e : PySem.Expr} {te : TE} {fe : Mr D} {pos : Pos}
def dRev : D → Option D
  | .lst xs => some (.lst xs.reverse)
  | .frl xs => some (.lst xs.reverse)
  | _ => none
theorem vop_rev : VOp1 K (.own .sh) (fun x H Q => ∃ a xs, x = .ref a ∧ SqL K H a xs ∧ ∀ p, H p = none → Q (.ref p) (upd H p (.lst xs.reverse))) dRev := by
  intro G H C x dx d Q hx s hg hq
  cases dx <;> first | (cases hg; done) | skip
  · cases hg
    obtain ⟨a, vs, e1, e2, r⟩ := hx
    exact ⟨a, vs, e1, .inl (.inl (s.le _ _ e2)), fun p hp => hq _ _ G _ (GLe.refl G) ⟨p, _, [], rfl, rfl, (RL.sh_iff _).mpr ⟨rfl, r.reverse⟩⟩ (s.newO hp)⟩
  · cases hg
    obtain ⟨a, vs, e1, e2, r⟩ := hx
    exact ⟨a, vs, e1, s.le.sqL e2, fun p hp => hq _ _ G _ (GLe.refl G) ⟨p, _, [], rfl, rfl, (RL.sh_iff _).mpr ⟨rfl, r.reverse⟩⟩ (s.newO hp)⟩
theorem de_rev {k : Nat} {p1 p2 p3 : Pos} (h : DE X K Γ Ek .sh e te fe) (hK : X.K = K := by rfl) : DE X K Γ Ek (.own .sh) (.Subscript e (.Slice none none (some (.UnaryOp .USub (.Constant (.int 1) k p1) p2)) p3) pos) (tRevL K te) (mUn dRev fe) := by subst hK; exact ⟨pe_revL h.pe, snd_un (r := fun x H Q => ∃ a xs, x = .ref a ∧ SqL X.K H a xs ∧ ∀ p, H p = none → Q (.ref p) (upd H p (.lst xs.reverse))) h.sn vop_rev⟩
theorem ds_expr0 (h : DE X K Γ Ek m e te fe) (hs : swapsWith e none pos.line X.env = pure false := by rfl) : DS X K Γ Ek rm io (.Expr e pos) (tDrop te) (bnd fe fun _ => mSkip) := ds_expr h (ps_expr h.pe hs)
end
/-- a list or tuple of values that are no objects fits every mode of its items -/
def scal1 : D → Bool
  | .lst ds => ds.all scal
  | .tup ds => ds.all scal
  | d => scal d
def mScl1 (f : Mr D) : Mr D := bnd f fun d => if scal1 d then ret d else fun _ => none
section
variable {K : PySem.W.Frag} {X : Cx} {Γ : List Md} {Ek : XK} {c c' : Md} {e : PySem.Expr} {t : TE} {f : Mr D}
theorem R.scal1 {G : Hp} {d : D} {v : V} {o : Fg} (h : Dl.scal1 d = true) (r : R K G d (.own c) v o) : R K G d (.own c') v o := by
  cases d <;> first | exact R.scal h r | skip
  · obtain ⟨a, vs, o', e1, e2, r⟩ := r
    exact ⟨a, vs, o', e1, e2, RL.scal h r⟩
  · obtain ⟨a, vs, e1, e2, r⟩ := r
    exact ⟨a, vs, e1, e2, RL.scal h r⟩
theorem Snd.scal1 (h : Snd K Γ Ek (.own c) t f) : Snd K Γ Ek (.own c') t (mScl1 f) := by
  intro σ H G C ρ Q r hg hf hq
  cases e : f ρ with
  | none => rw [mScl1, bnd_none e] at hf; cases hf
  | some r1 =>
    refine h σ H G C ρ Q r1 hg e ?_
    cases r1 with
    | ok a ρ1 =>
      rw [mScl1, bnd_ok e] at hf
      split at hf
      · rename_i hs
        cases hf
        exact fun b H' G' o g rel good => hq b H' G' o g (R.scal1 hs rel) good
      · cases hf
    | ex x ρ1 =>
      rw [mScl1, bnd_ex e] at hf
      cases hf
      exact hq
theorem DE.sc1 (h : DE X K Γ Ek (.own c) e t f) : DE X K Γ Ek (.own c') e t (mScl1 f) := ⟨h.pe, h.sn.scal1⟩
end
local macro_rules | `(tactic| walk_at "fle") => `(tactic| (intro P; simp only [List.countP_append, List.countP_cons, List.countP_nil, List.append_nil, List.nil_append]; first | omega | (split <;> omega)))
/-! ### x.pop(..) where what is handed on may look at x -/
def mPopV (i : Nat) (fe : Mr (List D)) : Mr D := fun ρ => match ρ[i]? with
  | some (some (.lst _)) => (match fe ρ with
    | some (.ok as ρ') => (match ρ'[i]? with
      | some (some (.lst ds)) => (match popIx ds.length as with
        | some k => (match ds[k]? with
          | some d => some (.ok d ((ρ'.set i none).set i (some (.lst (ds.eraseIdx k)))))
          | none => none)
        | none => none)
      | _ => none)
    | _ => none)
  | _ => none
section
variable {K : PySem.W.Frag} {X : Cx} {Γ : List Md} {Ek : XK} {i : Nat} {m : Md} {e : PySem.Expr}
theorem Foc.self {G : Hp} {d : D} {m : Md} {v : V} {o : Fg} (r : R K G d m v o) : Foc K G d m v o [] v m := ⟨d, o, [], rfl, r, fun P => by simp, fun G2 d2 o2 g r2 => ⟨o2, r2, fun P => by simp⟩⟩
theorem snd_popV {ks : List AK} {tr : TA} {fr : Mr (List D)} (hΓ : Γ[i]? = some (.own m)) (he : SndG K Γ Ek (RA K Γ ks) tr fr) (hk : ∀ k ∈ ks, isV .sh k) : Snd K Γ Ek m (tBM K "list" rPopA (tVar i) tr) (mPopV i fr) := by
  intro σ H G C ρ Q r hg hf hq
  unfold mPopV at hf
  split at hf
  · rename_i ds9 e5
    obtain ⟨v0, m0, o0, h1, h2, r0, g0⟩ := hg.take e5
    rw [hΓ] at h2; cases h2
    refine ⟨v0, h1, foc_ty (Foc.self r0) g0.sat ds9 rfl, ?_⟩
    split at hf
    · rename_i as ρ2 e6
      split at hf
      · rename_i ds0 e7
        split at hf
        · rename_i k e9
          split at hf
          · rename_i d e10
            cases hf
            refine he σ H G C ρ _ _ hg e6 fun vs1 H2 G2 oy g2 ry good2 => ?_
            obtain ⟨z, qy⟩ := ra_sh ry hk
            subst z
            obtain ⟨v1, m1, o1, h3, h4, r1, good3⟩ := good2.take e7
            rw [hΓ] at h4; cases h4
            rw [h1] at h3; cases h3
            obtain ⟨os2, sl2, s3⟩ := good3.ex
            obtain ⟨a, vs, oc, ew, ha, hl, rl, s4, upd4⟩ := (Foc.self r1).lst (C := os2.flatten ++ C) rfl (s3.re (by walk_at "fle"))
            obtain ⟨v, ov, rest, k1, k2, k3, k4⟩ := rl.drop_at e10
            obtain ⟨o5, r5, s5⟩ := upd4 G2 (upd H2 a (.lst (vs.eraseIdx k))) (ds0.eraseIdx k) (vs.eraseIdx k) rest (ov ++ (os2.flatten ++ C)) (GLe.refl G2) k3 fun rest' s6 => (s6.write (u' := .lst (vs.eraseIdx k))).re fun P => by
              have := k4 P
              simp only [List.countP_append, List.countP_cons] at this ⊢
              omega
            have fin : Q v (upd H2 a (.lst (vs.eraseIdx k))) := hq v _ G2 ov g2 k2 (Good.back (o := o5) ⟨os2, sl2, s5.re (by walk_at "fle")⟩ r5 h1 hΓ)
            have hkl : k < ds0.length := (List.getElem?_eq_some_iff.mp e10).1
            unfold popIx at e9
            split at e9
            · split at e9
              · cases e9
              · cases e9
                refine .inl ⟨a, vs, v, ew, show vs1 = [] from qy, ha, by rw [hl]; exact k1, ?_⟩
                have ee : vs.eraseIdx (ds0.length - 1) = vs.dropLast := by
                  rw [← hl, List.eraseIdx_eq_dropLast]
                  omega
                rw [← ee]; exact fin
            · rename_i j
              split at e9
              · rename_i h62
                obtain ⟨b1, b2⟩ := ok62_mp h62
                obtain ⟨u1, u2, u3, u4⟩ := ixN_seq e9
                exact .inr ⟨a, vs, j, k, v, ew, shl1 qy, ha, by omega, by omega, by rw [hl]; exact u1, k1, fin⟩
              · cases e9
            · cases e9
          · cases hf
        · cases hf
      · cases hf
    · cases hf
  · cases hf
theorem de_popV {apos cpos p : Pos} {x : Str} {es : List PySem.Expr} {ks : List AK} {tr : TA} {fr : Mr (List D)} (i : Nat) (he : DA X K Γ Ek ks (e :: es) tr fr) (hN : X.N[i]? = some x := by rfl) (hv : Vis X.env.scope x := by first | exact Or.inl rfl | exact Or.inr (Or.inl rfl) | exact Or.inr (Or.inr rfl)) (h : Γ[i]? = some (.own m) := by rfl)
    (hd : (x == ("__debug__" : Str)) = false := by decide) (hcd : (x == ("__classdict__" : Str)) = false := by decide) (hk : ks = List.replicate (es.length + 1) (.v .sh) := by rfl) (hbase : attributeBase (.Name x p) "pop" X.env (eval (.Name x p) X.env) = eval (.Name x p) X.env := by rfl)
    (hfew : ((backTo cpos (starEach (e :: es) X.env)).all (fun x => !x.1) && (backToKw cpos (keywordEach [] X.env)).all (fun x => x.1.isSome) && decide ((e :: es).length + ([] : List Keyword).length + (if ([] : List Keyword).isEmpty then 0 else 1) < 30)) = true := by rfl)
    (hline : (apos.endLine == cpos.line) = true := by rfl) (hs : starEach (e :: es) X.env = (false, eval e X.env) :: starEach es X.env := by rfl) (hplain : (backTo cpos (starEach es X.env)).any (·.1) = false := by rfl) (hK : X.K = K := by rfl) :
    DE X K Γ Ek m (.Call (.Attribute (.Name x p) "pop" apos) (e :: es) [] cpos) (tBM K "list" rPopA (tVar i) tr) (mPopV i fr) := by subst hK; exact ⟨pe_bm PySem.F.plainAttrs_list PySem.F.slot_list_pop PySem.F.type_list_pop mt_popA (pe_var hN hv hd hcd) he.pa hbase hfew hline hs hplain, snd_popV h he.sn (isV_rep hk)⟩
end
end Dl
/-! Dl: dicts that are owned, keys ints and texts. -/
namespace Dl
open PySem L2
local macro_rules | `(tactic| walk_at "fle") => `(tactic| (intro P; simp only [List.countP_append, List.countP_cons, List.countP_nil, List.append_nil, List.nil_append]; first | omega | (split <;> omega)))
theorem hu1 {A : Around} {k : Nat} (hr : Room k A) : A.units + 1 < cLine := by have := hu64 hr; omega
def keyOf : D → Option Key
  | .int i => some (.inl i)
  | .str x => some (.inr x)
  | _ => none
theorem keyOf_sh {K : PySem.W.Frag} {G : Hp} {d : D} {k : Key} {v : V} (h : keyOf d = some k) (r : Sh K G d v) : v = kV k := by
  cases d <;> first | (cases h; done) | (cases h; exact r)
def kMem (k : Key) : List Key → Bool
  | [] => false
  | a :: r => if a = k then true else kMem k r
theorem kMem_no {k : Key} : ∀ {r : List Key}, kMem k r = false → k ∉ r
  | [], _, q => nomatch q
  | a :: r, h, q => by
    unfold kMem at h
    split at h
    · cases h
    · rename_i ha
      rcases List.mem_cons.mp q with e | q
      · exact ha e.symm
      · exact kMem_no h q
/-- the place of a key that stands once -/
def kIx : List Key → Key → Option Nat
  | [], _ => none
  | a :: r, k => if a = k then (if kMem k r = true then none else some 0) else (kIx r k).map (· + 1)
theorem kIx_lt : ∀ {ks : List Key} {k : Key} {i : Nat}, kIx ks k = some i → i < ks.length
  | a :: r, k, i, h => by
    unfold kIx at h
    split at h
    · split at h
      · cases h
      · cases h; simp
    · obtain ⟨j, h1, h2⟩ := Option.map_eq_some_iff.mp h
      have := kIx_lt h1
      simp; omega
theorem kIx_val : ∀ {ks : List Key} {vs : List V} {k : Key} {i : Nat} {v : V}, kIx ks k = some i → vs[i]? = some v → valV (ks.zip vs) k = some v
  | a :: r, [], k, i, v, h, e => by simp at e
  | a :: r, x :: vs, k, i, v, h, e => by
    unfold kIx at h
    split at h
    · rename_i ha
      split at h
      · cases h
      · cases h
        simp at e
        subst e
        exact valV_pos ha
    · rename_i ha
      obtain ⟨j, h1, h2⟩ := Option.map_eq_some_iff.mp h
      subst h2
      have := kIx_val h1 (v := v) (vs := vs) (by simpa using e)
      rw [List.zip_cons_cons]
      unfold valV at this ⊢
      rw [List.find?_cons_of_neg (by simpa using ha)]
      exact this
theorem put_no : ∀ {ks : List Key} {vs : List V} {k : Key} {v : V}, k ∉ ks → (ks.zip vs).map (fun kv => if kv.1 = k then (kv.1, v) else kv) = ks.zip vs
  | [], _, _, _, _ => by simp
  | a :: r, [], k, v, h => by simp
  | a :: r, x :: vs, k, v, h => by
    rw [List.zip_cons_cons, List.map_cons, put_no (fun q => h (List.mem_cons_of_mem _ q)), if_neg (fun q => h (by rw [← show a = k from q]; exact List.mem_cons_self))]
theorem kIx_put : ∀ {ks : List Key} {vs : List V} {k : Key} {i : Nat} (v : V), kIx ks k = some i → vs.length = ks.length → putK (ks.zip vs) k v = ks.zip (vs.set i v) := by
  intro ks vs k i v h hl
  have h1 : ((ks.zip vs).any fun kv => decide (kv.1 = k)) = true := by
    have hi := kIx_lt h
    have e := kIx_val (vs := vs) (v := vs[i]) h (List.getElem?_eq_getElem (by omega))
    unfold valV at e
    obtain ⟨p, hp, _⟩ := Option.map_eq_some_iff.mp e
    rw [List.any_eq_true]
    exact ⟨p, List.mem_of_find?_eq_some hp, by simpa using List.find?_some hp⟩
  unfold putK
  rw [if_pos h1]
  clear h1
  induction ks generalizing vs i with
  | nil => cases h
  | cons a r ih =>
    cases vs with
    | nil => simp at hl
    | cons x vs =>
      unfold kIx at h
      split at h
      · rename_i ha
        split at h
        · cases h
        · rename_i hn
          cases h
          rw [List.zip_cons_cons, List.map_cons, put_no (kMem_no (by simpa using hn)), if_pos ha]
          rfl
      · rename_i ha
        obtain ⟨j, h1, h2⟩ := Option.map_eq_some_iff.mp h
        subst h2
        rw [List.zip_cons_cons, List.map_cons, if_neg ha, ih h1 (by simpa using hl)]
        rfl
theorem put_new {ks : List Key} {vs : List V} {k : Key} (v : V) (h : k ∉ ks) (hl : vs.length = ks.length) : putK (ks.zip vs) k v = (ks ++ [k]).zip (vs ++ [v]) := by
  unfold putK
  rw [if_neg, List.zip_append hl.symm]
  · rfl
  · intro q
    rw [List.any_eq_true] at q
    obtain ⟨p, hp, e⟩ := q
    have := (List.of_mem_zip hp).1
    have e : p.1 = k := by simpa using e
    rw [e] at this
    exact h this
section
variable {K : PySem.W.Frag} {G H : Hp}
theorem Foc.stepK {root : D} {m c : Md} {v : V} {o : Fg} {p : List Nat} {w : V} {ks : List Key} {ds : List D} {k : Nat} {d : D} (h : Foc K G root m v o p w (.own c)) (hp : getP root p = some (.dK ks ds)) (hk : ds[k]? = some d) :
    ∃ a vs v', w = .ref a ∧ (a, HO.dK (ks.zip vs)) ∈ o ∧ vs.length = ks.length ∧ vs[k]? = some v' ∧ Foc K G root m v o (p ++ [k]) v' c := by
  obtain ⟨d', o', rest, h1, h2, h3, h4⟩ := h
  rw [hp] at h1; cases h1
  obtain ⟨a, vs, o1, ew, eo, hl, rl⟩ := h2
  obtain ⟨v', o2, rest2, g1, g2, g3, g4⟩ := rl.split hk
  refine ⟨a, vs, v', ew, ?_, hl, g1, d, o2, (a, .dK (ks.zip vs)) :: (rest2 ++ rest), ?_, g2, fun P => ?_, fun G2 d2 o3 g r2 => ?_⟩
  · have hle : Le o' o := fun P => by have := h3 P; omega
    exact hle.mem (by rw [eo]; exact List.mem_cons_self)
  · rw [getP_snoc, hp]; exact hk
  · have e1 := h3 P
    have e2 := g3 P
    subst eo
    simp only [List.countP_cons, List.countP_append] at e1 ⊢
    omega
  · obtain ⟨o4, r4, e4⟩ := g4 G2 d2 o3 g r2
    obtain ⟨o5, r5, e5⟩ := h4 G2 (.dK ks (ds.set k d2)) ((a, .dK (ks.zip vs)) :: o4) g ⟨a, vs, o4, ew, rfl, hl, r4⟩
    refine ⟨o5, ?_, fun P => ?_⟩
    · rw [setP_snoc p root (.dK ks ds) d d2 k hp hk]; exact r5
    · have e1 := e5 P
      have e2 := e4 P
      simp only [List.countP_cons, List.countP_append] at e1 ⊢
      omega
end
def ixD (rp : D × List Nat) (j : D) : Option (D × List Nat) := match keyOf j, getP rp.1 rp.2 with
  | some key, some (.dK ks ds) => (kIx ks key).bind fun k => if k < ds.length then some (rp.1, rp.2 ++ [k]) else none
  | _, _ => none
section
variable {K : PySem.W.Frag} {X : Cx} {Γ : List Md} {Ek : XK} {i : Nat} {m c rm : Md} {e a b : PySem.Expr} {t ta tb te ti : TE} {f : Mr (D × List Nat)} {fb fe : Mr D} {pos p : Pos} {io : List Nat}
theorem snd_ixD (h : SndG K Γ Ek (PR K Γ i (.own c)) ta f) (hb : Snd K Γ Ek .sh tb fb) : SndG K Γ Ek (PR K Γ i c) (tDGet ta tb) (bnd (mPair f fb) fun p => lft (ixD p.1 p.2)) := by
  refine SndG.bind (t1 := tPair ta tb) (t2 := fun p _ H Q => ∃ a v, p.1 = V.ref a ∧ DGet H a p.2 (some v) ∧ Q v H) (SndG.pair h hb PR.mono) fun a b σ H G C o ρ Q r rel good hf hq => ?_
  obtain ⟨o1, o2, eo, ⟨v, m, h1, h2, h3, h4⟩, r2⟩ := rel
  obtain ⟨z2, q2⟩ := (R.sh_iff _).mp r2
  subst z2; subst eo
  obtain ⟨⟨root, pth⟩, j⟩ := a
  obtain ⟨w, y⟩ := b
  dsimp only at h3 h4 q2 ⊢
  have s := good.sat
  cases e : ixD (root, pth) j with
  | none => dsimp only at hf; rw [e] at hf; cases hf
  | some rp =>
    dsimp only at hf
    rw [e] at hf
    cases hf
    unfold ixD at e
    split at e
    · rename_i key ks ds e1 e2
      obtain ⟨k, e3, e4⟩ := Option.bind_eq_some_iff.mp e
      split at e4
      · rename_i hk
        cases e4
        have hk' : ds[k]? = some ds[k] := List.getElem?_eq_getElem hk
        obtain ⟨a, vs, v', ew, hm, hl, hv, foc⟩ := h4.stepK e2 hk'
        have ha : H a = some (.dK (ks.zip vs)) := (s.at_ (a, .dK (ks.zip vs)) (List.mem_append_left _ (by simpa using hm))).1
        refine ⟨a, v', ew, ?_, hq v' H G o1 (GLe.refl G) ⟨v, m, h1, h2, h3, foc⟩ (good.re (by walk_at "fle"))⟩
        have hy : y = kV key := keyOf_sh e1 q2
        rw [hy, ← kIx_val e3 hv]
        exact DGet.k ha
      · cases e4
    · cases e
theorem dp_key (hu : X.A.units + 1 < cLine) (h : DP X K Γ Ek i (.own c) a ta f) (hb : DE X K Γ Ek .sh b tb fb) (hs : NoSl b := by exact fun _ _ => rfl) : DP X K Γ Ek i c (.Subscript a b pos) (tDGet ta tb) (bnd (mPair f fb) fun p => lft (ixD p.1 p.2)) := ⟨pe_dget hu h.pe hb.pe hs, snd_ixD h.sn hb.sn⟩
/-! ### d[k] = v -/
def rSetD : TSet := fun o i v H Q => ∃ (a : Addr) (H4 : Hp), o = .ref a ∧ DPut H a i v H4 ∧ Q H4
theorem set_dict (hu : X.A.units + 1 < cLine) : PSet X rSetD := by
  intro pins s σ H o i v ov iv u Q I ro ri rv ⟨a, H4, eo, g, q⟩
  subst eo
  obtain rfl : ov = Value.ref a := ro
  exact d_setItem hu I g ri rv fun s' I' => ⟨H4, I', q⟩
def gtSubD (i : Nat) (f : Mr (D × List Nat)) (fb : Mr D) (d : D) (ρ : De) : Option De := match bnd (mPair f fb) (fun p => ret p) ρ with
  | some (.ok ((root, pth), j) ρ2) => (match keyOf j, getP root pth with
    | some key, some (.dK ks ds) => (match kIx ks key with
      | some k => if ks.length < lim then some (ρ2.set i (some (setP root pth (.dK ks (ds.set k d))))) else none
      | none => if kMem key ks = false ∧ ks.length < lim then some (ρ2.set i (some (setP root pth (.dK (ks ++ [key]) (ds ++ [d]))))) else none)
    | _, _ => none)
  | _ => none
theorem snt_subD (h : SndG K Γ Ek0 (PR K Γ i (.own m)) ta f) (hb : Snd K Γ Ek0 .sh ti fb) : SndT K Γ io m (gSub ta ti rSetD) (gtSubD i f fb) := by
  intro G H C o σ ρ ρ' d v Q r good e hq
  unfold gtSubD at e
  split at e
  · rename_i root pth j ρ2 e1
    have hb2 := SndG.pair h hb PR.mono
    have e5 : mPair f fb ρ = some (.ok ((root, pth), j) ρ2) := by
      rcases bnd_inv e1 with ⟨x, ρ3, a1, a2⟩ | ⟨x, ρ3, a1, a2⟩
      · cases a2; exact a1
      · cases a2
    split at e
    · rename_i key ks ds ek e2
      refine hb2 σ H G (o ++ C) ρ (fun p H2 => rSetD p.1 p.2 v H2 fun H3 => Q σ H3) _ good e5 fun b H' G' o' g rel good' => ?_
      obtain ⟨o1, o2, eo, ⟨vr, mr, h1, h2, h3, foc⟩, r2⟩ := rel
      obtain ⟨z2, q2⟩ := (R.sh_iff _).mp r2
      subst z2; subst eo
      have q2 : b.2 = kV key := keyOf_sh ek q2
      obtain ⟨d', od, rest, f1, f2, f3, f4⟩ := id foc
      have f1' : getP root pth = some d' := f1
      rw [e2] at f1'; cases f1'
      obtain ⟨a, vs, oc, ew, eo, hl, rl⟩ := f2
      obtain ⟨osC, slC, s⟩ := good'.ex
      have s1 : Sat H' G' ((a, .dK (ks.zip vs)) :: (oc ++ (rest ++ (osC.flatten ++ (o ++ C))))) := s.re fun P => by
        have := f3 P
        subst eo
        simp only [List.countP_append, List.countP_cons, List.countP_nil, List.append_nil] at this ⊢
        omega
      have hlz : (ks.zip vs).length = ks.length := by rw [List.length_zip, hl]; omega
      split at e
      · rename_i k e3
        split at e
        · rename_i hlim
          cases e
          refine ⟨a, _, ew, by rw [q2]; exact DPut.k s1.own (by rw [hlz, ← lim_eq]; exact hlim), ?_⟩
          rw [kIx_put v e3 hl]
          obtain ⟨oc2, rl2, le2⟩ := rl.setAt k (R.mono g d r)
          obtain ⟨o3, r3, c3⟩ := f4 G' (.dK ks (ds.set k d)) ((a, .dK (ks.zip (vs.set k v))) :: oc2) (GLe.refl G') ⟨a, vs.set k v, oc2, ew, rfl, by rw [List.length_set]; exact hl, rl2⟩
          refine hq σ _ G' g (Fix.refl σ) (Good.back (o := o3) ⟨osC, slC, (s1.write (u' := .dK (ks.zip (vs.set k v)))).re fun P => ?_⟩ r3 h1 h2)
          have x1 := c3 P
          have x2 := le2 P
          simp only [List.countP_append, List.countP_cons] at x1 x2 ⊢
          omega
        · cases e
      · split at e
        · rename_i hlim
          cases e
          refine ⟨a, _, ew, by rw [q2]; exact DPut.k s1.own (by rw [hlz, ← lim_eq]; exact hlim.2), ?_⟩
          rw [put_new v (kMem_no hlim.1) hl]
          have rl2 : RL K G' (ds ++ [d]) m (vs ++ [v]) (oc ++ (o ++ [])) := RL.append rl ⟨v, [], o, [], rfl, rfl, R.mono g d r, rfl, rfl⟩
          obtain ⟨o3, r3, c3⟩ := f4 G' (.dK (ks ++ [key]) (ds ++ [d])) ((a, .dK ((ks ++ [key]).zip (vs ++ [v]))) :: (oc ++ (o ++ []))) (GLe.refl G') ⟨a, vs ++ [v], _, ew, rfl, by simp [hl], rl2⟩
          refine hq σ _ G' g (Fix.refl σ) (Good.back (o := o3) ⟨osC, slC, (s1.write (u' := .dK ((ks ++ [key]).zip (vs ++ [v])))).re fun P => ?_⟩ r3 h1 h2)
          have x1 := c3 P
          simp only [List.countP_append, List.countP_cons, List.countP_nil, List.append_nil] at x1 ⊢
          omega
        · cases e
    · cases e
  · cases e
theorem dg_key (hu : X.A.units + 1 < cLine) (h : DP X K Γ Ek0 i (.own m) a ta f) (hb : DE X K Γ Ek0 .sh b ti fb)
    (ha : ∀ v, assign (.Subscript a b pos) X.env v = (do
      let ov ← holding [v] (eval a X.env)
      let iv ← holding [v, ov] (eval b X.env)
      standAt pos
      holding [v, ov, iv] (setItem ov iv v)
      release [v, ov, iv] []) := by intro _; rfl) : DG X K Γ io m (.Subscript a b pos) (gSub ta ti rSetD) (gtSubD i f fb) := ⟨pg_sub h.pe hb.pe (set_dict hu) ha, snt_subD h.sn hb.sn⟩
end
/-! ### {k: v, ..}, the keys constants -/
def RPs (K : PySem.W.Frag) (c : Md) (ks : List Key) : St → Hp → List D → List (V × V) → Fg → Prop := fun _ G ds ps o => ∃ vs, ps = (ks.zip vs).map (fun kv => (kV kv.1, kv.2)) ∧ vs.length = ks.length ∧ RL K G ds c vs o
theorem RPs.mono {K : PySem.W.Frag} {c : Md} {ks : List Key} : RMono (RPs K c ks) := fun σ G G' ds ps o g ⟨vs, a, b, r⟩ => ⟨vs, a, b, RL.mono g _ r⟩
structure DKs (X : Cx) (K : PySem.W.Frag) (Γ : List Md) (Ek : XK) (c : Md) (pos : Pos) (keys : List (Option PySem.Expr)) (values : List PySem.Expr) (ks : List Key) (trs : List (TE × TE)) (fr : Mr (List D)) : Prop where
  pp : PPs X pos keys values trs
  sn : SndG K Γ Ek (RPs K c ks) (tPairs trs) fr
section
variable {K : PySem.W.Frag} {X : Cx} {Γ : List Md} {Ek : XK} {c : Md} {v : PySem.Expr} {tv : TE} {fv : Mr D} {pos p : Pos} {keys : List (Option PySem.Expr)} {values : List PySem.Expr} {ks : List Key} {trs : List (TE × TE)} {fr : Mr (List D)}
theorem dks_nil : DKs X K Γ Ek c pos [] [] [] [] mNil := ⟨pps_nil, by
  intro σ H G C ρ Q r hg hf hq
  cases hf
  exact hq [] H G [] (GLe.refl G) ⟨[], rfl, rfl, rfl, rfl⟩ hg⟩
theorem snd_kcons (k : Key) (hv : Snd K Γ Ek c tv fv) (hr : SndG K Γ Ek (RPs K c ks) (tPairs trs) fr) : SndG K Γ Ek (RPs K c (k :: ks)) (tPairs ((tC (kV k), tv) :: trs)) (mCons fv fr) := by
  refine SndG.bind (Rel1 := RP (RE K c) (RPs K c ks)) (t1 := tPair tv (tPairs trs)) (t2 := fun q _ H Q => Q ((kV k, q.1) :: q.2) H) (SndG.pair hv hr RE.mono) fun a b σ H G C o ρ Q r rel good hf hq => ?_
  obtain ⟨o1, o2, e, r1, vs, e1, e2, r2⟩ := rel
  cases hf
  refine hq _ H G o (GLe.refl G) ⟨b.1 :: vs, ?_, by simp [e2], b.1, vs, o1, o2, rfl, e, r1, r2⟩ good
  rw [e1, List.zip_cons_cons, List.map_cons]
theorem dks_s {k : Str} {j} (hv : DE X K Γ Ek c v tv fv) (hr : DKs X K Γ Ek c pos keys values ks trs fr) : DKs X K Γ Ek c pos (some (.Constant (.str k) j p) :: keys) (v :: values) (.inr k :: ks) ((tC (.str k), tv) :: trs) (mCons fv fr) :=
  ⟨pps_cons (de_str (K := K) (Γ := Γ) (Ek := Ek) (m := .sh)).pe hv.pe hr.pp, snd_kcons (.inr k) hv.sn hr.sn⟩
theorem dks_i {k : Int} {j} (hv : DE X K Γ Ek c v tv fv) (hr : DKs X K Γ Ek c pos keys values ks trs fr) : DKs X K Γ Ek c pos (some (.Constant (.int k) j p) :: keys) (v :: values) (.inl k :: ks) ((tC (.int k), tv) :: trs) (mCons fv fr) :=
  ⟨pps_cons (de_int (K := K) (Γ := Γ) (Ek := Ek) (m := .sh)).pe hv.pe hr.pp, snd_kcons (.inl k) hv.sn hr.sn⟩
def kNodup : List Key → Bool
  | [] => true
  | a :: r => !kMem a r && kNodup r
theorem valV_app {kvs : List (Key × V)} {k k' : Key} {v : V} (h : k ≠ k') : valV (kvs ++ [(k, v)]) k' = valV kvs k' := by
  unfold valV
  rw [List.find?_append]
  simp [h]
theorem mergeK_app : ∀ (ks : List Key) (vs : List V) (acc : List (Key × V)), (∀ k ∈ ks, valV acc k = none) → kNodup ks = true → mergeK acc (ks.zip vs) = acc ++ ks.zip vs
  | [], vs, acc, _, _ => by simp [mergeK]
  | k :: ks, [], acc, _, _ => by simp [mergeK]
  | k :: ks, v :: vs, acc, h, hn => by
    unfold kNodup at hn
    rw [Bool.and_eq_true] at hn
    have hk := kMem_no (by simpa using hn.1)
    have e : putK acc k v = acc ++ [(k, v)] := putK_new v (h k List.mem_cons_self)
    rw [List.zip_cons_cons]
    show mergeK (putK acc k v) (ks.zip vs) = _
    rw [e, mergeK_app ks vs _ (fun k' hk' => by rw [valV_app (k := k) (k' := k') (fun q => hk (by rw [q]; exact hk'))]; exact h k' (List.mem_cons_of_mem _ hk')) hn.2]
    simp
def mDisp (ks : List Key) (fr : Mr (List D)) : Mr D := bnd fr fun ds => ret (.dK ks ds)
theorem snd_disp (hr : SndG K Γ Ek (RPs K c ks) (tPairs trs) fr) (hn : kNodup ks = true) (h15 : ks.length ≤ 15) : Snd K Γ Ek (.own c) (tDisp trs) (mDisp ks fr) := by
  intro σ H G C ρ Q r hg hf hq l hl
  obtain ⟨os, sl, s⟩ := hg.ex
  have hg' : Good K Γ G (upd H l (.dK [])) ((l, .dK []) :: C) σ ρ := ⟨os, sl, (s.newO hl).re (by walk_at "fle")⟩
  rcases bnd_inv hf with ⟨ds, ρ1, e1, e2⟩ | ⟨x, ρ1, e1, e2⟩
  · cases e2
    refine hr σ _ G _ ρ _ _ hg' e1 fun ps H2 G2 o g rel good => ?_
    obtain ⟨vs, e3, e4, r2⟩ := rel
    obtain ⟨os2, sl2, s2⟩ := good.ex
    have s3 : Sat H2 G2 ((l, .dK []) :: (os2.flatten ++ (o ++ C))) := s2.re (by walk_at "fle")
    have hz : (ks.zip vs).length = ks.length := by rw [List.length_zip, e4]; omega
    refine ⟨s3.own, ks.zip vs, e3, by rw [hz]; exact h15, ?_⟩
    have em : mergeK [] (ks.zip vs) = ks.zip vs := mergeK_app ks vs [] (fun k _ => rfl) hn
    rw [em]
    exact hq (.ref l) _ G2 ((l, .dK (ks.zip vs)) :: o) g ⟨l, vs, o, rfl, rfl, e4, r2⟩ ⟨os2, sl2, (s3.write (u' := .dK (ks.zip vs))).re (by walk_at "fle")⟩
  · subst e2
    refine hr σ _ G _ ρ _ _ hg' e1 fun cc dx H2 G2 g xr good => ?_
    obtain ⟨os2, sl2, s2⟩ := good.ex
    exact hq cc dx H2 G2 g xr ⟨os2, sl2, s2.re (by walk_at "fle")⟩
theorem de_disp {p : Pos} (h : DKs X K Γ Ek c p keys values ks trs fr) (hn : kNodup ks = true := by decide +kernel) (h15 : ks.length ≤ 15 := by decide) (hall : keys.all (·.isSome) = true := by rfl) (hl : keys.length = values.length := by rfl) (h0 : keys ≠ [] := by exact List.cons_ne_nil _ _) (hk : keys.length ≤ 15 := by decide) :
    DE X K Γ Ek (.own c) (.Dict keys values p) (tDisp trs) (mDisp ks fr) := ⟨pe_disp h.pp hall hl h0 hk, snd_disp h.sn hn h15⟩
theorem de_dnew {p : Pos} : DE X K Γ Ek (.own c) (.Dict [] [] p) tDNewK (ret (.dK [] [])) := ⟨pe_dnewK, by
  intro σ H G C ρ Q r hg hf hq l hl
  cases hf
  obtain ⟨os, sl, s⟩ := hg.ex
  exact hq (.ref l) _ G [(l, .dK [])] (GLe.refl G) ⟨l, [], [], rfl, rfl, rfl, rfl, rfl⟩ ⟨os, sl, (s.newO hl).re (by walk_at "fle")⟩⟩
end
end Dl
/-! Dl, twelfth part: reckoning with mirrors. -/
namespace Dl
open PySem L2
theorem mSeq_ok {f g : Mr Fl} {ρ ρ' : De} (h : f ρ = some (.ok .nx ρ')) : mSeq f g ρ = g ρ' := by unfold mSeq; rw [h]
theorem mSeq_rt {f g : Mr Fl} {ρ ρ' : De} {d : D} (h : f ρ = some (.ok (.rt d) ρ')) : mSeq f g ρ = some (.ok (.rt d) ρ') := by unfold mSeq; rw [h]
theorem mSeq_as (f g h : Mr Fl) : mSeq (mSeq f g) h = mSeq f (mSeq g h) := by
  funext ρ
  unfold mSeq
  cases f ρ with
  | none => rfl
  | some r =>
    cases r with
    | ok a ρ' => cases a <;> rfl
    | ex x ρ' => rfl
/-! values of the operators -/
theorem log2_lt100 {n : Nat} (h : n < 1606938044258990275541962092341162602522202993782792835301376) : n.log2 < 200 := by
  rcases Nat.eq_zero_or_pos n with h0 | h0
  · subst h0; decide
  · exact (Nat.log2_lt (by omega)).mpr h
theorem dMul_i {i j : Int} (h : i.natAbs ≤ 18446744073709551615 ∨ j.natAbs ≤ 18446744073709551615) : dMul (.int i) (.int j) = some (.int (i * j)) := by
  have e : (Nat.ble i.natAbs 18446744073709551615 || Nat.ble j.natAbs 18446744073709551615) = true := by
    rw [Bool.or_eq_true]
    exact h.imp Nat.ble_eq_true_of_le Nat.ble_eq_true_of_le
  show (if _ then _ else _) = _
  rw [if_pos (by rw [e]; rfl)]
theorem dMul_b {i j : Int} (h : i.natAbs < 1606938044258990275541962092341162602522202993782792835301376) (h' : j.natAbs < 1606938044258990275541962092341162602522202993782792835301376) : dMul (.int i) (.int j) = some (.int (i * j)) := by
  have h1 := log2_lt100 h
  have h2 := log2_lt100 h'
  have e : Nat.blt (i.natAbs.log2 + j.natAbs.log2) 1000000 = true := by simp; omega
  show (if _ then _ else _) = _
  rw [if_pos (by rw [e, Bool.or_true])]
theorem dFdiv_i {i j : Int} (h0 : 0 < j) (h1 : j < 1606938044258990275541962092341162602522202993782792835301376) : dFdiv (.int i) (.int j) = some (.int (i / j)) := by
  have h2 := log2_lt100 (n := j.natAbs) (by omega)
  have e : (decide (0 < j) && Nat.blt j.natAbs.log2 9000) = true := by
    rw [decide_eq_true h0]
    simp
    omega
  show (if _ then _ else _) = _
  rw [if_pos e]
theorem dMod_i {i j : Int} (h0 : 0 < j) : dMod (.int i) (.int j) = some (.int (i % j)) := by
  show (if _ then _ else _) = _
  rw [if_pos (decide_eq_true h0)]
theorem dAdd_i (i j : Int) : dAdd (.int i) (.int j) = some (.int (i + j)) := rfl
theorem dSub_i (i j : Int) : dSub (.int i) (.int j) = some (.int (i - j)) := rfl
theorem dLt_i (i j : Int) : dLt (.int i) (.int j) = some (.bl (decide (i < j))) := rfl
theorem dLe_i (i j : Int) : dLe (.int i) (.int j) = some (.bl (decide (i ≤ j))) := rfl
theorem dGt_i (i j : Int) : dGt (.int i) (.int j) = some (.bl (decide (j < i))) := rfl
theorem dGe_i (i j : Int) : dGe (.int i) (.int j) = some (.bl (decide (j ≤ i))) := rfl
theorem dEq_i (i j : Int) : dEq (.int i) (.int j) = some (.bl (i == j)) := rfl
theorem dNe_i (i j : Int) : dNe (.int i) (.int j) = some (.bl (!(i == j))) := rfl
theorem dEq_bl (i j : Bool) : dEq (.bl i) (.bl j) = some (.bl (i == j)) := rfl
theorem dTup_c {ds : List D} (h : ds.length ≤ 16777216) : dTup ds = some (.tup ds) := if_pos h
theorem dLst_c {ds : List D} (h : ds.length ≤ 16777216) : dLst ds = some (.lst ds) := if_pos h
theorem ixN_nat {n k : Nat} (h : k < n) : ixN n (k : Int) = some k := by
  unfold ixN
  rw [if_pos (by omega), if_pos (by omega)]; simp
theorem ixN_of {n : Nat} {i : Int} (h0 : 0 ≤ i) (h : i < n) : ixN n i = some i.toNat := by
  unfold ixN
  rw [if_pos h0, if_pos h]
theorem atI_natD {α : Type} {xs : List α} {k : Nat} (h : k < xs.length) : atI xs (k : Int) = some xs[k] := by
  unfold atI
  rw [ixN_nat h]
  simp [h]
theorem atI_ofD {α : Type} {xs : List α} {i : Int} (h0 : 0 ≤ i) (h : i < xs.length) : atI xs i = xs[i.toNat]? := by
  unfold atI
  rw [ixN_of h0 h]; rfl
/-! loops -/
/-- a loop by what holds between its turns -/
theorem forM_inv {gt : D → De → Option De} {body : Mr Fl} (I : Nat → De → Prop) : ∀ (ds : List D) (k : Nat) (ρ : De), I k ρ →
    (∀ i d ρ, ds[i]? = some d → I (k + i) ρ → ∃ ρ1 ρ2, gt d ρ = some ρ1 ∧ (body ρ1 = some (.ok .nx ρ2) ∨ body ρ1 = some (.ok .ct ρ2)) ∧ I (k + i + 1) ρ2) → ∃ ρ', forM gt body ds ρ = some (.ok .nx ρ') ∧ I (k + ds.length) ρ'
  | [], k, ρ, h0, _ => ⟨ρ, rfl, h0⟩
  | d :: ds, k, ρ, h0, hs => by
    obtain ⟨ρ1, ρ2, e1, e2, h2⟩ := hs 0 d ρ rfl h0
    obtain ⟨ρ', e3, h3⟩ := forM_inv I ds (k + 1) ρ2 h2 fun i d' ρ e h => by
      have := hs (i + 1) d' ρ (by simpa using e) (by rw [show k + (i + 1) = k + 1 + i by omega]; exact h)
      rw [show k + (i + 1) + 1 = k + 1 + i + 1 by omega] at this
      exact this
    refine ⟨ρ', ?_, ?_⟩
    · unfold forM
      rw [e1]
      dsimp only
      rcases e2 with e2 | e2 <;> rw [e2] <;> exact e3
    · rw [List.length_cons, show k + (ds.length + 1) = k + 1 + ds.length by omega]; exact h3
/-- a loop as a fold -/
theorem forM_fold {σ α : Type} {gt : D → De → Option De} {body : Mr Fl} (E : σ → De → Prop) (enc : α → D) (step : σ → α → σ) : ∀ (xs : List α) (s : σ) (ρ : De), E s ρ →
    (∀ s x ρ, x ∈ xs → E s ρ → ∃ ρ1 ρ2, gt (enc x) ρ = some ρ1 ∧ (body ρ1 = some (.ok .nx ρ2) ∨ body ρ1 = some (.ok .ct ρ2)) ∧ E (step s x) ρ2) → ∃ ρ', forM gt body (xs.map enc) ρ = some (.ok .nx ρ') ∧ E (xs.foldl step s) ρ'
  | [], s, ρ, h0, _ => ⟨ρ, rfl, h0⟩
  | x :: xs, s, ρ, h0, hs => by
    obtain ⟨ρ1, ρ2, e1, e2, h2⟩ := hs s x ρ List.mem_cons_self h0
    obtain ⟨ρ', e3, h3⟩ := forM_fold E enc step xs (step s x) ρ2 h2 fun s y ρ hy h => hs s y ρ (List.mem_cons_of_mem _ hy) h
    refine ⟨ρ', ?_, h3⟩
    rw [List.map_cons]
    unfold forM
    rw [e1]
    dsimp only
    rcases e2 with e2 | e2 <;> rw [e2] <;> exact e3
/-- a comprehension that leaves the names as they are -/
theorem lcM_map {vs : List Nat} {gt : D → De → Option De} {ft : Mr Bool} {fe : Mr D} {α : Type} (enc : α → D) (g : α → D) (I : De → Prop) : ∀ (xs : List α) (acc : List D) (ρ : De), I ρ → acc.length + xs.length ≤ 16777216 →
    (∀ x ρ, x ∈ xs → I ρ → ∃ ρ1 ρ2 ρ3, gt (enc x) ρ = some ρ1 ∧ ft ρ1 = some (.ok true ρ2) ∧ fe ρ2 = some (.ok (g x) ρ3) ∧ I (wipeD ρ3 vs)) → ∃ ρ', lcM vs gt ft fe (xs.map enc) acc ρ = some (acc ++ xs.map g, ρ') ∧ I ρ'
  | [], acc, ρ, h0, _, _ => ⟨ρ, by simp [lcM], h0⟩
  | x :: xs, acc, ρ, h0, hl, hs => by
    obtain ⟨ρ1, ρ2, ρ3, e1, e2, e3, h3⟩ := hs x ρ List.mem_cons_self h0
    obtain ⟨ρ', e4, h4⟩ := lcM_map enc g I xs (acc ++ [g x]) (wipeD ρ3 vs) h3 (by simp at hl ⊢; omega) fun y ρ hy h => hs y ρ (List.mem_cons_of_mem _ hy) h
    refine ⟨ρ', ?_, h4⟩
    rw [List.map_cons]
    unfold lcM
    rw [e1]
    dsimp only
    rw [e2]
    dsimp only
    rw [e3]
    dsimp only
    rw [if_pos (by simp at hl; show acc.length < 16777216; omega), e4]
    simp
/-- .. with a test -/
theorem lcM_filt {vs : List Nat} {gt : D → De → Option De} {ft : Mr Bool} {fe : Mr D} {α : Type} (enc : α → D) (p : α → Bool) (g : α → D) (I : De → Prop) : ∀ (xs : List α) (acc : List D) (ρ : De), I ρ → acc.length + xs.length ≤ 16777216 →
    (∀ x ρ, x ∈ xs → I ρ → ∃ ρ1 ρ2, gt (enc x) ρ = some ρ1 ∧ ft ρ1 = some (.ok (p x) ρ2) ∧ (p x = false → I (wipeD ρ2 vs)) ∧ (p x = true → ∃ ρ3, fe ρ2 = some (.ok (g x) ρ3) ∧ I (wipeD ρ3 vs))) →
      ∃ ρ', lcM vs gt ft fe (xs.map enc) acc ρ = some (acc ++ (xs.filter p).map g, ρ') ∧ I ρ'
  | [], acc, ρ, h0, _, _ => ⟨ρ, by simp [lcM], h0⟩
  | x :: xs, acc, ρ, h0, hl, hs => by
    obtain ⟨ρ1, ρ2, e1, e2, hf, ht⟩ := hs x ρ List.mem_cons_self h0
    rw [List.map_cons]
    unfold lcM
    rw [e1]
    dsimp only
    rw [e2]
    cases hp : p x with
    | false =>
      dsimp only
      rw [hp] at hf
      obtain ⟨ρ', e4, h4⟩ := lcM_filt enc p g I xs acc (wipeD ρ2 vs) (hf rfl) (by simp at hl ⊢; omega) fun y ρ hy h => hs y ρ (List.mem_cons_of_mem _ hy) h
      refine ⟨ρ', ?_, h4⟩
      rw [e4]
      simp [hp]
    | true =>
      dsimp only
      rw [hp] at ht
      obtain ⟨ρ3, e3, h3⟩ := ht rfl
      obtain ⟨ρ', e4, h4⟩ := lcM_filt enc p g I xs (acc ++ [g x]) (wipeD ρ3 vs) h3 (by simp at hl ⊢; omega) fun y ρ hy h => hs y ρ (List.mem_cons_of_mem _ hy) h
      refine ⟨ρ', ?_, h4⟩
      rw [e3]
      dsimp only
      rw [if_pos (by simp at hl; show acc.length < 16777216; omega), e4]
      simp [hp]
theorem rgC_map (n : Nat) : rgC 0 1 n = (List.range n).map fun i => .int (i : Nat) := by
  unfold rgC
  simp
theorem rgC_map1 (lo : Int) (n : Nat) : rgC lo 1 n = (List.range n).map fun i => .int (lo + (i : Nat)) := by
  unfold rgC
  simp
theorem dRng1 {n : Int} (h : n.natAbs ≤ 4611686018427387903) : dRng [.int n] = some (rgC 0 1 n.toNat) := if_pos (ok62_of h)
theorem dRng2 {i n : Int} (h : i.natAbs ≤ 4611686018427387903) (h' : n.natAbs ≤ 4611686018427387903) : dRng [.int i, .int n] = some (rgC i 1 (n - i).toNat) := if_pos (by rw [ok62_of h, ok62_of h']; rfl)
theorem mLc_ok {fi : Mr (List D)} {vs : List Nat} {gt : D → De → Option De} {ft : Mr Bool} {fe : Mr D} {ρ ρ1 ρ2 : De} {ds ys : List D} (h : fi ρ = some (.ok ds ρ1)) (h2 : lcM vs gt ft fe ds [] (wipeD ρ1 vs) = some (ys, ρ2)) : mLc fi vs gt ft fe ρ = some (.ok (.lst ys) (wipeD ρ2 vs)) := by
  unfold mLc
  rw [bnd_ok h, h2]
theorem mFor_ok {fi : Mr (List D)} {gt : D → De → Option De} {body : Mr Fl} {ρ ρ1 : De} {ds : List D} (h : fi ρ = some (.ok ds ρ1)) : mFor fi gt body ρ = forM gt body ds ρ1 := bnd_ok h
theorem mAsg_ok {f : Mr D} {gt : D → De → Option De} {ρ ρ1 ρ2 : De} {d : D} (h : f ρ = some (.ok d ρ1)) (h2 : gt d ρ1 = some ρ2) : mAsg f gt ρ = some (.ok .nx ρ2) := by
  unfold mAsg
  rw [bnd_ok h, h2]
theorem mCl0_ok {ks : List AK} {F : List D → Option (Rs D)} {fr : Mr (List D)} {ρ ρ1 : De} {ds : List D} {d : D} {fs : De} (h : fr ρ = some (.ok ds ρ1)) (h2 : F ds = some (.ok d fs)) : mCl0 ks F fr ρ = some (.ok d (backIo ks fs ρ1)) := by
  unfold mCl0
  rw [bnd_ok h, h2]
end Dl
/-! Dl, thirteenth part: more reckoning. -/
namespace Dl
open PySem L2
theorem maskIo_nil (n : Nat) (ρ : De) : maskIo [] n ρ = List.replicate n none := by
  unfold maskIo
  rw [List.eq_replicate_iff]
  simp
theorem bIsi_bool (d : D) : bIsi .bool [d, .val (.ty "bool")] = (isiD .bool d).map .bl := by cases d <;> rfl
theorem bIsi_int (d : D) : bIsi .int [d, .val (.ty "int")] = (isiD .int d).map .bl := by cases d <;> rfl
theorem bIsi_str (d : D) : bIsi .str [d, .val (.ty "str")] = (isiD .str d).map .bl := by cases d <;> rfl
theorem bIsi_dict (d : D) : bIsi .dict [d, .val (.ty "dict")] = (isiD .dict d).map .bl := by cases d <;> rfl
theorem bIsi_list (d : D) : bIsi .list [d, .val (.ty "list")] = (isiD .list d).map .bl := by cases d <;> rfl
theorem bIsi_tuple (d : D) : bIsi .tuple [d, .val (.ty "tuple")] = (isiD .tuple d).map .bl := by cases d <;> rfl
/-- a comprehension over what is known, of a body that leaves the names as they were -/
theorem mLc_map {fi : Mr (List D)} {vs : List Nat} {gt : D → De → Option De} {fe : Mr D} {ρ ρ1 : De} {α : Type} (enc : α → D) (g : α → D) (xs : List α) (hfi : fi ρ = some (.ok (xs.map enc) ρ1)) (hi : wipeD (wipeD ρ1 vs) vs = wipeD ρ1 vs) (hl : xs.length ≤ 16777216)
    (hs : ∀ x ∈ xs, ∃ ρ2 ρ3, gt (enc x) (wipeD ρ1 vs) = some ρ2 ∧ fe ρ2 = some (.ok (g x) ρ3) ∧ wipeD ρ3 vs = wipeD ρ1 vs) : mLc fi vs gt (ret true) fe ρ = some (.ok (.lst (xs.map g)) (wipeD ρ1 vs)) := by
  obtain ⟨ρ', e, h⟩ := lcM_map (vs := vs) (gt := gt) (ft := ret true) (fe := fe) enc g (fun ρ => ρ = wipeD ρ1 vs) xs [] (wipeD ρ1 vs) rfl (by simpa using hl) fun x ρ hx e => by
    subst e
    obtain ⟨ρ2, ρ3, e1, e2, e3⟩ := hs x hx
    exact ⟨ρ2, ρ2, ρ3, e1, rfl, e2, e3⟩
  rw [mLc_ok hfi e, h, hi]; rfl
theorem mLc_mp {fi : Mr (List D)} {vs : List Nat} {gt : D → De → Option De} {fe : Mr D} {ρ : De} {α : Type} (enc : α → D) (g : α → D) (xs : List α) (hfi : fi ρ = some (.ok (xs.map enc) ρ)) (hi : wipeD (wipeD ρ vs) vs = wipeD ρ vs) (hl : xs.length ≤ 16777216)
    (hs : ∀ x ∈ xs, ∃ ρ2 ρ3, gt (enc x) (wipeD ρ vs) = some ρ2 ∧ fe ρ2 = some (.ok (g x) ρ3) ∧ wipeD ρ3 vs = wipeD ρ vs) : mLc fi vs gt (ret true) fe ρ = some (.ok (.lst (xs.map g)) (wipeD ρ vs)) := mLc_map enc g xs hfi hi hl hs
theorem dIx_l {xs : List D} {i : Nat} (h : i < xs.length) : dIx (.lst xs) (.int i) = some xs[i] := atI_natD h
theorem dIx_t {xs : List D} {i : Nat} (h : i < xs.length) : dIx (.tup xs) (.int i) = some xs[i] := atI_natD h
theorem nat_cast_div (a b : Nat) : ((a : Int) / (b : Int)) = ((a / b : Nat) : Int) := rfl
theorem nat_cast_mod (a b : Nat) : ((a : Int) % (b : Int)) = ((a % b : Nat) : Int) := rfl
theorem nat_cast_mul (a b : Nat) : ((a : Int) * (b : Int)) = ((a * b : Nat) : Int) := rfl
theorem nat_cast_add (a b : Nat) : ((a : Int) + (b : Int)) = ((a + b : Nat) : Int) := rfl
theorem lc_step {gt : D → De → Option De} {fe : Mr D} {vs : List Nat} {ρ ρ2 ρ3 : De} {d y : D} (a : gt d (wipeD ρ vs) = some ρ2) (b : fe ρ2 = some (.ok y ρ3)) (c : wipeD ρ3 vs = wipeD ρ vs) : ∃ ρ2 ρ3, gt d (wipeD ρ vs) = some ρ2 ∧ fe ρ2 = some (.ok y ρ3) ∧ wipeD ρ3 vs = wipeD ρ vs := ⟨_, _, a, b, c⟩
theorem for_nx {gt : D → De → Option De} {body : Mr Fl} {ρ ρ1 ρ2 : De} {d : D} {P : De → Prop} (a : gt d ρ = some ρ1) (b : body ρ1 = some (.ok .nx ρ2)) (c : P ρ2) : ∃ ρ1 ρ2, gt d ρ = some ρ1 ∧ (body ρ1 = some (.ok .nx ρ2) ∨ body ρ1 = some (.ok .ct ρ2)) ∧ P ρ2 := ⟨_, _, a, .inl b, c⟩
theorem mFor_fold {σ α : Type} {fi : Mr (List D)} {gt : D → De → Option De} {body : Mr Fl} {ρ ρ1 : De} (E : σ → De → Prop) (enc : α → D) (step : σ → α → σ) (xs : List α) (s : σ) (hfi : fi ρ = some (.ok (xs.map enc) ρ1)) (h0 : E s ρ1)
    (hs : ∀ s x ρ, x ∈ xs → E s ρ → ∃ ρ1 ρ2, gt (enc x) ρ = some ρ1 ∧ (body ρ1 = some (.ok .nx ρ2) ∨ body ρ1 = some (.ok .ct ρ2)) ∧ E (step s x) ρ2) : ∃ ρ', mFor fi gt body ρ = some (.ok .nx ρ') ∧ E (xs.foldl step s) ρ' := by
  obtain ⟨ρ', e, h⟩ := forM_fold E enc step xs s ρ1 h0 hs
  exact ⟨ρ', by rw [mFor_ok hfi, e], h⟩
theorem mFor_fd {σ α : Type} {fi : Mr (List D)} {gt : D → De → Option De} {body : Mr Fl} {ρ : De} (E : σ → De → Prop) (enc : α → D) (step : σ → α → σ) (xs : List α) (s : σ) (hfi : fi ρ = some (.ok (xs.map enc) ρ)) (h0 : E s ρ)
    (hs : ∀ s x ρ, x ∈ xs → E s ρ → ∃ ρ1 ρ2, gt (enc x) ρ = some ρ1 ∧ (body ρ1 = some (.ok .nx ρ2) ∨ body ρ1 = some (.ok .ct ρ2)) ∧ E (step s x) ρ2) : ∃ ρ', mFor fi gt body ρ = some (.ok .nx ρ') ∧ E (xs.foldl step s) ρ' := mFor_fold E enc step xs s hfi h0 hs
theorem forM_app {α β : Type} {gt : D → De → Option De} {body : Mr Fl} (E : List β → De → Prop) (enc : α → D) (g : α → β) (zs : List α) : ∀ (ys xs : List α) (ρ : De), zs = ys ++ xs → E (ys.map g) ρ →
    (∀ acc x ρ, x ∈ zs → acc.length < zs.length → E acc ρ → ∃ ρ1 ρ2, gt (enc x) ρ = some ρ1 ∧ (body ρ1 = some (.ok .nx ρ2) ∨ body ρ1 = some (.ok .ct ρ2)) ∧ E (acc ++ [g x]) ρ2) → ∃ ρ', forM gt body (xs.map enc) ρ = some (.ok .nx ρ') ∧ E (zs.map g) ρ'
  | ys, [], ρ, hz, h0, _ => ⟨ρ, rfl, by rw [hz, List.append_nil]; exact h0⟩
  | ys, x :: xs, ρ, hz, h0, hs => by
    obtain ⟨ρ1, ρ2, e1, e2, h2⟩ := hs (ys.map g) x ρ (by rw [hz]; simp) (by rw [hz]; simp) h0
    obtain ⟨ρ', e3, h3⟩ := forM_app E enc g zs (ys ++ [x]) xs ρ2 (by rw [hz]; simp) (by rw [List.map_append]; exact h2) hs
    refine ⟨ρ', ?_, h3⟩
    rw [List.map_cons]
    unfold forM
    rw [e1]
    dsimp only
    rcases e2 with e2 | e2 <;> rw [e2] <;> exact e3
/-- a loop that grows a list -/
theorem mFor_app {α β : Type} {fi : Mr (List D)} {gt : D → De → Option De} {body : Mr Fl} {ρ : De} (E : List β → De → Prop) (enc : α → D) (g : α → β) (xs : List α) (hfi : fi ρ = some (.ok (xs.map enc) ρ)) (h0 : E [] ρ)
    (hs : ∀ acc x ρ, x ∈ xs → acc.length < xs.length → E acc ρ → ∃ ρ1 ρ2, gt (enc x) ρ = some ρ1 ∧ (body ρ1 = some (.ok .nx ρ2) ∨ body ρ1 = some (.ok .ct ρ2)) ∧ E (acc ++ [g x]) ρ2) : ∃ ρ', mFor fi gt body ρ = some (.ok .nx ρ') ∧ E (xs.map g) ρ' := by
  obtain ⟨ρ', e, h⟩ := forM_app (gt := gt) (body := body) E enc g xs [] xs ρ rfl h0 hs
  exact ⟨ρ', by rw [mFor_ok hfi, e], h⟩
theorem dAdd_l {xs ys : List D} (h : xs.length + ys.length ≤ 16777216) : dAdd (.lst xs) (.lst ys) = some (.lst (xs ++ ys)) := if_pos h
theorem dAdd_t {xs ys : List D} (h : xs.length + ys.length ≤ 16777216) : dAdd (.tup xs) (.tup ys) = some (.tup (xs ++ ys)) := if_pos h
theorem bAll_true {xs : List D} (h : ∀ x ∈ xs, x = .bl true) : bAll [.lst xs] = some (.bl true) := by
  have : boolsD xs = some (xs.map fun _ => true) := by
    induction xs with
    | nil => rfl
    | cons x xs ih =>
      rw [h x List.mem_cons_self]
      unfold boolsD
      rw [ih fun y hy => h y (List.mem_cons_of_mem _ hy)]; rfl
  show (boolsD xs).map _ = _
  rw [this]
  simp
theorem dEq_nat (n m : Nat) : dEq (.int n) (.int m) = some (.bl (decide (n = m))) := by
  rw [dEq_i]
  congr 2
  rw [Bool.eq_iff_iff]
  simp only [beq_iff_eq, decide_eq_true_eq]
  omega
/-- what is built of numbers and nothing, to a depth -/
def Dat : Nat → D → Prop
  | 0, d => d = .non ∨ ∃ i, d = .int i
  | n + 1, d => (d = .non ∨ ∃ i, d = .int i) ∨ ∃ xs, (d = .lst xs ∨ d = .tup xs) ∧ xs.length ≤ 16777216 ∧ ∀ x ∈ xs, Dat n x
theorem Dat.up : ∀ {n : Nat} {d : D}, Dat n d → Dat (n + 1) d
  | 0, _, h => .inl h
  | n + 1, _, .inl h => .inl h
  | n + 1, _, .inr ⟨xs, a, b, c⟩ => .inr ⟨xs, a, b, fun x hx => (c x hx).up⟩
theorem Dat.non {n : Nat} : Dat n .non := by cases n with
  | zero => exact .inl rfl
  | succ n => exact .inl (.inl rfl)
theorem Dat.int {n : Nat} {i : Int} : Dat n (.int i) := by cases n with
  | zero => exact .inr ⟨_, rfl⟩
  | succ n => exact .inl (.inr ⟨_, rfl⟩)
theorem Dat.lst {n : Nat} {xs : List D} (h : xs.length ≤ 16777216) (h2 : ∀ x ∈ xs, Dat n x) : Dat (n + 1) (.lst xs) := .inr ⟨xs, .inl rfl, h, h2⟩
theorem Dat.tup {n : Nat} {xs : List D} (h : xs.length ≤ 16777216) (h2 : ∀ x ∈ xs, Dat n x) : Dat (n + 1) (.tup xs) := .inr ⟨xs, .inr rfl, h, h2⟩
section
variable {α β : Type} (ρ : De)
theorem bnd_ap (f : Mr α) (g : α → Mr β) : bnd f g ρ = (match f ρ with | none => none | some (.ok a ρ') => g a ρ' | some (.ex x ρ') => some (.ex x ρ')) := by unfold bnd; rfl
theorem lft_ap (o : Option α) : lft o ρ = (match o with | none => none | some a => some (.ok a ρ)) := by unfold lft; rfl
theorem ret_ap (a : α) : ret a ρ = some (.ok a ρ) := rfl
theorem mSeq_ap (f g : Mr Fl) : mSeq f g ρ = (match f ρ with | some (.ok .nx ρ') => g ρ' | r => r) := by unfold mSeq; rfl
theorem mVar_ap (i : Nat) : mVar i ρ = (match ρ[i]? with | some (some d) => some (.ok d ρ) | _ => none) := rfl
theorem mMov_ap (i : Nat) : mMov i ρ = (match ρ[i]? with | some (some d) => (match isShd d with | true => none | false => some (.ok d (ρ.set i none))) | _ => none) := by
  unfold mMov
  cases ρ[i]? with
  | none => rfl
  | some o =>
    cases o with
    | none => rfl
    | some d =>
      dsimp only
      cases isShd d <;> rfl
theorem isShd_non : isShd .non = false := rfl
theorem isShd_bl (b : Bool) : isShd (.bl b) = false := rfl
theorem isShd_int (i : Int) : isShd (.int i) = false := rfl
theorem isShd_str (i : Str) : isShd (.str i) = false := rfl
theorem isShd_lst (i : List D) : isShd (.lst i) = false := rfl
theorem isShd_tup (i : List D) : isShd (.tup i) = false := rfl
theorem isShd_frl (i : List D) : isShd (.frl i) = false := rfl
theorem isShd_shd (i : D) : isShd (.shd i) = true := rfl
theorem unsh_non : unsh .non = .non := rfl
theorem unsh_bl (b : Bool) : unsh (.bl b) = (.bl b) := rfl
theorem unsh_int (i : Int) : unsh (.int i) = (.int i) := rfl
theorem unsh_str (i : Str) : unsh (.str i) = (.str i) := rfl
theorem unsh_lst (i : List D) : unsh (.lst i) = (.lst i) := rfl
theorem unsh_tup (i : List D) : unsh (.tup i) = (.tup i) := rfl
theorem unsh_frl (i : List D) : unsh (.frl i) = (.frl i) := rfl
theorem unsh_shd (i : D) : unsh (.shd i) = i := rfl
theorem ite_lim {α : Type} {n : Nat} {x y : α} (h : n < 16777216) : (if n < 16777216 then x else y) = x := if_pos h
theorem dLst_nil : dLst [] = some (.lst []) := rfl
theorem dTup_nil : dTup [] = some (.tup []) := rfl
theorem mTk_ap (i : Nat) : mTk i ρ = (match ρ[i]? with | some (some d) => some (.ok d (ρ.set i none)) | _ => none) := rfl
theorem mFz_ap (i : Nat) : mFz i ρ = (match ρ[i]? with | some (some d) => some (.ok (unsh d) (ρ.set i (some (.shd (unsh d))))) | _ => none) := rfl
theorem mScal_ap (f : Mr D) : mScal f ρ = bnd f (fun d => if scal d then ret d else fun _ => none) ρ := rfl
theorem mScl1_ap (f : Mr D) : mScl1 f ρ = bnd f (fun d => if scal1 d then ret d else fun _ => none) ρ := rfl
theorem mOp_ap (g : D → D → Option D) (f f' : Mr D) : mOp g f f' ρ = bnd f (fun a => bnd f' fun b => lft (g a b)) ρ := by
  unfold mOp mPair bnd
  cases f ρ with
  | none => rfl
  | some r => cases r with
    | ex x ρ => rfl
    | ok a ρ1 =>
      dsimp only
      cases f' ρ1 with
      | none => rfl
      | some r => cases r <;> rfl
theorem mUn_ap (g : D → Option D) (f : Mr D) : mUn g f ρ = bnd f (fun a => lft (g a)) ρ := rfl
theorem mPair_ap (f : Mr α) (g : Mr β) : mPair f g ρ = bnd f (fun a => bnd g fun b => ret (a, b)) ρ := rfl
theorem mNil_ap : mNil ρ = some (.ok [] ρ) := rfl
theorem mCons_ap (f : Mr D) (g : Mr (List D)) : mCons f g ρ = bnd f (fun a => bnd g fun b => ret (a :: b)) ρ := by
  unfold mCons mPair bnd
  cases f ρ with
  | none => rfl
  | some r => cases r with
    | ex x ρ => rfl
    | ok a ρ1 =>
      dsimp only
      cases g ρ1 with
      | none => rfl
      | some r => cases r <;> rfl
theorem mCall_ap (g : List D → Option D) (f : Mr (List D)) : mCall g f ρ = bnd f (fun ds => lft (g ds)) ρ := rfl
theorem mCl0_ap (ks : List AK) (F : List D → Option (Rs D)) (fr : Mr (List D)) : mCl0 ks F fr ρ = bnd fr (fun ds ρ => match F ds with | some (.ok d fs) => some (.ok d (backIo ks fs ρ)) | _ => none) ρ := rfl
theorem mClX_ap (ks : List AK) (F : List D → Option (Rs D)) (fr : Mr (List D)) : mClX ks F fr ρ = bnd fr (fun ds ρ => match F ds with | some (.ok d fs) => some (.ok d (backIo ks fs ρ)) | some (.ex x fs) => some (.ex x (backIo ks fs ρ)) | none => none) ρ := rfl
theorem mIf_ap (g : Mr Bool) (f f' : Mr α) : mIf g f f' ρ = bnd g (fun k ρ => if k = true then f ρ else f' ρ) ρ := by
  unfold mIf bnd
  cases g ρ with
  | none => rfl
  | some r => cases r with
    | ex x ρ => rfl
    | ok a ρ1 => cases a <;> rfl
theorem mNot_ap (g : Mr Bool) : mNot g ρ = bnd g (fun k => ret (!k)) ρ := rfl
theorem mAnd_ap (g g' : Mr Bool) : mAnd g g' ρ = bnd g (fun k ρ => if k = true then g' ρ else some (.ok false ρ)) ρ := by
  unfold mAnd bnd
  cases g ρ with
  | none => rfl
  | some r => cases r with
    | ex x ρ => rfl
    | ok a ρ1 => cases a <;> rfl
theorem mOr_ap (g g' : Mr Bool) : mOr g g' ρ = bnd g (fun k ρ => if k = true then some (.ok true ρ) else g' ρ) ρ := by
  unfold mOr bnd
  cases g ρ with
  | none => rfl
  | some r => cases r with
    | ex x ρ => rfl
    | ok a ρ1 => cases a <;> rfl
theorem mAndV_ap (f f' : Mr D) : mAndV f f' ρ = bnd f (fun d => bnd (lft (dTr d)) fun k ρ => if k = true then f' ρ else some (.ok d ρ)) ρ := by
  unfold mAndV bnd lft
  cases f ρ with
  | none => rfl
  | some r => cases r with
    | ex x ρ => rfl
    | ok a ρ1 =>
      dsimp only
      cases dTr a with
      | none => rfl
      | some k => cases k <;> rfl
theorem mOrV_ap (f f' : Mr D) : mOrV f f' ρ = bnd f (fun d => bnd (lft (dTr d)) fun k ρ => if k = true then some (.ok d ρ) else f' ρ) ρ := by
  unfold mOrV bnd lft
  cases f ρ with
  | none => rfl
  | some r => cases r with
    | ex x ρ => rfl
    | ok a ρ1 =>
      dsimp only
      cases dTr a with
      | none => rfl
      | some k => cases k <;> rfl
theorem mNotV_ap (f : Mr D) : mNotV f ρ = bnd f (fun d => bnd (lft (dTr d)) fun k => ret (.bl (!k))) ρ := rfl
theorem mChain_ap (g g' : D → D → Option D) (fa fb fc : Mr D) : mChain g g' fa fb fc ρ = bnd (mPair fa fb) (fun p => bnd (lft ((g p.1 p.2).bind dBool)) fun k => if k = true then bnd fc fun z => lft (g' p.2 z) else ret (.bl false)) ρ := by unfold mChain; rfl
theorem mAsg_ap (f : Mr D) (gt : D → De → Option De) : mAsg f gt ρ = bnd f (fun d ρ => match gt d ρ with | none => none | some ρ' => some (.ok .nx ρ')) ρ := rfl
theorem mSkip_ap : mSkip ρ = some (.ok .nx ρ) := rfl
theorem mRng_ap (f : Mr (List D)) : mRng f ρ = bnd f (fun ds => lft (dRng ds)) ρ := rfl
end
section
variable (ρ : De)
theorem mRead_ap (i : Nat) (f : Mr (D × List Nat)) : mRead i f ρ = bnd f (fun rp ρ => match getP rp.1 rp.2 with | some d => some (.ok (unsh d) (ρ.set i (some rp.1))) | none => none) ρ := rfl
theorem mReadU_ap (i : Nat) (f : Mr (D × List Nat)) : mReadU i f ρ = bnd f (fun rp ρ => match (getP rp.1 rp.2).bind shOf with | some d => some (.ok d (ρ.set i (some rp.1))) | none => none) ρ := rfl
theorem mApp_ap (i : Nat) (f : Mr (D × List Nat)) (fe : Mr (List D)) : mApp i f fe ρ = bnd f (fun rp ρ => match getP rp.1 rp.2 with
  | some (.lst ds) => (match fe ρ with
    | some (.ok [d] ρ') => if ds.length < lim then some (.ok .non (ρ'.set i (some (setP rp.1 rp.2 (.lst (ds ++ [d])))))) else none
    | _ => none)
  | _ => none) ρ := rfl
theorem mPop_ap (i : Nat) (f : Mr (D × List Nat)) (fe : Mr (List D)) : mPop i f fe ρ = bnd f (fun rp ρ => match getP rp.1 rp.2 with
  | some (.lst ds) => (match fe ρ with
    | some (.ok as ρ') => (match popIx ds.length as with
      | some k => (match ds[k]? with
        | some d => some (.ok d (ρ'.set i (some (setP rp.1 rp.2 (.lst (ds.eraseIdx k))))))
        | none => none)
      | none => none)
    | _ => none)
  | _ => none) ρ := rfl
theorem mPopV_ap (i : Nat) (fe : Mr (List D)) : mPopV i fe ρ = (match ρ[i]? with
  | some (some (.lst _)) => (match fe ρ with
    | some (.ok as ρ') => (match ρ'[i]? with
      | some (some (.lst ds)) => (match popIx ds.length as with
        | some k => (match ds[k]? with
          | some d => some (.ok d ((ρ'.set i none).set i (some (.lst (ds.eraseIdx k)))))
          | none => none)
        | none => none)
      | _ => none)
    | _ => none)
  | _ => none) := rfl
theorem mDisp_ap (ks : List Key) (fr : Mr (List D)) : mDisp ks fr ρ = bnd fr (fun ds => ret (.dK ks ds)) ρ := rfl
theorem mLen_ap (i : Nat) (f : Mr (D × List Nat)) : mLen i f ρ = bnd f (fun rp ρ => match getP rp.1 rp.2 with
  | some d => (match anyItems d with
    | some ds => some (.ok (.int ds.length) (ρ.set i (some rp.1)))
    | none => none)
  | none => none) ρ := rfl
end
theorem sz_nat {m n : Nat} (hn : 0 < n) : Builtin.Range.rangeSize 0 (m : Int) (n : Int) = (((m + n - 1) / n : Nat) : Int) := by
  unfold Builtin.Range.rangeSize
  rw [if_pos (by omega)]
  split
  · rename_i h
    have h : 0 < m := by omega
    obtain ⟨k, rfl⟩ : ∃ k, m = k + 1 := ⟨m - 1, by omega⟩
    rw [show k + 1 + n - 1 = k + n by omega, Nat.add_div_right _ hn, show ((k + 1 : Nat) : Int) - 0 - 1 = (k : Nat) by omega]
    rfl
  · have h : m = 0 := by omega
    subst h
    rw [Nat.zero_add, Nat.div_eq_of_lt (by omega)]; rfl
theorem sz_le {m n : Nat} (hn : 0 < n) : (m + n - 1) / n ≤ m := by
  rcases Nat.eq_zero_or_pos m with h | h
  · subst h; rw [Nat.zero_add, Nat.div_eq_of_lt (by omega)]; omega
  · obtain ⟨k, rfl⟩ : ∃ k, m = k + 1 := ⟨m - 1, by omega⟩
    rw [show k + 1 + n - 1 = k + n by omega, Nat.add_div_right _ hn]
    have := Nat.div_le_self k n
    omega
theorem sz_mul {m n i : Nat} (hn : 0 < n) (h : i < (m + n - 1) / n) : i * n < m := by
  have h1 := Nat.mul_le_mul_right n (Nat.succ_le_of_lt h)
  have h2 := Nat.div_mul_le_self (m + n - 1) n
  rw [Nat.succ_mul] at h1
  omega
theorem dRng3 {m n : Nat} (hm : m < 1000000) (hn : 0 < n) (hn2 : n < 1000000) : dRng [.int 0, .int (m : Nat), .int (n : Nat)] = some ((List.range ((m + n - 1) / n)).map fun i : Nat => .int (i * n : Nat)) := by
  have hs : Builtin.Range.small 0 (m : Int) (n : Int) = true := by
    have h1 := sz_le (m := m) hn
    unfold Builtin.Range.small
    rw [sz_nat hn]
    simp only [Builtin.Range.rangeFitsLong, Bool.and_eq_true, Bool.or_eq_true, decide_eq_true_eq, beq_iff_eq]
    generalize ((m + n - 1) / n) = q at *
    refine ⟨⟨⟨⟨by decide, by omega, by omega⟩, by omega, by omega⟩, by omega, by omega⟩, .inr ?_⟩
    rw [if_pos (by omega)]
    simp only [Bool.and_eq_true, decide_eq_true_eq]
    omega
  have e : ((n : Int) != 0 && decide ((n : Int).natAbs < 1073741824) && Builtin.Range.small 0 (m : Int) (n : Int)) = true := by
    rw [hs]
    simp
    omega
  have e2 : dRng [.int 0, .int (m : Nat), .int (n : Nat)] = if ((n : Int) != 0 && decide ((n : Int).natAbs < 1073741824) && Builtin.Range.small 0 (m : Int) (n : Int)) = true then some (rgC 0 n (Builtin.Range.rangeSize 0 m n).toNat) else none := by
    unfold dRng
    simp only
  rw [e2, e, if_pos rfl]
  unfold rgC
  rw [sz_nat hn, Int.toNat_natCast]
  refine congrArg some (List.map_congr_left fun i _ => congrArg D.int ?_)
  rw [Int.zero_add, Int.natCast_mul]
theorem bMin2 (i j : Int) : bMin [.int i, .int j] = some (.int (if j < i then j else i)) := rfl
theorem bMin_n (i j : Nat) : bMin [.int i, .int j] = some (.int (min i j : Nat)) := by
  rw [bMin2]
  congr 2
  split <;> omega
theorem nat_cast_sub {a b : Nat} (h : b ≤ a) : ((a : Int) - (b : Int)) = ((a - b : Nat) : Int) := by omega
theorem nat_add_lit (a n : Nat) : ((a : Int) + (no_index (OfNat.ofNat n) : Int)) = ((a + OfNat.ofNat n : Nat) : Int) := rfl
theorem lit_add_nat (a n : Nat) : ((no_index (OfNat.ofNat n) : Int) + (a : Int)) = ((OfNat.ofNat n + a : Nat) : Int) := rfl
theorem nat_mul_lit (a n : Nat) : ((a : Int) * (no_index (OfNat.ofNat n) : Int)) = ((a * OfNat.ofNat n : Nat) : Int) := rfl
theorem lit_mul_nat (a n : Nat) : ((no_index (OfNat.ofNat n) : Int) * (a : Int)) = ((OfNat.ofNat n * a : Nat) : Int) := rfl
theorem nat_div_lit (a n : Nat) : ((a : Int) / (no_index (OfNat.ofNat n) : Int)) = ((a / OfNat.ofNat n : Nat) : Int) := rfl
theorem nat_mod_lit (a n : Nat) : ((a : Int) % (no_index (OfNat.ofNat n) : Int)) = ((a % OfNat.ofNat n : Nat) : Int) := rfl
theorem nat_sub_lit {a n : Nat} (h : OfNat.ofNat n ≤ a) : ((a : Int) - (no_index (OfNat.ofNat n) : Int)) = ((a - OfNat.ofNat n : Nat) : Int) := nat_cast_sub h
theorem nat_lt (a b : Nat) : ((a : Int) < (b : Int)) = (a < b) := propext Int.ofNat_lt
theorem nat_le (a b : Nat) : ((a : Int) ≤ (b : Int)) = (a ≤ b) := propext Int.ofNat_le
theorem nat_eq (a b : Nat) : (((a : Int) == (b : Int)) : Bool) = (a == b) := by
  rw [Bool.eq_iff_iff]
  simp only [beq_iff_eq]
  omega
theorem nat_lt_lit (a n : Nat) : ((a : Int) < (no_index (OfNat.ofNat n) : Int)) = (a < OfNat.ofNat n) := propext Int.ofNat_lt
theorem lit_lt_nat (a n : Nat) : ((no_index (OfNat.ofNat n) : Int) < (a : Int)) = (OfNat.ofNat n < a) := propext Int.ofNat_lt
theorem nat_le_lit (a n : Nat) : ((a : Int) ≤ (no_index (OfNat.ofNat n) : Int)) = (a ≤ OfNat.ofNat n) := propext Int.ofNat_le
theorem lit_le_nat (a n : Nat) : ((no_index (OfNat.ofNat n) : Int) ≤ (a : Int)) = (OfNat.ofNat n ≤ a) := propext Int.ofNat_le
theorem dRng_two {m : Nat} (hm : m < 1000000) : dRng [.int 0, .int (m : Nat), .int 2] = some ((List.range ((m + 1) / 2)).map fun i : Nat => .int (i * 2 : Nat)) := dRng3 (n := 2) hm (by omega) (by omega)
theorem bodyF0_ok {n : Nat} {f : Mr Fl} {ds : List D} {d : D} {ρ0 ρ : De} (h0 : ds.map some ++ List.replicate (n - ds.length) none = ρ0) (h : f ρ0 = some (.ok (.rt d) ρ)) : bodyF0 n [] f ds = some (.ok d (List.replicate ds.length none)) := by
  unfold bodyF0
  rw [h0, h]
  dsimp only
  rw [maskIo_nil]
theorem bnd_ret {f : Mr D} {ρ ρ1 : De} {d : D} (h : f ρ = some (.ok d ρ1)) : bnd f (fun d => Dl.ret (Fl.rt d)) ρ = some (.ok (Fl.rt d) ρ1) := by
  rw [bnd_ok h]; rfl
theorem dTup_1 (a : D) : dTup [a] = some (.tup [a]) := rfl
theorem dLst_1 (a : D) : dLst [a] = some (.lst [a]) := rfl
theorem dTup_2 (a b : D) : dTup [a, b] = some (.tup [a, b]) := rfl
theorem dLst_2 (a b : D) : dLst [a, b] = some (.lst [a, b]) := rfl
theorem dTup_3 (a b c : D) : dTup [a, b, c] = some (.tup [a, b, c]) := rfl
theorem dLst_3 (a b c : D) : dLst [a, b, c] = some (.lst [a, b, c]) := rfl
theorem dTup_4 (a b c d : D) : dTup [a, b, c, d] = some (.tup [a, b, c, d]) := rfl
theorem dLst_4 (a b c d : D) : dLst [a, b, c, d] = some (.lst [a, b, c, d]) := rfl
theorem dTup_5 (a b c d e : D) : dTup [a, b, c, d, e] = some (.tup [a, b, c, d, e]) := rfl
theorem dLst_5 (a b c d e : D) : dLst [a, b, c, d, e] = some (.lst [a, b, c, d, e]) := rfl
theorem toNat_lit (n : Nat) : Int.toNat (no_index (OfNat.ofNat n)) = OfNat.ofNat n := rfl
theorem dRng_n {n : Nat} (h : n ≤ 1000000000) : dRng [.int (n : Nat)] = some ((List.range n).map fun i : Nat => .int i) := by
  rw [dRng1 (by omega), rgC_map, Int.toNat_natCast]
theorem whileM_stop {g : Mr Bool} {f : Mr Fl} {ρ ρ1 : De} {n : Nat} (h : g ρ = some (.ok false ρ1)) : whileM g f (n + 1) ρ = some (.ok .nx ρ1) := by
  unfold whileM
  rw [h]
theorem whileM_go {g : Mr Bool} {f : Mr Fl} {ρ ρ1 ρ2 : De} {n : Nat} (h : g ρ = some (.ok true ρ1)) (h2 : f ρ1 = some (.ok .nx ρ2)) : whileM g f (n + 1) ρ = whileM g f n ρ2 := by
  conv => lhs; unfold whileM
  rw [h]
  dsimp only
  rw [h2]
/-- the greatest common divisor by remainders -/
theorem whileM_euclid {g : Mr Bool} {f : Mr Fl} (mk : Nat → Nat → De) (h0 : ∀ a, g (mk a 0) = some (.ok false (mk a 0))) (h1 : ∀ a b, 0 < b → g (mk a b) = some (.ok true (mk a b))) (hf : ∀ a b, 0 < b → f (mk a b) = some (.ok .nx (mk b (a % b)))) :
    ∀ (n a b fuel : Nat), b < 2 ^ n → 2 * n < fuel → whileM g f fuel (mk a b) = some (.ok .nx (mk (Nat.gcd a b) 0))
  | 0, a, b, fuel, hb, hl => by
    obtain ⟨k, rfl⟩ : ∃ k, fuel = k + 1 := ⟨fuel - 1, by omega⟩
    have : b = 0 := by simpa using hb
    subst this
    rw [whileM_stop (h0 a), Nat.gcd_zero_right]
  | n + 1, a, b, fuel, hb, hl => by
    obtain ⟨k, rfl⟩ : ∃ k, fuel = k + 2 := ⟨fuel - 2, by omega⟩
    rcases Nat.eq_zero_or_pos b with e | e
    · subst e
      rw [whileM_stop (h0 a), Nat.gcd_zero_right]
    rw [whileM_go (h1 a b e) (hf a b e)]
    have eg : Nat.gcd a b = Nat.gcd b (a % b) := by rw [Nat.gcd_comm a b, Nat.gcd_rec b a, Nat.gcd_comm]
    rcases Nat.eq_zero_or_pos (a % b) with e2 | e2
    · rw [eg, e2, whileM_stop (h0 b), Nat.gcd_zero_right]
    rw [whileM_go (h1 b _ e2) (hf b _ e2)]
    have eg2 : Nat.gcd b (a % b) = Nat.gcd (a % b) (b % (a % b)) := by rw [Nat.gcd_comm b, Nat.gcd_rec (a % b) b, Nat.gcd_comm]
    rw [eg, eg2]
    refine whileM_euclid mk h0 h1 hf n _ _ k ?_ (by omega)
    have r1 := Nat.mod_lt b e2
    have r2 := Nat.mod_lt a e
    have r3 := Nat.div_add_mod b (a % b)
    have r4 : 1 ≤ b / (a % b) := Nat.div_pos (by omega) e2
    have r5 : a % b ≤ (a % b) * (b / (a % b)) := Nat.le_mul_of_pos_right _ r4
    rw [Nat.pow_succ] at hb
    omega
end Dl
/-! Dl, fourteenth part: what holds of a mirror's end, step by step. -/
namespace Dl
open PySem L2
def kR {α : Type} (o : Option (Rs α)) (Q : Rs α → Prop) : Prop := match o with
  | some r => Q r
  | none => False
def Wp {α : Type} (f : Mr α) (ρ : De) (Q : Rs α → Prop) : Prop := kR (f ρ) Q
section
variable {α β : Type} {ρ : De}
def kB (g : α → Mr β) (Q : Rs β → Prop) : Rs α → Prop
  | .ok a ρ => Wp (g a) ρ Q
  | .ex x ρ => Q (.ex x ρ)
def kL (g : α → De → Option (Rs β)) (Q : Rs β → Prop) : Rs α → Prop
  | .ok a ρ => kR (g a ρ) Q
  | .ex x ρ => Q (.ex x ρ)
/-- a test -/
abbrev kTg (_ _ : Prop) : Type := Unit
def kC (k : Bool) (P P' : Prop) (_ : kTg P P' := (() : Unit)) (_ : True := trivial) : Prop := if k = true then P else P'
theorem kC_true (P P' : Prop) : kC true P P' = P := propext Iff.rfl
theorem kC_false (P P' : Prop) : kC false P P' = P' := propext Iff.rfl
theorem kC_by {k : Bool} {P P' : Prop} (h : k = true → P) (h' : k = false → P') : kC k P P' := by cases k with
  | true => exact h rfl
  | false => exact h' rfl
theorem kC_if {p : Prop} [Decidable p] {P P' : Prop} (h : p → P) (h' : ¬p → P') : kC (decide p) P P' := kC_by (fun e => h (of_decide_eq_true e)) fun e => h' (of_decide_eq_false e)
theorem kC_t {k : Bool} {P P' : Prop} (h : k = true) : kC k P P' = P := by rw [h]; rfl
theorem kC_f {k : Bool} {P P' : Prop} (h : k = false) : kC k P P' = P' := by rw [h]; rfl
def kV (o : Option (Option D)) (P : D → Prop) : Prop := match o with
  | some (some d) => P d
  | _ => False
theorem kV_some (d : D) (P : D → Prop) : kV (some (some d)) P = P d := propext Iff.rfl
def kG (o : Option De) (P : De → Prop) : Prop := match o with
  | some ρ => P ρ
  | none => False
theorem kG_some (ρ : De) (P : De → Prop) : kG (some ρ) P = P ρ := propext Iff.rfl
theorem kR_some (r : Rs α) (Q : Rs α → Prop) : kR (some r) Q = Q r := propext Iff.rfl
theorem kB_ok (g : α → Mr β) (Q : Rs β → Prop) (a : α) (ρ : De) : kB g Q (.ok a ρ) = Wp (g a) ρ Q := propext Iff.rfl
theorem kB_ex (g : α → Mr β) (Q : Rs β → Prop) (x : XD) (ρ : De) : kB g Q (.ex x ρ) = Q (.ex x ρ) := propext Iff.rfl
theorem kL_ok (g : α → De → Option (Rs β)) (Q : Rs β → Prop) (a : α) (ρ : De) : kL g Q (.ok a ρ) = kR (g a ρ) Q := propext Iff.rfl
theorem kL_ex (g : α → De → Option (Rs β)) (Q : Rs β → Prop) (x : XD) (ρ : De) : kL g Q (.ex x ρ) = Q (.ex x ρ) := propext Iff.rfl
theorem wp_bnd (f : Mr α) (g : α → Mr β) (Q : Rs β → Prop) : Wp (bnd f g) ρ Q = Wp f ρ (kB g Q) := by
  unfold Wp bnd
  cases f ρ with
  | none => rfl
  | some r => cases r <;> rfl
theorem wp_bndL (f : Mr α) (g : α → De → Option (Rs β)) (Q : Rs β → Prop) : Wp (bnd f g) ρ Q = Wp f ρ (kL g Q) := by
  unfold Wp bnd
  cases f ρ with
  | none => rfl
  | some r => cases r <;> rfl
theorem wp_ret (a : α) (Q : Rs α → Prop) : Wp (ret a) ρ Q = Q (.ok a ρ) := propext Iff.rfl
def kO (o : Option α) (ρ : De) (Q : Rs α → Prop) : Prop := match o with
  | some a => Q (.ok a ρ)
  | none => False
theorem kO_some (a : α) (ρ : De) (Q : Rs α → Prop) : kO (some a) ρ Q = Q (.ok a ρ) := propext Iff.rfl
theorem wp_lft (o : Option α) (Q : Rs α → Prop) : Wp (lft o) ρ Q = kO o ρ Q := by
  cases o <;> rfl
theorem wp_var (i : Nat) (Q : Rs D → Prop) : Wp (mVar i) ρ Q = kV ρ[i]? fun d => Q (.ok d ρ) := by
  unfold Wp mVar
  cases ρ[i]? with
  | none => rfl
  | some o => cases o <;> rfl
theorem wp_mov (i : Nat) (Q : Rs D → Prop) : Wp (mMov i) ρ Q = kV ρ[i]? fun d => kC (isShd d) False (Q (.ok d (ρ.set i none))) := by
  unfold Wp
  rw [mMov_ap]
  cases ρ[i]? with
  | none => rfl
  | some o => cases o with
    | none => rfl
    | some d =>
      show kR _ _ = kC _ _ _
      dsimp only
      cases isShd d <;> rfl
theorem wp_fz (i : Nat) (Q : Rs D → Prop) : Wp (mFz i) ρ Q = kV ρ[i]? fun d => Q (.ok (unsh d) (ρ.set i (some (.shd (unsh d))))) := by
  unfold Wp mFz
  cases ρ[i]? with
  | none => rfl
  | some o => cases o <;> rfl
theorem wp_tk (i : Nat) (Q : Rs D → Prop) : Wp (mTk i) ρ Q = kV ρ[i]? fun d => Q (.ok d (ρ.set i none)) := by
  unfold Wp mTk
  cases ρ[i]? with
  | none => rfl
  | some o => cases o <;> rfl
theorem wp_cg {f g : Mr α} {Q : Rs α → Prop} (h : f ρ = g ρ) : Wp f ρ Q = Wp g ρ Q := by unfold Wp; rw [h]
theorem wp_pair (f : Mr α) (g : Mr β) (Q : Rs (α × β) → Prop) : Wp (mPair f g) ρ Q = Wp f ρ (kB (fun a => bnd g fun b => ret (a, b)) Q) := wp_bnd _ _ _
theorem wp_nil (Q : Rs (List D) → Prop) : Wp mNil ρ Q = Q (.ok [] ρ) := propext Iff.rfl
theorem wp_cons (f : Mr D) (g : Mr (List D)) (Q : Rs (List D) → Prop) : Wp (mCons f g) ρ Q = Wp f ρ (kB (fun a => bnd g fun b => ret (a :: b)) Q) := by
  rw [← wp_bnd]; exact wp_cg (mCons_ap ρ f g)
theorem wp_op (g : D → D → Option D) (f f' : Mr D) (Q : Rs D → Prop) : Wp (mOp g f f') ρ Q = Wp f ρ (kB (fun a => bnd f' fun b => lft (g a b)) Q) := by
  rw [← wp_bnd]; exact wp_cg (mOp_ap ρ g f f')
theorem wp_un (g : D → Option D) (f : Mr D) (Q : Rs D → Prop) : Wp (mUn g f) ρ Q = Wp f ρ (kB (fun a => lft (g a)) Q) := wp_bnd _ _ _
theorem wp_call (g : List D → Option D) (f : Mr (List D)) (Q : Rs D → Prop) : Wp (mCall g f) ρ Q = Wp f ρ (kB (fun a => lft (g a)) Q) := wp_bnd _ _ _
theorem wp_rng (f : Mr (List D)) (Q : Rs (List D) → Prop) : Wp (mRng f) ρ Q = Wp f ρ (kB (fun a => lft (dRng a)) Q) := wp_bnd _ _ _
theorem wp_scal (f : Mr D) (Q : Rs D → Prop) : Wp (mScal f) ρ Q = Wp f ρ (kL (fun d ρ => if scal d then some (.ok d ρ) else none) Q) := by
  rw [← wp_bndL]; exact wp_cg (by
    unfold mScal bnd
    cases f ρ with
    | none => rfl
    | some r => cases r with
      | ex => rfl
      | ok a ρ => dsimp only; cases scal a <;> rfl)
theorem wp_scl1 (f : Mr D) (Q : Rs D → Prop) : Wp (mScl1 f) ρ Q = Wp f ρ (kL (fun d ρ => if scal1 d then some (.ok d ρ) else none) Q) := by
  rw [← wp_bndL]; exact wp_cg (by
    unfold mScl1 bnd
    cases f ρ with
    | none => rfl
    | some r => cases r with
      | ex => rfl
      | ok a ρ => dsimp only; cases scal1 a <;> rfl)
/-! tests -/
def kI (f f' : Mr α) (Q : Rs α → Prop) : Rs Bool → Prop
  | .ok k ρ => kC k (Wp f ρ Q) (Wp f' ρ Q)
  | .ex x ρ => Q (.ex x ρ)
theorem kI_ok (f f' : Mr α) (Q : Rs α → Prop) (k : Bool) (ρ : De) : kI f f' Q (.ok k ρ) = kC k (Wp f ρ Q) (Wp f' ρ Q) := propext Iff.rfl
theorem wp_if (g : Mr Bool) (f f' : Mr α) (Q : Rs α → Prop) : Wp (mIf g f f') ρ Q = Wp g ρ (kI f f' Q) := by
  unfold Wp mIf bnd
  cases g ρ with
  | none => rfl
  | some r => cases r with
    | ex => rfl
    | ok k ρ => cases k <;> rfl
theorem wp_not (g : Mr Bool) (Q : Rs Bool → Prop) : Wp (mNot g) ρ Q = Wp g ρ (kB (fun k => ret (!k)) Q) := wp_bnd _ _ _
theorem wp_and (g g' : Mr Bool) (Q : Rs Bool → Prop) : Wp (mAnd g g') ρ Q = Wp g ρ (kI g' (ret false) Q) := by rw [← wp_if]; rfl
theorem wp_or (g g' : Mr Bool) (Q : Rs Bool → Prop) : Wp (mOr g g') ρ Q = Wp g ρ (kI (ret true) g' Q) := by rw [← wp_if]; rfl
def mIfK (k : Bool) (f f' : Mr α) : Mr α := if k = true then f else f'
theorem wp_ifk (k : Bool) (f f' : Mr α) (Q : Rs α → Prop) : Wp (mIfK k f f') ρ Q = kC k (Wp f ρ Q) (Wp f' ρ Q) := by cases k <;> rfl
theorem wp_andV (f f' : Mr D) (Q : Rs D → Prop) : Wp (mAndV f f') ρ Q = Wp f ρ (kB (fun d => bnd (lft (dTr d)) fun k => mIfK k f' (ret d)) Q) := by rw [← wp_bnd]; rfl
theorem wp_orV (f f' : Mr D) (Q : Rs D → Prop) : Wp (mOrV f f') ρ Q = Wp f ρ (kB (fun d => bnd (lft (dTr d)) fun k => mIfK k (ret d) f') Q) := by rw [← wp_bnd]; rfl
theorem wp_notV (f : Mr D) (Q : Rs D → Prop) : Wp (mNotV f) ρ Q = Wp f ρ (kB (fun d => bnd (lft (dTr d)) fun k => ret (.bl (!k))) Q) := wp_bnd _ _ _
theorem wp_chain (g g' : D → D → Option D) (fa fb fc : Mr D) (Q : Rs D → Prop) : Wp (mChain g g' fa fb fc) ρ Q = Wp fa ρ (kB (fun a => bnd fb fun b => bnd (lft ((g a b).bind dBool)) fun k => mIfK k (bnd fc fun z => lft (g' b z)) (ret (.bl false))) Q) := by
  rw [← wp_bnd]
  refine wp_cg ?_
  unfold mChain mPair bnd
  cases fa ρ with
  | none => rfl
  | some r => cases r with
    | ex => rfl
    | ok a ρ1 =>
      dsimp only
      cases fb ρ1 with
      | none => rfl
      | some r => cases r <;> rfl
/-! statements -/
def kS (g : Mr Fl) (Q : Rs Fl → Prop) : Rs Fl → Prop
  | .ok .nx ρ => Wp g ρ Q
  | r => Q r
theorem kS_nx (g : Mr Fl) (Q : Rs Fl → Prop) (ρ : De) : kS g Q (.ok .nx ρ) = Wp g ρ Q := propext Iff.rfl
theorem kS_rt (g : Mr Fl) (Q : Rs Fl → Prop) (d : D) (ρ : De) : kS g Q (.ok (.rt d) ρ) = Q (.ok (.rt d) ρ) := propext Iff.rfl
theorem kS_bk (g : Mr Fl) (Q : Rs Fl → Prop) (ρ : De) : kS g Q (.ok .bk ρ) = Q (.ok .bk ρ) := propext Iff.rfl
theorem kS_ct (g : Mr Fl) (Q : Rs Fl → Prop) (ρ : De) : kS g Q (.ok .ct ρ) = Q (.ok .ct ρ) := propext Iff.rfl
theorem kS_ex (g : Mr Fl) (Q : Rs Fl → Prop) (x : XD) (ρ : De) : kS g Q (.ex x ρ) = Q (.ex x ρ) := propext Iff.rfl
theorem wp_seq (f g : Mr Fl) (Q : Rs Fl → Prop) : Wp (mSeq f g) ρ Q = Wp f ρ (kS g Q) := by
  unfold Wp mSeq
  cases f ρ with
  | none => rfl
  | some r => cases r with
    | ex => rfl
    | ok a ρ => cases a <;> rfl
theorem wp_skip (Q : Rs Fl → Prop) : Wp mSkip ρ Q = Q (.ok .nx ρ) := propext Iff.rfl
def kA (gt : D → De → Option De) (Q : Rs Fl → Prop) : Rs D → Prop
  | .ok d ρ => kG (gt d ρ) fun ρ' => Q (.ok .nx ρ')
  | .ex x ρ => Q (.ex x ρ)
theorem kA_ok (gt : D → De → Option De) (Q : Rs Fl → Prop) (d : D) (ρ : De) : kA gt Q (.ok d ρ) = kG (gt d ρ) fun ρ' => Q (.ok .nx ρ') := propext Iff.rfl
theorem kA_ex (gt : D → De → Option De) (Q : Rs Fl → Prop) (x : XD) (ρ : De) : kA gt Q (.ex x ρ) = Q (.ex x ρ) := propext Iff.rfl
theorem wp_asg (f : Mr D) (gt : D → De → Option De) (Q : Rs Fl → Prop) : Wp (mAsg f gt) ρ Q = Wp f ρ (kA gt Q) := by
  unfold Wp mAsg bnd
  cases f ρ with
  | none => rfl
  | some r => cases r with
    | ex => rfl
    | ok d ρ =>
      show kR _ _ = kG _ _
      dsimp only
      cases gt d ρ <;> rfl
theorem wp_par (i j : Nat) (fr : Mr (List D)) (Q : Rs Fl → Prop) : Wp (mPar i j fr) ρ Q = Wp fr ρ (kL (fun ds ρ => match ds with
  | [d, e] => some (.ok .nx ((ρ.set i (some d)).set j (some e)))
  | _ => none) Q) := wp_bndL _ _ _
theorem wp_par3 (i j l : Nat) (fr : Mr (List D)) (Q : Rs Fl → Prop) : Wp (mPar3 i j l fr) ρ Q = Wp fr ρ (kL (fun ds ρ => match ds with
  | [d, e, f] => some (.ok .nx (((ρ.set i (some d)).set j (some e)).set l (some f)))
  | _ => none) Q) := wp_bndL _ _ _
theorem wp_aug (i : Nat) (g : Int → Int → Int) (fe : Mr D) (Q : Rs Fl → Prop) : Wp (mAug i g fe) ρ Q = kV ρ[i]? fun d => kR (match d with
  | .int x => (match fe ρ with
    | some (.ok (.int y) ρ') => some (.ok .nx (ρ'.set i (some (.int (g x y)))))
    | _ => none)
  | _ => none) Q := by
  unfold Wp mAug
  cases ρ[i]? with
  | none => rfl
  | some o => cases o with
    | none => rfl
    | some d => cases d <;> rfl
/-! places -/
theorem wp_read (i : Nat) (f : Mr (D × List Nat)) (Q : Rs D → Prop) : Wp (mRead i f) ρ Q = Wp f ρ (kL (fun rp ρ => match getP rp.1 rp.2 with
  | some d => some (.ok (unsh d) (ρ.set i (some rp.1)))
  | none => none) Q) := wp_bndL _ _ _
theorem wp_readU (i : Nat) (f : Mr (D × List Nat)) (Q : Rs D → Prop) : Wp (mReadU i f) ρ Q = Wp f ρ (kL (fun rp ρ => match (getP rp.1 rp.2).bind shOf with
  | some d => some (.ok d (ρ.set i (some rp.1)))
  | none => none) Q) := wp_bndL _ _ _
theorem wp_len (i : Nat) (f : Mr (D × List Nat)) (Q : Rs D → Prop) : Wp (mLen i f) ρ Q = Wp f ρ (kL (fun rp ρ => match getP rp.1 rp.2 with
  | some d => (match anyItems d with
    | some ds => some (.ok (.int ds.length) (ρ.set i (some rp.1)))
    | none => none)
  | none => none) Q) := wp_bndL _ _ _
def kLst (o : Option D) (P : List D → Prop) : Prop := match o with
  | some (.lst ds) => P ds
  | _ => False
theorem kLst_some (ds : List D) (P : List D → Prop) : kLst (some (.lst ds)) P = P ds := propext Iff.rfl
def mAppK (i : Nat) (rp : D × List Nat) (fe : Mr (List D)) : Mr D := fun ρ => match getP rp.1 rp.2 with
  | some (.lst ds) => (match fe ρ with
    | some (.ok [d] ρ') => if ds.length < lim then some (.ok .non (ρ'.set i (some (setP rp.1 rp.2 (.lst (ds ++ [d])))))) else none
    | _ => none)
  | _ => none
theorem wp_app (i : Nat) (f : Mr (D × List Nat)) (fe : Mr (List D)) (Q : Rs D → Prop) : Wp (mApp i f fe) ρ Q = Wp f ρ (kB (fun rp => mAppK i rp fe) Q) := wp_bnd _ _ _
def kApp (i : Nat) (rp : D × List Nat) (ds : List D) (Q : Rs D → Prop) : Rs (List D) → Prop
  | .ok [d] ρ => ds.length < lim ∧ Q (.ok .non (ρ.set i (some (setP rp.1 rp.2 (.lst (ds ++ [d]))))))
  | _ => False
theorem kApp_ok (i : Nat) (rp : D × List Nat) (ds : List D) (Q : Rs D → Prop) (d : D) (ρ : De) (h : ds.length < 16777216) : kApp i rp ds Q (.ok [d] ρ) = Q (.ok .non (ρ.set i (some (setP rp.1 rp.2 (.lst (ds ++ [d])))))) := by
  show (_ ∧ _) = _
  rw [show (ds.length < lim) = True from eq_true h, true_and]
theorem wp_appK (i : Nat) (rp : D × List Nat) (fe : Mr (List D)) (Q : Rs D → Prop) : Wp (mAppK i rp fe) ρ Q = kLst (getP rp.1 rp.2) fun ds => Wp fe ρ (kApp i rp ds Q) := by
  unfold Wp mAppK
  cases getP rp.1 rp.2 with
  | none => rfl
  | some d =>
    cases d <;> try rfl
    rename_i ds
    dsimp only [kLst]
    cases fe ρ with
    | none => rfl
    | some r => cases r with
      | ex => rfl
      | ok as ρ' =>
        cases as with
        | nil => rfl
        | cons a as => cases as with
          | cons => rfl
          | nil =>
            dsimp only [kApp]
            show kR _ _ = (_ ∧ _)
            by_cases h : ds.length < lim
            · rw [if_pos h]; exact propext ⟨fun q => ⟨h, q⟩, fun q => q.2⟩
            · rw [if_neg h]; exact propext ⟨fun q => q.elim, fun q => h q.1⟩
theorem wp_disp (ks : List Key) (fr : Mr (List D)) (Q : Rs D → Prop) : Wp (mDisp ks fr) ρ Q = Wp fr ρ (kB (fun ds => ret (.dK ks ds)) Q) := wp_bnd _ _ _
theorem wp_pop (i : Nat) (f : Mr (D × List Nat)) (fe : Mr (List D)) (Q : Rs D → Prop) : Wp (mPop i f fe) ρ Q = Wp f ρ (kL (fun rp ρ => match getP rp.1 rp.2 with
  | some (.lst ds) => (match fe ρ with
    | some (.ok as ρ') => (match popIx ds.length as with
      | some k => (match ds[k]? with
        | some d => some (.ok d (ρ'.set i (some (setP rp.1 rp.2 (.lst (ds.eraseIdx k))))))
        | none => none)
      | none => none)
    | _ => none)
  | _ => none) Q) := wp_bndL _ _ _
theorem kR_ap {f : Mr α} {Q : Rs α → Prop} : kR (f ρ) Q = Wp f ρ Q := propext Iff.rfl
/-! x[..] = v -/
def mSubK (i : Nat) (d : D) (rp : D × List Nat) (j : D) : Mr Unit := fun ρ => match j with
  | .int j => (match getP rp.1 rp.2 with
    | some (.lst ds) => (match ixN ds.length j with
      | some k => some (.ok () (ρ.set i (some (setP rp.1 rp.2 (.lst (ds.set k d))))))
      | none => none)
    | _ => none)
  | _ => none
def kU (P : De → Prop) : Rs Unit → Prop
  | .ok _ ρ => P ρ
  | .ex _ _ => False
theorem kU_ok (P : De → Prop) (u : Unit) (ρ : De) : kU P (.ok u ρ) = P ρ := propext Iff.rfl
theorem kG_sub (i : Nat) (f : Mr (D × List Nat)) (fb : Mr D) (d : D) (P : De → Prop) : kG (gtSub i f fb d ρ) P = Wp f ρ (kB (fun rp => bnd fb fun j => mSubK i d rp j) (kU P)) := by
  rw [← wp_bnd]
  unfold gtSub Wp mPair bnd
  cases f ρ with
  | none => rfl
  | some r => cases r with
    | ex => rfl
    | ok rp ρ1 =>
      obtain ⟨root, pth⟩ := rp
      dsimp only
      cases fb ρ1 with
      | none => rfl
      | some r => cases r with
        | ex => rfl
        | ok j ρ2 =>
          cases j <;> try rfl
          rename_i j
          dsimp only [ret, mSubK]
          cases getP root pth with
          | none => rfl
          | some e =>
            cases e <;> try rfl
            rename_i ds
            dsimp only
            cases ixN ds.length j <;> rfl
theorem wp_subK (i : Nat) (d : D) (rp : D × List Nat) (j : Int) (Q : Rs Unit → Prop) : Wp (mSubK i d rp (.int j)) ρ Q = kLst (getP rp.1 rp.2) fun ds => kR (match ixN ds.length j with
      | some k => some (.ok () (ρ.set i (some (setP rp.1 rp.2 (.lst (ds.set k d))))))
      | none => none) Q := by
  unfold Wp mSubK
  dsimp only
  cases getP rp.1 rp.2 with
  | none => rfl
  | some e => cases e <;> rfl
/-! calls -/
def kCl (ks : List AK) (F : List D → Option (Rs D)) (Q : Rs D → Prop) : Rs (List D) → Prop
  | .ok ds ρ => kR (F ds) fun r => match r with
    | .ok d fs => Q (.ok d (backIo ks fs ρ))
    | .ex _ _ => False
  | .ex x ρ => Q (.ex x ρ)
def kBk (ks : List AK) (ρ : De) (Q : Rs D → Prop) : Rs D → Prop
  | .ok d fs => Q (.ok d (backIo ks fs ρ))
  | .ex _ _ => False
theorem kBk_ok (ks : List AK) (ρ : De) (Q : Rs D → Prop) (d : D) (fs : De) : kBk ks ρ Q (.ok d fs) = Q (.ok d (backIo ks fs ρ)) := propext Iff.rfl
theorem kCl_ok (ks : List AK) (F : List D → Option (Rs D)) (Q : Rs D → Prop) (ds : List D) (ρ : De) : kCl ks F Q (.ok ds ρ) = kR (F ds) (kBk ks ρ Q) := by
  show kR _ _ = _
  congr 1
theorem wp_cl0 (ks : List AK) (F : List D → Option (Rs D)) (fr : Mr (List D)) (Q : Rs D → Prop) : Wp (mCl0 ks F fr) ρ Q = Wp fr ρ (kCl ks F Q) := by
  unfold Wp mCl0 bnd
  cases fr ρ with
  | none => rfl
  | some r => cases r with
    | ex => rfl
    | ok ds ρ =>
      show kR (match F ds with | some (.ok d fs) => _ | _ => none) _ = kCl ks F Q (.ok ds ρ)
      rw [kCl_ok]
      cases F ds with
      | none => rfl
      | some r => cases r <;> rfl
def kBd (io : List Nat) (n : Nat) (Q : Rs D → Prop) : Rs Fl → Prop
  | .ok (.rt d) ρ => Q (.ok d (maskIo io n ρ))
  | .ok .nx ρ => Q (.ok .non (maskIo io n ρ))
  | _ => False
theorem kBd_rt (io : List Nat) (n : Nat) (Q : Rs D → Prop) (d : D) (ρ : De) : kBd io n Q (.ok (.rt d) ρ) = Q (.ok d (maskIo io n ρ)) := propext Iff.rfl
theorem kBd_nx (io : List Nat) (n : Nat) (Q : Rs D → Prop) (ρ : De) : kBd io n Q (.ok .nx ρ) = Q (.ok .non (maskIo io n ρ)) := propext Iff.rfl
theorem kR_fn {n : Nat} {io : List Nat} {f : Mr Fl} {ds : List D} {Q : Rs D → Prop} (ρ0 : De) (h0 : ds.map some ++ List.replicate (n - ds.length) none = ρ0) (h : Wp f ρ0 (kBd io ds.length Q)) : kR (bodyF0 n io f ds) Q := by
  unfold bodyF0
  rw [h0]
  unfold Wp at h
  cases e : f ρ0 with
  | none => rw [e] at h; exact h.elim
  | some r =>
    rw [e] at h
    cases r with
    | ex => exact (show False from h).elim
    | ok fl ρ => cases fl <;> first | exact h | exact (show False from h).elim
theorem eq_of_kR {o : Option (Rs α)} {r : Rs α} (h : kR o fun x => x = r) : o = some r := by
  cases o with
  | none => exact h.elim
  | some x => exact congrArg some h
theorem kR_of_eq {o : Option (Rs α)} {r : Rs α} {Q : Rs α → Prop} (h : o = some r) (q : Q r) : kR o Q := by rw [h]; exact q
theorem kR_mono {o : Option (Rs α)} {Q Q' : Rs α → Prop} (h : kR o Q) (hq : ∀ r, Q r → Q' r) : kR o Q' := by
  cases o with
  | none => exact h
  | some r => exact hq r h
theorem Wp.mono {f : Mr α} {Q Q' : Rs α → Prop} (h : Wp f ρ Q) (hq : ∀ r, Q r → Q' r) : Wp f ρ Q' := kR_mono h hq
theorem Wp.ex {f : Mr α} {Q : Rs α → Prop} (h : Wp f ρ Q) : ∃ r, f ρ = some r ∧ Q r := by
  unfold Wp at h
  cases e : f ρ with
  | none => rw [e] at h; exact h.elim
  | some r => rw [e] at h; exact ⟨r, rfl, h⟩
/-! loops -/
def kF (P : De → Prop) (Q : Rs Fl → Prop) : Rs Fl → Prop
  | .ok .nx ρ => P ρ
  | .ok .ct ρ => P ρ
  | .ok .bk ρ => Q (.ok .nx ρ)
  | r => Q r
theorem kF_nx (P : De → Prop) (Q : Rs Fl → Prop) (ρ : De) : kF P Q (.ok .nx ρ) = P ρ := propext Iff.rfl
theorem kF_ct (P : De → Prop) (Q : Rs Fl → Prop) (ρ : De) : kF P Q (.ok .ct ρ) = P ρ := propext Iff.rfl
theorem kF_bk (P : De → Prop) (Q : Rs Fl → Prop) (ρ : De) : kF P Q (.ok .bk ρ) = Q (.ok .nx ρ) := propext Iff.rfl
theorem kF_rt (P : De → Prop) (Q : Rs Fl → Prop) (d : D) (ρ : De) : kF P Q (.ok (.rt d) ρ) = Q (.ok (.rt d) ρ) := propext Iff.rfl
theorem kF_ex (P : De → Prop) (Q : Rs Fl → Prop) (x : XD) (ρ : De) : kF P Q (.ex x ρ) = Q (.ex x ρ) := propext Iff.rfl
def mForK (gt : D → De → Option De) (body : Mr Fl) (ds : List D) : Mr Fl := fun ρ => forM gt body ds ρ
theorem wp_for (fi : Mr (List D)) (gt : D → De → Option De) (body : Mr Fl) (Q : Rs Fl → Prop) : Wp (mFor fi gt body) ρ Q = Wp fi ρ (kB (mForK gt body) Q) := wp_bnd _ _ _
theorem wp_forN (gt : D → De → Option De) (body : Mr Fl) (Q : Rs Fl → Prop) : Wp (mForK gt body []) ρ Q = Q (.ok .nx ρ) := propext Iff.rfl
theorem wp_forC (gt : D → De → Option De) (body : Mr Fl) (d : D) (ds : List D) (Q : Rs Fl → Prop) : Wp (mForK gt body (d :: ds)) ρ Q = kG (gt d ρ) fun ρ1 => Wp body ρ1 (kF (fun ρ2 => Wp (mForK gt body ds) ρ2 Q) Q) := by
  unfold Wp mForK
  rw [show forM gt body (d :: ds) ρ = _ from by rw [forM]]
  cases gt d ρ with
  | none => rfl
  | some ρ1 =>
    dsimp only [kG]
    cases body ρ1 with
    | none => rfl
    | some r => cases r with
      | ex => rfl
      | ok fl ρ2 => cases fl <;> rfl
/-- a loop by what holds between its turns; the state at its begin is told -/
theorem forI {gt : D → De → Option De} {body : Mr Fl} {Q : Rs Fl → Prop} (I : De → Nat → De → Prop) : ∀ {ds : List D} {ρ : De}, I ρ 0 ρ → (∀ i d ρ', ds[i]? = some d → I ρ i ρ' → kG (gt d ρ') fun ρ1 => Wp body ρ1 (kF (I ρ (i + 1)) Q)) → (∀ ρ', I ρ ds.length ρ' → Q (.ok .nx ρ')) → Wp (mForK gt body ds) ρ Q := by
  intro ds ρ h0 hs h1
  suffices ∀ (es : List D) (k : Nat) (ρ' : De), ds.drop k = es → k + es.length = ds.length → I ρ k ρ' → Wp (mForK gt body es) ρ' Q from this ds 0 ρ rfl (by simp) h0
  intro es
  induction es with
  | nil =>
    intro k ρ' hd hk hi
    have : k = ds.length := by simpa using hk
    subst this
    exact h1 ρ' hi
  | cons d es ih =>
    intro k ρ' hd hk hi
    have hl : k < ds.length := by simp at hk; omega
    have e := List.drop_eq_getElem_cons hl
    rw [hd] at e
    injection e with e1 e2
    have hg : ds[k]? = some d := by rw [e1]; exact List.getElem?_eq_getElem hl
    rw [wp_forC]
    have hb := hs k d ρ' hg hi
    cases eg : gt d ρ' with
    | none => rw [eg] at hb; exact hb
    | some ρ1 =>
      rw [eg] at hb
      refine Wp.mono (show Wp body ρ1 _ from hb) fun r hr => ?_
      cases r with
      | ex => exact hr
      | ok fl ρ2 =>
        have go : I ρ (k + 1) ρ2 → Wp (mForK gt body es) ρ2 Q := fun h => ih (k + 1) ρ2 e2.symm (by simp at hk; omega) h
        cases fl with
        | nx => exact go hr
        | ct => exact go hr
        | bk => exact hr
        | rt => exact hr
/-- .. as a fold over what is known -/
theorem forF {σ α : Type} {gt : D → De → Option De} {body : Mr Fl} {Q : Rs Fl → Prop} {enc : α → D} (E : De → σ → De → Prop) (step : σ → α → σ) (s0 : σ) : ∀ {xs : List α} {ρ : De}, E ρ s0 ρ → (∀ s x ρ', x ∈ xs → E ρ s ρ' → kG (gt (enc x) ρ') fun ρ1 => Wp body ρ1 (kF (E ρ (step s x)) Q)) → (∀ ρ', E ρ (xs.foldl step s0) ρ' → Q (.ok .nx ρ')) → Wp (mForK gt body (xs.map enc)) ρ Q := by
  intro xs ρ h0 hs h1
  refine forI (fun ρ i ρ' => E ρ ((xs.take i).foldl step s0) ρ') (by simpa using h0) (fun i d ρ' hd hi => ?_) fun ρ' h => h1 ρ' (by simpa using h)
  rw [List.getElem?_map] at hd
  obtain ⟨x, hx, rfl⟩ := Option.map_eq_some_iff.mp hd
  have := hs _ x ρ' (List.mem_of_getElem? hx) hi
  rw [List.take_succ, hx]
  simpa using this
/-- .. a list that grows: one item for each -/
theorem forA {α β : Type} {gt : D → De → Option De} {body : Mr Fl} {Q : Rs Fl → Prop} {enc : α → D} (g : α → β) (E : De → List β → De → Prop) : ∀ {xs : List α} {ρ : De}, E ρ [] ρ → (∀ acc x ρ', x ∈ xs → acc.length < xs.length → E ρ acc ρ' → kG (gt (enc x) ρ') fun ρ1 => Wp body ρ1 (kF (E ρ (acc ++ [g x])) Q)) → (∀ ρ', E ρ (xs.map g) ρ' → Q (.ok .nx ρ')) → Wp (mForK gt body (xs.map enc)) ρ Q := by
  intro xs ρ h0 hs h1
  refine forI (fun ρ i ρ' => E ρ ((xs.take i).map g) ρ') (by simpa using h0) (fun i d ρ' hd hi => ?_) fun ρ' h => h1 ρ' (by simpa using h)
  rw [List.getElem?_map] at hd
  obtain ⟨x, hx, rfl⟩ := Option.map_eq_some_iff.mp hd
  have hl := (List.getElem?_eq_some_iff.mp hx).1
  have := hs _ x ρ' (List.mem_of_getElem? hx) (by simp; omega) hi
  rw [List.take_succ, hx]
  simpa using this
def mWhK (g : Mr Bool) (f : Mr Fl) (n : Nat) : Mr Fl := fun ρ => whileM g f n ρ
theorem wp_while (g : Mr Bool) (f : Mr Fl) (n : Nat) (Q : Rs Fl → Prop) : Wp (whileM g f n) ρ Q = Wp (mWhK g f n) ρ Q := propext Iff.rfl
theorem whS {g : Mr Bool} {f : Mr Fl} {n : Nat} {Q : Rs Fl → Prop} : Wp (mWhK g f (n + 1)) ρ Q = Wp g ρ (fun r => match r with
  | .ok k ρ1 => kC k (Wp f ρ1 (kF (fun ρ2 => Wp (mWhK g f n) ρ2 Q) Q)) (Q (.ok .nx ρ1))
  | .ex x ρ1 => Q (.ex x ρ1)) := by
  unfold Wp mWhK
  rw [show whileM g f (n + 1) ρ = _ from by rw [whileM]]
  cases g ρ with
  | none => rfl
  | some r => cases r with
    | ex => rfl
    | ok k ρ1 =>
      cases k with
      | false => rfl
      | true =>
        show kR (match f ρ1 with | _ => _) Q = kR (f ρ1) _
        cases f ρ1 with
        | none => rfl
        | some r => cases r with
          | ex => rfl
          | ok fl ρ2 => cases fl <;> rfl
def kW (P P' : De → Prop) (Q : Rs Fl → Prop) : Rs Bool → Prop
  | .ok k ρ => kC k (P ρ) (P' ρ)
  | .ex x ρ => Q (.ex x ρ)
theorem kW_ok (P P' : De → Prop) (Q : Rs Fl → Prop) (k : Bool) (ρ : De) : kW P P' Q (.ok k ρ) = kC k (P ρ) (P' ρ) := propext Iff.rfl
/-- a while by a measure -/
theorem whI {σ : Type} {g : Mr Bool} {f : Mr Fl} {Q : Rs Fl → Prop} (E : De → σ → De → Prop) (μ : σ → Nat) (s0 : σ) : ∀ {n : Nat} {ρ : De}, E ρ s0 ρ → μ s0 < n → (∀ s ρ', E ρ s ρ' → Wp g ρ' (kW (fun ρ1 => Wp f ρ1 (kF (fun ρ2 => ∃ s', μ s' < μ s ∧ E ρ s' ρ2) Q)) (fun ρ1 => Q (.ok .nx ρ1)) Q)) → Wp (mWhK g f n) ρ Q := by
  intro n ρ h0 hn hs
  suffices ∀ (n : Nat) (s : σ) (ρ' : De), E ρ s ρ' → μ s < n → Wp (mWhK g f n) ρ' Q from this n s0 ρ h0 hn
  intro n
  induction n with
  | zero => intro s ρ' _ h; omega
  | succ n ih =>
    intro s ρ' he hl
    rw [whS]
    refine Wp.mono (hs s ρ' he) fun r hr => ?_
    cases r with
    | ex => exact hr
    | ok k ρ1 =>
      cases k with
      | false => exact hr
      | true =>
        refine Wp.mono (show Wp f ρ1 _ from hr) fun r hr => ?_
        have go : ∀ ρ2, (∃ s', μ s' < μ s ∧ E ρ s' ρ2) → Wp (mWhK g f n) ρ2 Q := fun ρ2 ⟨s', h1, h2⟩ => ih s' ρ2 h2 (by omega)
        cases r with
        | ex => exact hr
        | ok fl ρ2 => cases fl with
          | nx => exact go _ hr
          | ct => exact go _ hr
          | bk => exact hr
          | rt => exact hr
/-! comprehensions -/
def mLcK (vs : List Nat) (gt : D → De → Option De) (ft : Mr Bool) (fe : Mr D) (ds : List D) : Mr D := fun ρ => match lcM vs gt ft fe ds [] (wipeD ρ vs) with
  | none => none
  | some (ys, ρ') => some (.ok (.lst ys) (wipeD ρ' vs))
theorem wp_lc (fi : Mr (List D)) (vs : List Nat) (gt : D → De → Option De) (ft : Mr Bool) (fe : Mr D) (Q : Rs D → Prop) : Wp (mLc fi vs gt ft fe) ρ Q = Wp fi ρ (kB (mLcK vs gt ft fe) Q) := wp_bnd _ _ _
def kT (P : De → Prop) (P' : De → Prop) : Rs Bool → Prop
  | .ok k ρ => kC k (P ρ) (P' ρ)
  | .ex _ _ => False
theorem kT_ok (P P' : De → Prop) (k : Bool) (ρ : De) : kT P P' (.ok k ρ) = kC k (P ρ) (P' ρ) := propext Iff.rfl
def kE (P : D → De → Prop) : Rs D → Prop
  | .ok d ρ => P d ρ
  | .ex _ _ => False
theorem kE_ok (P : D → De → Prop) (d : D) (ρ : De) : kE P (.ok d ρ) = P d ρ := propext Iff.rfl
/-- a comprehension by what holds between its turns: the list so far -/
theorem lcI {vs : List Nat} {gt : D → De → Option De} {ft : Mr Bool} {fe : Mr D} {Q : Rs D → Prop} (I : De → Nat → List D → De → Prop) : ∀ {ds : List D} {ρ : De}, ds.length ≤ 16777216 → I (wipeD ρ vs) 0 [] (wipeD ρ vs) →
    (∀ i d acc ρ', ds[i]? = some d → acc.length ≤ i → I (wipeD ρ vs) i acc ρ' → kG (gt d ρ') fun ρ1 => Wp ft ρ1 (kT (fun ρ2 => Wp fe ρ2 (kE fun y ρ3 => I (wipeD ρ vs) (i + 1) (acc ++ [y]) (wipeD ρ3 vs))) fun ρ2 => I (wipeD ρ vs) (i + 1) acc (wipeD ρ2 vs))) →
    (∀ acc ρ', I (wipeD ρ vs) ds.length acc ρ' → Q (.ok (.lst acc) (wipeD ρ' vs))) → Wp (mLcK vs gt ft fe ds) ρ Q := by
  intro ds ρ hlen h0 hs h1
  suffices ∀ (es : List D) (k : Nat) (acc : List D) (ρ' : De), ds.drop k = es → k + es.length = ds.length → acc.length ≤ k → I (wipeD ρ vs) k acc ρ' → ∃ ys ρ2, lcM vs gt ft fe es acc ρ' = some (ys, ρ2) ∧ I (wipeD ρ vs) ds.length ys ρ2 by
    obtain ⟨ys, ρ2, e, hi⟩ := this ds 0 [] _ rfl (by simp) (Nat.le_refl _) h0
    unfold Wp mLcK
    rw [e]
    exact h1 ys ρ2 hi
  intro es
  induction es with
  | nil =>
    intro k acc ρ' hd hk ha hi
    have : k = ds.length := by simpa using hk
    subst this
    exact ⟨acc, ρ', rfl, hi⟩
  | cons d es ih =>
    intro k acc ρ' hd hk ha hi
    have hl : k < ds.length := by simp at hk; omega
    have e := List.drop_eq_getElem_cons hl
    rw [hd] at e
    injection e with e1 e2
    have hg : ds[k]? = some d := by rw [e1]; exact List.getElem?_eq_getElem hl
    have hb := hs k d acc ρ' hg ha hi
    unfold lcM
    cases eg : gt d ρ' with
    | none => rw [eg] at hb; exact hb.elim
    | some ρ1 =>
      rw [eg] at hb
      replace hb : Wp ft ρ1 _ := hb
      obtain ⟨r, e3, hr⟩ := hb.ex
      dsimp only
      rw [e3]
      cases r with
      | ex => exact hr.elim
      | ok k' ρ2 =>
        cases k' with
        | false => exact ih (k + 1) acc _ e2.symm (by simp at hk; omega) (by omega) hr
        | true =>
          replace hr : Wp fe ρ2 _ := hr
          obtain ⟨r, e4, hr⟩ := hr.ex
          dsimp only
          rw [e4]
          cases r with
          | ex => exact hr.elim
          | ok y ρ3 =>
            dsimp only
            rw [if_pos (show acc.length < lim by show acc.length < 16777216; omega)]
            exact ih (k + 1) (acc ++ [y]) _ e2.symm (by simp at hk; omega) (by simp; omega) hr
/-- .. of a body that leaves the names as they are -/
theorem lcG {α : Type} {vs : List Nat} {gt : D → De → Option De} {fe : Mr D} {Q : Rs D → Prop} {enc : α → D} (g : α → D) : ∀ {xs : List α} {ρ : De}, xs.length ≤ 16777216 →
    (∀ x, x ∈ xs → kG (gt (enc x) (wipeD ρ vs)) fun ρ1 => Wp fe ρ1 (kE fun y ρ3 => y = g x ∧ wipeD ρ3 vs = wipeD ρ vs)) →
    Q (.ok (.lst (xs.map g)) (wipeD (wipeD ρ vs) vs)) → Wp (mLcK vs gt (ret true) fe (xs.map enc)) ρ Q := by
  intro xs ρ hl hs h1
  refine lcI (fun ρ0 i acc ρ' => acc = (xs.take i).map g ∧ ρ' = ρ0) (by simpa using hl) ⟨by simp, rfl⟩ (fun i d acc ρ' hd ha ⟨h2, h3⟩ => ?_) fun acc ρ' ⟨h2, h3⟩ => ?_
  · subst h2; subst h3
    rw [List.getElem?_map] at hd
    obtain ⟨x, hx, rfl⟩ := Option.map_eq_some_iff.mp hd
    have := hs x (List.mem_of_getElem? hx)
    cases eg : gt (enc x) (wipeD ρ vs) with
    | none => rw [eg] at this; exact this
    | some ρ1 =>
      rw [eg] at this
      show Wp fe ρ1 _
      refine Wp.mono (show Wp fe ρ1 _ from this) fun r hr => ?_
      cases r with
      | ex => exact hr
      | ok y ρ3 =>
        obtain ⟨h4, h5⟩ := hr
        refine ⟨?_, h5⟩
        rw [List.take_succ, hx]
        simp [h4]
  · subst h2; subst h3
    simpa using h1
/-- .. with a test -/
theorem lcP {α : Type} {vs : List Nat} {gt : D → De → Option De} {ft : Mr Bool} {fe : Mr D} {Q : Rs D → Prop} {enc : α → D} (p : α → Bool) (g : α → D) : ∀ {xs : List α} {ρ : De}, xs.length ≤ 16777216 →
    (∀ x, x ∈ xs → kG (gt (enc x) (wipeD ρ vs)) fun ρ1 => Wp ft ρ1 (kT (fun ρ2 => p x = true ∧ Wp fe ρ2 (kE fun y ρ3 => y = g x ∧ wipeD ρ3 vs = wipeD ρ vs)) fun ρ2 => p x = false ∧ wipeD ρ2 vs = wipeD ρ vs)) →
    Q (.ok (.lst ((xs.filter p).map g)) (wipeD (wipeD ρ vs) vs)) → Wp (mLcK vs gt ft fe (xs.map enc)) ρ Q := by
  intro xs ρ hl hs h1
  refine lcI (fun ρ0 i acc ρ' => acc = ((xs.take i).filter p).map g ∧ ρ' = ρ0) (by simpa using hl) ⟨by simp, rfl⟩ (fun i d acc ρ' hd ha ⟨h2, h3⟩ => ?_) fun acc ρ' ⟨h2, h3⟩ => ?_
  · subst h2; subst h3
    rw [List.getElem?_map] at hd
    obtain ⟨x, hx, rfl⟩ := Option.map_eq_some_iff.mp hd
    have := hs x (List.mem_of_getElem? hx)
    cases eg : gt (enc x) (wipeD ρ vs) with
    | none => rw [eg] at this; exact this
    | some ρ1 =>
      rw [eg] at this
      show Wp ft ρ1 _
      refine Wp.mono (show Wp ft ρ1 _ from this) fun r hr => ?_
      cases r with
      | ex => exact hr
      | ok k ρ2 =>
        cases k with
        | false =>
          obtain ⟨h4, h5⟩ := (show _ ∧ _ from hr)
          refine ⟨?_, h5⟩
          rw [List.take_succ, hx]
          simp [h4]
        | true =>
          obtain ⟨h4, h5⟩ := (show _ ∧ _ from hr)
          refine Wp.mono (show Wp fe ρ2 _ from h5) fun r hr => ?_
          cases r with
          | ex => exact hr
          | ok y ρ3 =>
            obtain ⟨h6, h7⟩ := hr
            refine ⟨?_, h7⟩
            rw [List.take_succ, hx]
            simp [h4, h6]
  · subst h2; subst h3
    simpa using h1
theorem lcD {vs : List Nat} {gt : D → De → Option De} {fe : Mr D} {Q : Rs D → Prop} (g : D → D) {ds : List D} {ρ : De} (hl : ds.length ≤ 16777216)
    (hs : ∀ x, x ∈ ds → kG (gt x (wipeD ρ vs)) fun ρ1 => Wp fe ρ1 (kE fun y ρ3 => y = g x ∧ wipeD ρ3 vs = wipeD ρ vs))
    (hq : Q (.ok (.lst (ds.map g)) (wipeD (wipeD ρ vs) vs))) : Wp (mLcK vs gt (ret true) fe ds) ρ Q := by
  have := lcG (vs := vs) (gt := gt) (fe := fe) (Q := Q) (enc := id) g (xs := ds) (ρ := ρ) hl hs hq
  rwa [List.map_id] at this
theorem nat_eq_lit (a n : Nat) : (((a : Int) == (no_index (OfNat.ofNat n) : Int)) : Bool) = (a == OfNat.ofNat n) := nat_eq a _
theorem dNe_bl (i j : Bool) : dNe (.bl i) (.bl j) = some (.bl (!(i == j))) := rfl
theorem atI_nat {α : Type} (xs : List α) (k : Nat) : atI xs (k : Int) = xs[k]? := by
  by_cases h : k < xs.length
  · rw [atI_natD h, List.getElem?_eq_getElem h]
  · unfold L2.atI ixN
    rw [if_pos (by omega), if_neg (by omega), List.getElem?_eq_none (by omega)]
    rfl
theorem dIx_ln (xs : List D) (n : Nat) : dIx (.lst xs) (.int (no_index (OfNat.ofNat n))) = xs[OfNat.ofNat n]? := atI_nat xs n
theorem dIx_tn (xs : List D) (n : Nat) : dIx (.tup xs) (.int (no_index (OfNat.ofNat n))) = xs[OfNat.ofNat n]? := atI_nat xs n
theorem dIx_l1 (xs : List D) (h : 0 < xs.length) : dIx (.lst xs) (.int (-1)) = some (xs[xs.length - 1]) := by
  show L2.atI xs (-1) = _
  have : ixN xs.length (-1) = some (xs.length - 1) := by
    unfold ixN
    rw [if_neg (by omega), if_pos (by omega)]
    congr 1
    omega
  unfold L2.atI
  rw [this]
  exact List.getElem?_eq_getElem (by omega)
theorem maskIo_0 (n : Nat) (x : Option D) (ρ : De) : maskIo [0] (n + 1) (x :: ρ) = x :: List.replicate n none := by
  unfold maskIo
  rw [List.range_succ_eq_map]
  simp only [List.map_cons, List.map_map, List.mem_singleton, if_true, List.getElem?_cons_zero, Option.join_some]
  congr 1
  rw [List.eq_replicate_iff]
  simp
end
end Dl
namespace Wk
open PySem L2 Dl
def top (i : Nat) : Stmt := PySem.Challenge.pw_pagewright_k00_whole_numbers.main.body.getD i (.Pass ⟨0, 0, 0, 0⟩)
abbrev s_divisor : Stmt := top 1
abbrev N_divisor : List Str := ["a", "b"]
theorem sc_divisor : FnScope N_divisor ["a", "b"] (defScope s_divisor) := ⟨rfl, rfl, rfl, by decide +kernel, rfl, by decide +kernel, by decide +kernel⟩
def b_divisor_4  : Mr Fl :=
  (mPar 0 1 (mCons (mVar 1) (mCons (mOp dMod (mVar 0) (mVar 1)) mNil)))
def b_divisor_3  : Mr Fl :=
  (whileM (bnd (mOp dGt (mVar 1) (ret (.int 0))) fun d => lft (dBool d))
  (b_divisor_4) 2000)
def b_divisor_5  : Mr Fl :=
  (bnd (mVar 0) fun d => ret (.rt d))
def b_divisor  : Mr Fl :=
  (mSeq (b_divisor_3)
  (b_divisor_5))
theorem ok_divisor {P : Program} {w : World} {K : PySem.W.Frag} {mg : Str → Option Value} {base : Heap} {f : Addr} {fd : FuncData} {k : Nat} (F : Fun K "divisor" "divisor" s_divisor f fd)  :
    FnOk P w K mg base CX0 (k + 1) f fd ["a", "b"] (spD K [.sh, .sh] .sh (bodyF0 2 [] (b_divisor))) :=
  fn_ok (N := N_divisor) (Γ := [.sh, .sh]) F sc_divisor rfl rfl rfl fun cdv A outer s H E hr => ⟨_, (dss_cons (ds_while 2000 PassesOwn.never (dt_cmp o_gt (dv 1) (de_int (m := .sh)) (nomark _))
  (dss_one (ds_par (i := 0) (j := 1) rfl sc_divisor.nd (da_cons (dv 1) (da_cons (de_op (m := .sh) o_mod (dv 0) (dv 1)) da_nil)) rfl)))
  (dss_one (ds_ret (dv 0))))⟩
abbrev s_ratio : Stmt := top 2
abbrev N_ratio : List Str := ["above", "below", "shared"]
theorem sc_ratio : FnScope N_ratio ["above", "below"] (defScope s_ratio) := ⟨rfl, rfl, rfl, by decide +kernel, rfl, by decide +kernel, by decide +kernel⟩
def b_ratio_8 (f_divisor : List D → Option (Rs D)) : Mr Fl :=
  (mPar 0 1 (mCons (mOp dSub (ret (.int 0)) (mVar 0)) (mCons (mOp dSub (ret (.int 0)) (mVar 1)) mNil)))
def b_ratio_7 (f_divisor : List D → Option (Rs D)) : Mr Fl :=
  (mIf (bnd (mOp dLt (mVar 1) (ret (.int 0))) fun d => lft (dBool d))
  (b_ratio_8 f_divisor)
  mSkip)
def b_ratio_9 (f_divisor : List D → Option (Rs D)) : Mr Fl :=
  (mAsg (mCl0 [.v .sh, .v .sh] f_divisor (mCons (mCall bAbs (mCons (mVar 0) mNil)) (mCons (mVar 1) mNil))) (gtName 2))
def b_ratio_10 (f_divisor : List D → Option (Rs D)) : Mr Fl :=
  (mPar 0 1 (mCons (mOp dFdiv (mVar 0) (mVar 2)) (mCons (mOp dFdiv (mVar 1) (mVar 2)) mNil)))
def b_ratio_11 (f_divisor : List D → Option (Rs D)) : Mr Fl :=
  (bnd (mIf (bnd (mOp dEq (mVar 1) (ret (.int 1))) fun d => lft (dBool d)) (mVar 0) (bnd (mCons (mVar 0) (mCons (mVar 1) mNil)) fun ds => lft (dTup ds))) fun d => ret (.rt d))
def b_ratio (f_divisor : List D → Option (Rs D)) : Mr Fl :=
  (mSeq (b_ratio_7 f_divisor)
  (mSeq (b_ratio_9 f_divisor)
  (mSeq (b_ratio_10 f_divisor)
  (b_ratio_11 f_divisor))))
theorem ok_ratio {P : Program} {w : World} {K : PySem.W.Frag} {mg : Str → Option Value} {base : Heap} {f : Addr} {fd : FuncData} {k : Nat} (F : Fun K "ratio" "ratio" s_ratio f fd) {f_divisor : List D → Option (Rs D)} (c_divisor : Cl P w K mg base CX0 k "divisor" [.sh, .sh] .sh f_divisor) (m_abs : mg "abs" = none) :
    FnOk P w K mg base CX0 (k + 1) f fd ["above", "below"] (spD K [.sh, .sh] .sh (bodyF0 3 [] (b_ratio f_divisor))) :=
  fn_ok (N := N_ratio) (Γ := [.sh, .sh, .sh]) F sc_ratio rfl rfl rfl fun cdv A outer s H E hr => ⟨_, (dss_cons (ds_if (dt_cmp o_lt (dv 1) (de_int (m := .sh)) (nomark _))
  (dss_one (ds_par (i := 0) (j := 1) rfl sc_ratio.nd (da_cons (de_op (m := .sh) o_sub (de_int (m := .sh)) (dv 0)) (da_cons (de_op (m := .sh) o_sub (de_int (m := .sh)) (dv 1)) da_nil)) rfl))
  dss_nil)
  (dss_cons (ds_asg (de_call c_divisor hr (da_cons (de_cb (m := .sh) b_abs m_abs (da_cons (dv 0) da_nil)) (da_cons (dv 1) da_nil))) (dg_name 2 sc_ratio.nd))
  (dss_cons (ds_par (i := 0) (j := 1) rfl sc_ratio.nd (da_cons (de_op (m := .sh) o_fdiv (dv 0) (dv 2)) (da_cons (de_op (m := .sh) o_fdiv (dv 1) (dv 2)) da_nil)) rfl)
  (dss_one (ds_ret (de_if (dt_cmp (o_eq hr) (dv 1) (de_int (m := .sh)) (nomark _)) (dv 0) (DE.fz (de_tup (m := .sh) (da_cons (dv 0) (da_cons (dv 1) da_nil))))))))))⟩
abbrev s_parts : Stmt := top 3
abbrev N_parts : List Str := ["number"]
theorem sc_parts : FnScope N_parts ["number"] (defScope s_parts) := ⟨rfl, rfl, rfl, by decide +kernel, rfl, by decide +kernel, by decide +kernel⟩
def b_parts  : Mr Fl :=
  (bnd (mIf (bnd (mCall (bIsi .tuple) (mCons (mVar 0) (mCons (ret (.val (.ty "tuple"))) mNil))) fun d => lft (dTr d)) (mVar 0) (bnd (mCons (mVar 0) (mCons (ret (.int 1)) mNil)) fun ds => lft (dTup ds))) fun d => ret (.rt d))
theorem ok_parts {P : Program} {w : World} {K : PySem.W.Frag} {mg : Str → Option Value} {base : Heap} {f : Addr} {fd : FuncData} {k : Nat} (F : Fun K "parts" "parts" s_parts f fd) (m_isinstance : mg "isinstance" = none) (m_tuple : mg "tuple" = none) :
    FnOk P w K mg base CX0 (k + 1) f fd ["number"] (spD K [.sh] .sh (bodyF0 1 [] (b_parts))) :=
  fn_ok (N := N_parts) (Γ := [.sh]) F sc_parts rfl rfl rfl fun cdv A outer s H E hr => ⟨_, (dss_one (ds_ret (de_if (dt_tr (de_cb (m := .sh) (b_isi .tuple) m_isinstance (da_cons (dv 0) (da_cons (de_ty (m := .sh) m_tuple) da_nil)))) (dv 0) (DE.fz (de_tup (m := .sh) (da_cons (dv 0) (da_cons (de_int (m := .sh)) da_nil)))))))⟩
abbrev s_add : Stmt := top 4
abbrev N_add : List Str := ["one", "other", "a", "b", "c", "d"]
theorem sc_add : FnScope N_add ["one", "other"] (defScope s_add) := ⟨rfl, rfl, rfl, by decide +kernel, rfl, by decide +kernel, by decide +kernel⟩
def b_add (f_parts : List D → Option (Rs D)) (f_ratio : List D → Option (Rs D)) : Mr Fl :=
  (mSeq (mAsg (mCl0 [.v .sh] f_parts (mCons (mVar 0) mNil)) (gtTup 2 (gtCons (gtName 2) (gtCons (gtName 3) gtNil))))
  (mSeq (mAsg (mCl0 [.v .sh] f_parts (mCons (mVar 1) mNil)) (gtTup 2 (gtCons (gtName 4) (gtCons (gtName 5) gtNil))))
  (bnd (mCl0 [.v .sh, .v .sh] f_ratio (mCons (mOp dAdd (mOp dMul (mVar 2) (mVar 5)) (mOp dMul (mVar 4) (mVar 3))) (mCons (mOp dMul (mVar 3) (mVar 5)) mNil))) fun d => ret (.rt d))))
theorem ok_add {P : Program} {w : World} {K : PySem.W.Frag} {mg : Str → Option Value} {base : Heap} {f : Addr} {fd : FuncData} {k : Nat} (F : Fun K "add" "add" s_add f fd) {f_parts : List D → Option (Rs D)} (c_parts : Cl P w K mg base CX0 k "parts" [.sh] .sh f_parts) {f_ratio : List D → Option (Rs D)} (c_ratio : Cl P w K mg base CX0 k "ratio" [.sh, .sh] .sh f_ratio) :
    FnOk P w K mg base CX0 (k + 1) f fd ["one", "other"] (spD K [.sh, .sh] .sh (bodyF0 6 [] (b_add f_parts f_ratio))) :=
  fn_ok (N := N_add) (Γ := [.sh, .sh, .sh, .sh, .sh, .sh]) F sc_add rfl rfl rfl fun cdv A outer s H E hr => ⟨_, (dss_cons (ds_asg (de_call c_parts hr (da_cons (dv 0) da_nil)) (dg_tupS rfl (dgs_cons (dg_name 2 sc_add.nd) (dgs_cons (dg_name 3 sc_add.nd) dgs_nil))))
  (dss_cons (ds_asg (de_call c_parts hr (da_cons (dv 1) da_nil)) (dg_tupS rfl (dgs_cons (dg_name 4 sc_add.nd) (dgs_cons (dg_name 5 sc_add.nd) dgs_nil))))
  (dss_one (ds_ret (de_call c_ratio hr (da_cons (DE.fz (de_op (m := (.own .sh)) o_add (DE.fz (de_op (m := (.own .sh)) o_mul (dv 2) (dv 5))) (DE.fz (de_op (m := (.own .sh)) o_mul (dv 4) (dv 3))))) (da_cons (DE.fz (de_op (m := (.own .sh)) o_mul (dv 3) (dv 5))) da_nil)))))))⟩
abbrev s_minus : Stmt := top 5
abbrev N_minus : List Str := ["number", "a", "b"]
theorem sc_minus : FnScope N_minus ["number"] (defScope s_minus) := ⟨rfl, rfl, rfl, by decide +kernel, rfl, by decide +kernel, by decide +kernel⟩
def b_minus (f_parts : List D → Option (Rs D)) (f_ratio : List D → Option (Rs D)) : Mr Fl :=
  (mSeq (mAsg (mCl0 [.v .sh] f_parts (mCons (mVar 0) mNil)) (gtTup 2 (gtCons (gtName 1) (gtCons (gtName 2) gtNil))))
  (bnd (mCl0 [.v .sh, .v .sh] f_ratio (mCons (mOp dSub (ret (.int 0)) (mVar 1)) (mCons (mVar 2) mNil))) fun d => ret (.rt d)))
theorem ok_minus {P : Program} {w : World} {K : PySem.W.Frag} {mg : Str → Option Value} {base : Heap} {f : Addr} {fd : FuncData} {k : Nat} (F : Fun K "minus" "minus" s_minus f fd) {f_parts : List D → Option (Rs D)} (c_parts : Cl P w K mg base CX0 k "parts" [.sh] .sh f_parts) {f_ratio : List D → Option (Rs D)} (c_ratio : Cl P w K mg base CX0 k "ratio" [.sh, .sh] .sh f_ratio) :
    FnOk P w K mg base CX0 (k + 1) f fd ["number"] (spD K [.sh] .sh (bodyF0 3 [] (b_minus f_parts f_ratio))) :=
  fn_ok (N := N_minus) (Γ := [.sh, .sh, .sh]) F sc_minus rfl rfl rfl fun cdv A outer s H E hr => ⟨_, (dss_cons (ds_asg (de_call c_parts hr (da_cons (dv 0) da_nil)) (dg_tupS rfl (dgs_cons (dg_name 1 sc_minus.nd) (dgs_cons (dg_name 2 sc_minus.nd) dgs_nil))))
  (dss_one (ds_ret (de_call c_ratio hr (da_cons (de_op (m := .sh) o_sub (de_int (m := .sh)) (dv 1)) (da_cons (dv 2) da_nil))))))⟩
abbrev s_sub : Stmt := top 6
abbrev N_sub : List Str := ["one", "other"]
theorem sc_sub : FnScope N_sub ["one", "other"] (defScope s_sub) := ⟨rfl, rfl, rfl, by decide +kernel, rfl, by decide +kernel, by decide +kernel⟩
def b_sub (f_add : List D → Option (Rs D)) (f_minus : List D → Option (Rs D)) : Mr Fl :=
  (bnd (mCl0 [.v .sh, .v .sh] f_add (mCons (mVar 0) (mCons (mCl0 [.v .sh] f_minus (mCons (mVar 1) mNil)) mNil))) fun d => ret (.rt d))
theorem ok_sub {P : Program} {w : World} {K : PySem.W.Frag} {mg : Str → Option Value} {base : Heap} {f : Addr} {fd : FuncData} {k : Nat} (F : Fun K "sub" "sub" s_sub f fd) {f_add : List D → Option (Rs D)} (c_add : Cl P w K mg base CX0 k "add" [.sh, .sh] .sh f_add) {f_minus : List D → Option (Rs D)} (c_minus : Cl P w K mg base CX0 k "minus" [.sh] .sh f_minus) :
    FnOk P w K mg base CX0 (k + 1) f fd ["one", "other"] (spD K [.sh, .sh] .sh (bodyF0 2 [] (b_sub f_add f_minus))) :=
  fn_ok (N := N_sub) (Γ := [.sh, .sh]) F sc_sub rfl rfl rfl fun cdv A outer s H E hr => ⟨_, (dss_one (ds_ret (de_call c_add hr (da_cons (dv 0) (da_cons (de_call c_minus hr (da_cons (dv 1) da_nil)) da_nil)))))⟩
abbrev s_mul : Stmt := top 7
abbrev N_mul : List Str := ["one", "other", "a", "b", "c", "d"]
theorem sc_mul : FnScope N_mul ["one", "other"] (defScope s_mul) := ⟨rfl, rfl, rfl, by decide +kernel, rfl, by decide +kernel, by decide +kernel⟩
def b_mul (f_parts : List D → Option (Rs D)) (f_ratio : List D → Option (Rs D)) : Mr Fl :=
  (mSeq (mAsg (mCl0 [.v .sh] f_parts (mCons (mVar 0) mNil)) (gtTup 2 (gtCons (gtName 2) (gtCons (gtName 3) gtNil))))
  (mSeq (mAsg (mCl0 [.v .sh] f_parts (mCons (mVar 1) mNil)) (gtTup 2 (gtCons (gtName 4) (gtCons (gtName 5) gtNil))))
  (bnd (mCl0 [.v .sh, .v .sh] f_ratio (mCons (mOp dMul (mVar 2) (mVar 4)) (mCons (mOp dMul (mVar 3) (mVar 5)) mNil))) fun d => ret (.rt d))))
theorem ok_mul {P : Program} {w : World} {K : PySem.W.Frag} {mg : Str → Option Value} {base : Heap} {f : Addr} {fd : FuncData} {k : Nat} (F : Fun K "mul" "mul" s_mul f fd) {f_parts : List D → Option (Rs D)} (c_parts : Cl P w K mg base CX0 k "parts" [.sh] .sh f_parts) {f_ratio : List D → Option (Rs D)} (c_ratio : Cl P w K mg base CX0 k "ratio" [.sh, .sh] .sh f_ratio) :
    FnOk P w K mg base CX0 (k + 1) f fd ["one", "other"] (spD K [.sh, .sh] .sh (bodyF0 6 [] (b_mul f_parts f_ratio))) :=
  fn_ok (N := N_mul) (Γ := [.sh, .sh, .sh, .sh, .sh, .sh]) F sc_mul rfl rfl rfl fun cdv A outer s H E hr => ⟨_, (dss_cons (ds_asg (de_call c_parts hr (da_cons (dv 0) da_nil)) (dg_tupS rfl (dgs_cons (dg_name 2 sc_mul.nd) (dgs_cons (dg_name 3 sc_mul.nd) dgs_nil))))
  (dss_cons (ds_asg (de_call c_parts hr (da_cons (dv 1) da_nil)) (dg_tupS rfl (dgs_cons (dg_name 4 sc_mul.nd) (dgs_cons (dg_name 5 sc_mul.nd) dgs_nil))))
  (dss_one (ds_ret (de_call c_ratio hr (da_cons (DE.fz (de_op (m := (.own .sh)) o_mul (dv 2) (dv 4))) (da_cons (DE.fz (de_op (m := (.own .sh)) o_mul (dv 3) (dv 5))) da_nil)))))))⟩
abbrev s_div : Stmt := top 8
abbrev N_div : List Str := ["one", "other", "a", "b", "c", "d"]
theorem sc_div : FnScope N_div ["one", "other"] (defScope s_div) := ⟨rfl, rfl, rfl, by decide +kernel, rfl, by decide +kernel, by decide +kernel⟩
def b_div (f_parts : List D → Option (Rs D)) (f_ratio : List D → Option (Rs D)) : Mr Fl :=
  (mSeq (mAsg (mCl0 [.v .sh] f_parts (mCons (mVar 0) mNil)) (gtTup 2 (gtCons (gtName 2) (gtCons (gtName 3) gtNil))))
  (mSeq (mAsg (mCl0 [.v .sh] f_parts (mCons (mVar 1) mNil)) (gtTup 2 (gtCons (gtName 4) (gtCons (gtName 5) gtNil))))
  (bnd (mCl0 [.v .sh, .v .sh] f_ratio (mCons (mOp dMul (mVar 2) (mVar 5)) (mCons (mOp dMul (mVar 3) (mVar 4)) mNil))) fun d => ret (.rt d))))
theorem ok_div {P : Program} {w : World} {K : PySem.W.Frag} {mg : Str → Option Value} {base : Heap} {f : Addr} {fd : FuncData} {k : Nat} (F : Fun K "div" "div" s_div f fd) {f_parts : List D → Option (Rs D)} (c_parts : Cl P w K mg base CX0 k "parts" [.sh] .sh f_parts) {f_ratio : List D → Option (Rs D)} (c_ratio : Cl P w K mg base CX0 k "ratio" [.sh, .sh] .sh f_ratio) :
    FnOk P w K mg base CX0 (k + 1) f fd ["one", "other"] (spD K [.sh, .sh] .sh (bodyF0 6 [] (b_div f_parts f_ratio))) :=
  fn_ok (N := N_div) (Γ := [.sh, .sh, .sh, .sh, .sh, .sh]) F sc_div rfl rfl rfl fun cdv A outer s H E hr => ⟨_, (dss_cons (ds_asg (de_call c_parts hr (da_cons (dv 0) da_nil)) (dg_tupS rfl (dgs_cons (dg_name 2 sc_div.nd) (dgs_cons (dg_name 3 sc_div.nd) dgs_nil))))
  (dss_cons (ds_asg (de_call c_parts hr (da_cons (dv 1) da_nil)) (dg_tupS rfl (dgs_cons (dg_name 4 sc_div.nd) (dgs_cons (dg_name 5 sc_div.nd) dgs_nil))))
  (dss_one (ds_ret (de_call c_ratio hr (da_cons (DE.fz (de_op (m := (.own .sh)) o_mul (dv 2) (dv 5))) (da_cons (DE.fz (de_op (m := (.own .sh)) o_mul (dv 3) (dv 4))) da_nil)))))))⟩
abbrev s_sign : Stmt := top 9
abbrev N_sign : List Str := ["number", "above"]
theorem sc_sign : FnScope N_sign ["number"] (defScope s_sign) := ⟨rfl, rfl, rfl, by decide +kernel, rfl, by decide +kernel, by decide +kernel⟩
def b_sign (f_parts : List D → Option (Rs D)) : Mr Fl :=
  (mSeq (mAsg (mOp dIx (mCl0 [.v .sh] f_parts (mCons (mVar 0) mNil)) (ret (.int 0))) (gtName 1))
  (bnd (mOp dSub (mOp dGt (mVar 1) (ret (.int 0))) (mOp dLt (mVar 1) (ret (.int 0)))) fun d => ret (.rt d)))
theorem ok_sign {P : Program} {w : World} {K : PySem.W.Frag} {mg : Str → Option Value} {base : Heap} {f : Addr} {fd : FuncData} {k : Nat} (F : Fun K "sign" "sign" s_sign f fd) {f_parts : List D → Option (Rs D)} (c_parts : Cl P w K mg base CX0 k "parts" [.sh] .sh f_parts) :
    FnOk P w K mg base CX0 (k + 1) f fd ["number"] (spD K [.sh] .sh (bodyF0 2 [] (b_sign f_parts))) :=
  fn_ok (N := N_sign) (Γ := [.sh, .sh]) F sc_sign rfl rfl rfl fun cdv A outer s H E hr => ⟨_, (dss_cons (ds_asg (de_ix (de_call c_parts hr (da_cons (dv 0) da_nil)) (de_int (m := .sh))) (dg_name 1 sc_sign.nd))
  (dss_one (ds_ret (de_op (m := .sh) o_sub (de_cmp (m := .sh) o_gt (dv 1) (de_int (m := .sh)) (nomark _)) (de_cmp (m := .sh) o_lt (dv 1) (de_int (m := .sh)) (nomark _))))))⟩
abbrev s_less : Stmt := top 10
abbrev N_less : List Str := ["one", "other"]
theorem sc_less : FnScope N_less ["one", "other"] (defScope s_less) := ⟨rfl, rfl, rfl, by decide +kernel, rfl, by decide +kernel, by decide +kernel⟩
def b_less (f_sign : List D → Option (Rs D)) (f_sub : List D → Option (Rs D)) : Mr Fl :=
  (bnd (mOp dLt (mCl0 [.v .sh] f_sign (mCons (mCl0 [.v .sh, .v .sh] f_sub (mCons (mVar 0) (mCons (mVar 1) mNil))) mNil)) (ret (.int 0))) fun d => ret (.rt d))
theorem ok_less {P : Program} {w : World} {K : PySem.W.Frag} {mg : Str → Option Value} {base : Heap} {f : Addr} {fd : FuncData} {k : Nat} (F : Fun K "less" "less" s_less f fd) {f_sign : List D → Option (Rs D)} (c_sign : Cl P w K mg base CX0 k "sign" [.sh] .sh f_sign) {f_sub : List D → Option (Rs D)} (c_sub : Cl P w K mg base CX0 k "sub" [.sh, .sh] .sh f_sub) :
    FnOk P w K mg base CX0 (k + 1) f fd ["one", "other"] (spD K [.sh, .sh] .sh (bodyF0 2 [] (b_less f_sign f_sub))) :=
  fn_ok (N := N_less) (Γ := [.sh, .sh]) F sc_less rfl rfl rfl fun cdv A outer s H E hr => ⟨_, (dss_one (ds_ret (de_cmp (m := .sh) o_lt (de_call c_sign hr (da_cons (de_call c_sub hr (da_cons (dv 0) (da_cons (dv 1) da_nil))) da_nil)) (de_int (m := .sh)) (nomark _))))⟩
abbrev s_floor : Stmt := top 11
abbrev N_floor : List Str := ["number", "a", "b"]
theorem sc_floor : FnScope N_floor ["number"] (defScope s_floor) := ⟨rfl, rfl, rfl, by decide +kernel, rfl, by decide +kernel, by decide +kernel⟩
def b_floor (f_parts : List D → Option (Rs D)) : Mr Fl :=
  (mSeq (mAsg (mCl0 [.v .sh] f_parts (mCons (mVar 0) mNil)) (gtTup 2 (gtCons (gtName 1) (gtCons (gtName 2) gtNil))))
  (bnd (mOp dFdiv (mVar 1) (mVar 2)) fun d => ret (.rt d)))
theorem ok_floor {P : Program} {w : World} {K : PySem.W.Frag} {mg : Str → Option Value} {base : Heap} {f : Addr} {fd : FuncData} {k : Nat} (F : Fun K "floor" "floor" s_floor f fd) {f_parts : List D → Option (Rs D)} (c_parts : Cl P w K mg base CX0 k "parts" [.sh] .sh f_parts) :
    FnOk P w K mg base CX0 (k + 1) f fd ["number"] (spD K [.sh] .sh (bodyF0 3 [] (b_floor f_parts))) :=
  fn_ok (N := N_floor) (Γ := [.sh, .sh, .sh]) F sc_floor rfl rfl rfl fun cdv A outer s H E hr => ⟨_, (dss_cons (ds_asg (de_call c_parts hr (da_cons (dv 0) da_nil)) (dg_tupS rfl (dgs_cons (dg_name 1 sc_floor.nd) (dgs_cons (dg_name 2 sc_floor.nd) dgs_nil))))
  (dss_one (ds_ret (de_op (m := .sh) o_fdiv (dv 1) (dv 2)))))⟩
abbrev s_ceiling : Stmt := top 12
abbrev N_ceiling : List Str := ["number", "a", "b"]
theorem sc_ceiling : FnScope N_ceiling ["number"] (defScope s_ceiling) := ⟨rfl, rfl, rfl, by decide +kernel, rfl, by decide +kernel, by decide +kernel⟩
def b_ceiling (f_parts : List D → Option (Rs D)) : Mr Fl :=
  (mSeq (mAsg (mCl0 [.v .sh] f_parts (mCons (mVar 0) mNil)) (gtTup 2 (gtCons (gtName 1) (gtCons (gtName 2) gtNil))))
  (bnd (mOp dSub (ret (.int 0)) (mOp dFdiv (mOp dSub (ret (.int 0)) (mVar 1)) (mVar 2))) fun d => ret (.rt d)))
theorem ok_ceiling {P : Program} {w : World} {K : PySem.W.Frag} {mg : Str → Option Value} {base : Heap} {f : Addr} {fd : FuncData} {k : Nat} (F : Fun K "ceiling" "ceiling" s_ceiling f fd) {f_parts : List D → Option (Rs D)} (c_parts : Cl P w K mg base CX0 k "parts" [.sh] .sh f_parts) :
    FnOk P w K mg base CX0 (k + 1) f fd ["number"] (spD K [.sh] .sh (bodyF0 3 [] (b_ceiling f_parts))) :=
  fn_ok (N := N_ceiling) (Γ := [.sh, .sh, .sh]) F sc_ceiling rfl rfl rfl fun cdv A outer s H E hr => ⟨_, (dss_cons (ds_asg (de_call c_parts hr (da_cons (dv 0) da_nil)) (dg_tupS rfl (dgs_cons (dg_name 1 sc_ceiling.nd) (dgs_cons (dg_name 2 sc_ceiling.nd) dgs_nil))))
  (dss_one (ds_ret (de_op (m := .sh) o_sub (de_int (m := .sh)) (de_op (m := .sh) o_fdiv (de_op (m := .sh) o_sub (de_int (m := .sh)) (dv 1)) (dv 2))))))⟩
abbrev s_rounded : Stmt := top 13
abbrev N_rounded : List Str := ["number"]
theorem sc_rounded : FnScope N_rounded ["number"] (defScope s_rounded) := ⟨rfl, rfl, rfl, by decide +kernel, rfl, by decide +kernel, by decide +kernel⟩
def b_rounded (f_floor : List D → Option (Rs D)) (f_add : List D → Option (Rs D)) : Mr Fl :=
  (bnd (mCl0 [.v .sh] f_floor (mCons (mCl0 [.v .sh, .v .sh] f_add (mCons (mVar 0) (mCons (bnd (mCons (ret (.int 1)) (mCons (ret (.int 2)) mNil)) fun ds => lft (dTup ds)) mNil))) mNil)) fun d => ret (.rt d))
theorem ok_rounded {P : Program} {w : World} {K : PySem.W.Frag} {mg : Str → Option Value} {base : Heap} {f : Addr} {fd : FuncData} {k : Nat} (F : Fun K "rounded" "rounded" s_rounded f fd) {f_floor : List D → Option (Rs D)} (c_floor : Cl P w K mg base CX0 k "floor" [.sh] .sh f_floor) {f_add : List D → Option (Rs D)} (c_add : Cl P w K mg base CX0 k "add" [.sh, .sh] .sh f_add) :
    FnOk P w K mg base CX0 (k + 1) f fd ["number"] (spD K [.sh] .sh (bodyF0 1 [] (b_rounded f_floor f_add))) :=
  fn_ok (N := N_rounded) (Γ := [.sh]) F sc_rounded rfl rfl rfl fun cdv A outer s H E hr => ⟨_, (dss_one (ds_ret (de_call c_floor hr (da_cons (de_call c_add hr (da_cons (dv 0) (da_cons (DE.fz (de_tup (m := .sh) (da_cons (de_int (m := .sh)) (da_cons (de_int (m := .sh)) da_nil)))) da_nil))) da_nil))))⟩
abbrev s_cut : Stmt := top 14
abbrev N_cut : List Str := ["number"]
theorem sc_cut : FnScope N_cut ["number"] (defScope s_cut) := ⟨rfl, rfl, rfl, by decide +kernel, rfl, by decide +kernel, by decide +kernel⟩
def b_cut (f_sign : List D → Option (Rs D)) (f_floor : List D → Option (Rs D)) (f_ceiling : List D → Option (Rs D)) : Mr Fl :=
  (bnd (mIf (bnd (mOp dGe (mCl0 [.v .sh] f_sign (mCons (mVar 0) mNil)) (ret (.int 0))) fun d => lft (dBool d)) (mCl0 [.v .sh] f_floor (mCons (mVar 0) mNil)) (mCl0 [.v .sh] f_ceiling (mCons (mVar 0) mNil))) fun d => ret (.rt d))
theorem ok_cut {P : Program} {w : World} {K : PySem.W.Frag} {mg : Str → Option Value} {base : Heap} {f : Addr} {fd : FuncData} {k : Nat} (F : Fun K "cut" "cut" s_cut f fd) {f_sign : List D → Option (Rs D)} (c_sign : Cl P w K mg base CX0 k "sign" [.sh] .sh f_sign) {f_floor : List D → Option (Rs D)} (c_floor : Cl P w K mg base CX0 k "floor" [.sh] .sh f_floor) {f_ceiling : List D → Option (Rs D)} (c_ceiling : Cl P w K mg base CX0 k "ceiling" [.sh] .sh f_ceiling) :
    FnOk P w K mg base CX0 (k + 1) f fd ["number"] (spD K [.sh] .sh (bodyF0 1 [] (b_cut f_sign f_floor f_ceiling))) :=
  fn_ok (N := N_cut) (Γ := [.sh]) F sc_cut rfl rfl rfl fun cdv A outer s H E hr => ⟨_, (dss_one (ds_ret (de_if (dt_cmp o_ge (de_call c_sign hr (da_cons (dv 0) da_nil)) (de_int (m := .sh)) (nomark _)) (de_call c_floor hr (da_cons (dv 0) da_nil)) (de_call c_ceiling hr (da_cons (dv 0) da_nil)))))⟩
abbrev s_is_number : Stmt := top 15
abbrev N_is_number : List Str := ["value", "x"]
theorem sc_is_number : FnScope N_is_number ["value"] (defScope s_is_number) := ⟨rfl, rfl, rfl, by decide +kernel, rfl, by decide +kernel, by decide +kernel⟩
def b_is_number_49 (f_divisor : List D → Option (Rs D)) : Mr Fl :=
  (bnd (ret (.bl false)) fun d => ret (.rt d))
def b_is_number_48 (f_divisor : List D → Option (Rs D)) : Mr Fl :=
  (mIf (mOr (bnd (mOp dNe (mCall bLen (mCons (mVar 0) mNil)) (ret (.int 2))) fun d => lft (dBool d)) (mNot (bnd (mCall bAll (mCons (mLc (bnd (mVar 0) fun d => lft (dItems d)) [1] (gtName 1) (ret true) (mAndV (mCall (bIsi .int) (mCons (mVar 1) (mCons (ret (.val (.ty "int"))) mNil))) (mNotV (mCall (bIsi .bool) (mCons (mVar 1) (mCons (ret (.val (.ty "bool"))) mNil)))))) mNil)) fun d => lft (dTr d))))
  (b_is_number_49 f_divisor)
  mSkip)
def b_is_number_50 (f_divisor : List D → Option (Rs D)) : Mr Fl :=
  (bnd (mAndV (mOp dGt (mOp dIx (mVar 0) (ret (.int 1))) (ret (.int 1))) (mOp dEq (mCl0 [.v .sh, .v .sh] f_divisor (mCons (mCall bAbs (mCons (mOp dIx (mVar 0) (ret (.int 0))) mNil)) (mCons (mOp dIx (mVar 0) (ret (.int 1))) mNil))) (ret (.int 1)))) fun d => ret (.rt d))
def b_is_number_47 (f_divisor : List D → Option (Rs D)) : Mr Fl :=
  (mIf (bnd (mCall (bIsi .tuple) (mCons (mVar 0) (mCons (ret (.val (.ty "tuple"))) mNil))) fun d => lft (dTr d))
  (mSeq (b_is_number_48 f_divisor)
  (b_is_number_50 f_divisor))
  mSkip)
def b_is_number_51 (f_divisor : List D → Option (Rs D)) : Mr Fl :=
  (bnd (mAndV (mCall (bIsi .int) (mCons (mVar 0) (mCons (ret (.val (.ty "int"))) mNil))) (mNotV (mCall (bIsi .bool) (mCons (mVar 0) (mCons (ret (.val (.ty "bool"))) mNil))))) fun d => ret (.rt d))
def b_is_number (f_divisor : List D → Option (Rs D)) : Mr Fl :=
  (mSeq (b_is_number_47 f_divisor)
  (b_is_number_51 f_divisor))
theorem ok_is_number {P : Program} {w : World} {K : PySem.W.Frag} {mg : Str → Option Value} {base : Heap} {f : Addr} {fd : FuncData} {k : Nat} (F : Fun K "is_number" "is_number" s_is_number f fd) {f_divisor : List D → Option (Rs D)} (c_divisor : Cl P w K mg base CX0 k "divisor" [.sh, .sh] .sh f_divisor) (m_isinstance : mg "isinstance" = none) (m_tuple : mg "tuple" = none) (m_len : mg "len" = none) (m_int : mg "int" = none) (m_bool : mg "bool" = none) (m_all : mg "all" = none) (m_abs : mg "abs" = none) :
    FnOk P w K mg base CX0 (k + 1) f fd ["value"] (spD K [.sh] .sh (bodyF0 2 [] (b_is_number f_divisor))) :=
  fn_ok (N := N_is_number) (Γ := [.sh, .sh]) F sc_is_number rfl rfl rfl fun cdv A outer s H E hr => ⟨_, (dss_cons (ds_if (dt_tr (de_cb (m := .sh) (b_isi .tuple) m_isinstance (da_cons (dv 0) (da_cons (de_ty (m := .sh) m_tuple) da_nil))))
  (dss_cons (ds_if (DW.dt (dw_or (dt_cmp (o_ne hr) (de_cb (m := .sh) b_len m_len (da_cons (dv 0) da_nil)) (de_int (m := .sh)) (nomark _)) (dw_or1 (dt_not (dt_tr (de_cb (m := .sh) (b_all rfl) m_all (da_cons (DE.fz (de_lc (io' := [0]) [("x", 1)] rfl sc_is_number.nd (di_seq (dv 0)) (blkOk_by (N := N_is_number) (sc := defScope s_is_number) (by decide +kernel)) (fun _ _ _ _ _ => (dg_name 1 sc_is_number.nd)) (fun _ _ _ _ _ => dts_nil) (fun _ _ _ _ _ => (de_and (de_cb (m := .sh) (b_isi .int) m_isinstance (da_cons (dv 1) (da_cons (de_ty (m := .sh) m_int) da_nil))) (de_one (de_not (m := .sh) (de_cb (m := .sh) (b_isi .bool) m_isinstance (da_cons (dv 1) (da_cons (de_ty (m := .sh) m_bool) da_nil))))))))) da_nil)))))))
  (dss_one (ds_ret (de_bl (m := .sh))))
  dss_nil)
  (dss_one (ds_ret (de_and (de_cmp (m := .sh) o_gt (de_ix (dv 0) (de_int (m := .sh))) (de_int (m := .sh)) (nomark _)) (de_one (de_cmp (m := .sh) (o_eq hr) (de_call c_divisor hr (da_cons (de_cb (m := .sh) b_abs m_abs (da_cons (de_ix (dv 0) (de_int (m := .sh))) da_nil)) (da_cons (de_ix (dv 0) (de_int (m := .sh))) da_nil))) (de_int (m := .sh)) (nomark _)))))))
  dss_nil)
  (dss_one (ds_ret (de_and (de_cb (m := .sh) (b_isi .int) m_isinstance (da_cons (dv 0) (da_cons (de_ty (m := .sh) m_int) da_nil))) (de_one (de_not (m := .sh) (de_cb (m := .sh) (b_isi .bool) m_isinstance (da_cons (dv 0) (da_cons (de_ty (m := .sh) m_bool) da_nil)))))))))⟩
abbrev s_least : Stmt := top 16
abbrev N_least : List Str := ["numbers", "found", "number"]
theorem sc_least : FnScope N_least ["numbers"] (defScope s_least) := ⟨rfl, rfl, rfl, by decide +kernel, rfl, by decide +kernel, by decide +kernel⟩
def b_least_53 (f_less : List D → Option (Rs D)) : Mr Fl :=
  (mAsg (mOp dIx (mVar 0) (ret (.int 0))) (gtName 1))
def b_least_56 (f_less : List D → Option (Rs D)) : Mr Fl :=
  (mAsg (mVar 2) (gtName 1))
def b_least_55 (f_less : List D → Option (Rs D)) : Mr Fl :=
  (mIf (bnd (mCl0 [.v .sh, .v .sh] f_less (mCons (mVar 2) (mCons (mVar 1) mNil))) fun d => lft (dTr d))
  (b_least_56 f_less)
  mSkip)
def b_least_54 (f_less : List D → Option (Rs D)) : Mr Fl :=
  (mFor (bnd (bnd (mPair (mVar 0) (mPair (bnd (ret (.int 1)) fun d => lft (dPart d)) (ret none))) fun p => lft (dSl p.1 p.2.1 p.2.2)) fun d => lft (dItems d)) (gtName 2)
  (b_least_55 f_less))
def b_least_57 (f_less : List D → Option (Rs D)) : Mr Fl :=
  (bnd (mVar 1) fun d => ret (.rt d))
def b_least (f_less : List D → Option (Rs D)) : Mr Fl :=
  (mSeq (b_least_53 f_less)
  (mSeq (b_least_54 f_less)
  (b_least_57 f_less)))
theorem ok_least {P : Program} {w : World} {K : PySem.W.Frag} {mg : Str → Option Value} {base : Heap} {f : Addr} {fd : FuncData} {k : Nat} (F : Fun K "least" "least" s_least f fd) {f_less : List D → Option (Rs D)} (c_less : Cl P w K mg base CX0 k "less" [.sh, .sh] .sh f_less) :
    FnOk P w K mg base CX0 (k + 1) f fd ["numbers"] (spD K [.sh] .sh (bodyF0 3 [] (b_least f_less))) :=
  fn_ok (N := N_least) (Γ := [.sh, .sh, .sh]) F sc_least rfl rfl rfl fun cdv A outer s H E hr => ⟨_, (dss_cons (ds_asg (de_ix (dv 0) (de_int (m := .sh))) (dg_name 1 sc_least.nd))
  (dss_cons (ds_for PassesOwn.never rfl (di_seq (DE.fz (de_sl (dv 0) (do_some (de_int (m := .sh))) do_none))) (dg_name 2 sc_least.nd)
  (dss_one (ds_if (dt_tr (de_call c_less hr (da_cons (dv 2) (da_cons (dv 1) da_nil))))
  (dss_one (ds_asg (dv 2) (dg_name 1 sc_least.nd)))
  dss_nil)))
  (dss_one (ds_ret (dv 1)))))⟩
abbrev s_greatest : Stmt := top 17
abbrev N_greatest : List Str := ["numbers", "number"]
theorem sc_greatest : FnScope N_greatest ["numbers"] (defScope s_greatest) := ⟨rfl, rfl, rfl, by decide +kernel, rfl, by decide +kernel, by decide +kernel⟩
def b_greatest_59 (f_minus : List D → Option (Rs D)) (f_least : List D → Option (Rs D)) : Mr Fl :=
  (bnd (mCl0 [.v .sh] f_minus (mCons (mCl0 [.v .sh] f_least (mCons (mLc (bnd (mVar 0) fun d => lft (dItems d)) [1] (gtName 1) (ret true) (mCl0 [.v .sh] f_minus (mCons (mVar 1) mNil))) mNil)) mNil)) fun d => ret (.rt d))
def b_greatest (f_minus : List D → Option (Rs D)) (f_least : List D → Option (Rs D)) : Mr Fl :=
  (b_greatest_59 f_minus f_least)
theorem ok_greatest {P : Program} {w : World} {K : PySem.W.Frag} {mg : Str → Option Value} {base : Heap} {f : Addr} {fd : FuncData} {k : Nat} (F : Fun K "greatest" "greatest" s_greatest f fd) {f_minus : List D → Option (Rs D)} (c_minus : Cl P w K mg base CX0 k "minus" [.sh] .sh f_minus) {f_least : List D → Option (Rs D)} (c_least : Cl P w K mg base CX0 k "least" [.sh] .sh f_least) :
    FnOk P w K mg base CX0 (k + 1) f fd ["numbers"] (spD K [.sh] .sh (bodyF0 2 [] (b_greatest f_minus f_least))) :=
  fn_ok (N := N_greatest) (Γ := [.sh, .sh]) F sc_greatest rfl rfl rfl fun cdv A outer s H E hr => ⟨_, (dss_one (ds_ret (de_call c_minus hr (da_cons (de_call c_least hr (da_cons (DE.fz (de_lc (io' := [0]) [("number", 1)] rfl sc_greatest.nd (di_seq (dv 0)) (blkOk_by (N := N_greatest) (sc := defScope s_greatest) (by decide +kernel)) (fun _ _ _ _ _ => (dg_name 1 sc_greatest.nd)) (fun _ _ _ _ _ => dts_nil) (fun _ _ _ _ _ => (de_call c_minus hr (da_cons (dv 1) da_nil))))) da_nil)) da_nil))))⟩
abbrev s__law_draws : Stmt := top 19
abbrev N__law_draws : List Str := ["script", "numbers", "cell", "rest", "mixed", "k"]
theorem sc__law_draws : FnScope N__law_draws ["script"] (defScope s__law_draws) := ⟨rfl, rfl, rfl, by decide +kernel, rfl, by decide +kernel, by decide +kernel⟩
def b__law_draws_62  : Mr Fl :=
  (mAsg (bnd mNil fun ds => lft (dLst ds)) (gtName 1))
def b__law_draws_64  : Mr Fl :=
  (mAsg (mCall bAbs (mCons (mCall bInt (mCons (mVar 2) mNil)) mNil)) (gtName 3))
def b__law_draws_65  : Mr Fl :=
  (mAsg (mOp dAdd (mOp dMod (mCall bInt (mCons (mVar 2) mNil)) (ret (.int 1000003))) (ret (.int 1))) (gtName 4))
def b__law_draws_68  : Mr Fl :=
  (bnd (mApp 1 (bnd (mTk 1) fun d => ret (d, [])) (mCons (mOp dMod (mCall bInt (mCons (mVar 3) mNil)) (ret (.int 1048576))) mNil)) fun _ => mSkip)
def b__law_draws_69  : Mr Fl :=
  (mAsg (mOp dFdiv (mVar 3) (ret (.int 1048576))) (gtName 3))
def b__law_draws_71  : Mr Fl :=
  (mAsg (mOp dMod (mCall bInt (mCons (mOp dAdd (mOp dAdd (mOp dAdd (mOp dMul (mVar 4) (ret (.int 48271))) (mOp dMul (ret (.int 11)) (mVar 5))) (ret (.int 7))) (mVar 3)) mNil)) (ret (.int 2147483647))) (gtName 4))
def b__law_draws_72  : Mr Fl :=
  (bnd (mApp 1 (bnd (mTk 1) fun d => ret (d, [])) (mCons (mOp dMod (mCall bInt (mCons (mOp dFdiv (mOp dMul (mVar 4) (ret (.int 2862933555777941757))) (ret (.int 1024))) mNil)) (ret (.int 1048576))) mNil)) fun _ => mSkip)
def b__law_draws_67  : Mr Fl :=
  (mIf (bnd (mOp dGe (mVar 3) (ret (.int 1048576))) fun d => lft (dBool d))
  (mSeq (b__law_draws_68)
  (b__law_draws_69))
  (mSeq (b__law_draws_71)
  (b__law_draws_72)))
def b__law_draws_66  : Mr Fl :=
  (mFor (mRng (mCons (ret (.int 40)) mNil)) (gtName 5)
  (b__law_draws_67))
def b__law_draws_63  : Mr Fl :=
  (mFor (bnd (mOp dAdd (mCall bList (mCons (bnd (mPair (mVar 0) (mPair (ret none) (bnd (ret (.int 8)) fun d => lft (dPart d)))) fun p => lft (dSl p.1 p.2.1 p.2.2)) mNil)) (bnd (mCons (ret (.int 7)) mNil) fun ds => lft (dLst ds))) fun d => lft (dItems d)) (gtName 2)
  (mSeq (b__law_draws_64)
  (mSeq (b__law_draws_65)
  (b__law_draws_66))))
def b__law_draws_73  : Mr Fl :=
  (bnd (mDisp [.inr "numbers", .inr "at"] (mCons (mFz 1) (mCons (ret (.int 0)) mNil))) fun d => ret (.rt d))
def b__law_draws  : Mr Fl :=
  (mSeq (b__law_draws_62)
  (mSeq (b__law_draws_63)
  (b__law_draws_73)))
theorem ok__law_draws {P : Program} {w : World} {K : PySem.W.Frag} {mg : Str → Option Value} {base : Heap} {f : Addr} {fd : FuncData} {k : Nat} (F : Fun K "_law_draws" "_law_draws" s__law_draws f fd) (m_list : mg "list" = none) (m_int : mg "int" = none) (m_abs : mg "abs" = none) (m_range : mg "range" = none) :
    FnOk P w K mg base CX0 (k + 1) f fd ["script"] (spD K [.sh] (.own .sh) (bodyF0 6 [] (b__law_draws))) :=
  fn_ok (N := N__law_draws) (Γ := [.sh, (.own .sh), .sh, .sh, .sh, .sh]) F sc__law_draws rfl rfl rfl fun cdv A outer s H E hr => ⟨_, (dss_cons (ds_asg (de_lst (m := .sh) da_nil) (dg_name 1 sc__law_draws.nd))
  (dss_cons (ds_for PassesOwn.never rfl (di_seq (DE.fz (de_op (m := (.own .sh)) o_add (DE.fz (de_ct (m := (.own .sh)) b_list m_list (da_cons (DE.fz (de_sl (dv 0) do_none (do_some (de_int (m := .sh))))) da_nil))) (DE.fz (de_lst (m := .sh) (da_cons (de_int (m := .sh)) da_nil)))))) (dg_name 2 sc__law_draws.nd)
  (dss_cons (ds_asg (de_cb (m := .sh) b_abs m_abs (da_cons (de_ct (m := .sh) b_int m_int (da_cons (dv 2) da_nil)) da_nil)) (dg_name 3 sc__law_draws.nd))
  (dss_cons (ds_asg (DE.fz (de_op (m := (.own .sh)) o_add (de_op (m := .sh) o_mod (de_ct (m := .sh) b_int m_int (da_cons (dv 2) da_nil)) (de_int (m := .sh))) (de_int (m := .sh)))) (dg_name 4 sc__law_draws.nd))
  (dss_one (ds_for PassesOwn.never rfl (di_range1 m_range (da_cons (de_int (m := .sh)) da_nil)) (dg_name 5 sc__law_draws.nd)
  (dss_one (ds_if (dt_cmp o_ge (dv 3) (de_int (m := .sh)) (nomark _))
  (dss_cons (ds_expr0 (m := .sh) (de_app (c := .sh) (dp_var 1) (da_cons (de_op (m := .sh) o_mod (de_ct (m := .sh) b_int m_int (da_cons (dv 3) da_nil)) (de_int (m := .sh))) da_nil)))
  (dss_one (ds_asg (de_op (m := .sh) o_fdiv (dv 3) (de_int (m := .sh))) (dg_name 3 sc__law_draws.nd))))
  (dss_cons (ds_asg (de_op (m := .sh) o_mod (de_ct (m := .sh) b_int m_int (da_cons (DE.fz (de_op (m := (.own .sh)) o_add (DE.fz (de_op (m := (.own .sh)) o_add (DE.fz (de_op (m := (.own .sh)) o_add (DE.fz (de_op (m := (.own .sh)) o_mul (dv 4) (de_int (m := .sh)))) (DE.fz (de_op (m := (.own .sh)) o_mul (de_int (m := .sh)) (dv 5))))) (de_int (m := .sh)))) (dv 3))) da_nil)) (de_int (m := .sh))) (dg_name 4 sc__law_draws.nd))
  (dss_one (ds_expr0 (m := .sh) (de_app (c := .sh) (dp_var 1) (da_cons (de_op (m := .sh) o_mod (de_ct (m := .sh) b_int m_int (da_cons (de_op (m := .sh) o_fdiv (DE.fz (de_op (m := (.own .sh)) o_mul (dv 4) (de_int (m := .sh)))) (de_int (m := .sh))) da_nil)) (de_int (m := .sh))) da_nil))))))))))))
  (dss_one (ds_ret (de_disp (dks_s (dfz 1) (dks_s (de_int (m := .sh)) dks_nil)))))))⟩
abbrev s__law_next : Stmt := top 20
abbrev N__law_next : List Str := ["draws", "bound", "at"]
theorem sc__law_next : FnScope N__law_next ["draws", "bound"] (defScope s__law_next) := ⟨rfl, rfl, rfl, by decide +kernel, rfl, by decide +kernel, by decide +kernel⟩
def b__law_next_75  : Mr Fl :=
  (mAsg (mCall bInt (mCons (mRead 0 (bnd (mPair (bnd (mTk 0) fun d => ret (d, [])) (ret (.str "at"))) fun p => lft (ixD p.1 p.2))) mNil)) (gtName 2))
def b__law_next_76  : Mr Fl :=
  (mAsg (mOp dAdd (mVar 2) (ret (.int 1))) (gtSubD 0 (bnd (mTk 0) fun d => ret (d, [])) (ret (.str "at"))))
def b__law_next_77  : Mr Fl :=
  (bnd (mOp dMod (mCall bInt (mCons (mOp dAdd (mOp dIx (mRead 0 (bnd (mPair (bnd (mTk 0) fun d => ret (d, [])) (ret (.str "numbers"))) fun p => lft (ixD p.1 p.2))) (mOp dMod (mVar 2) (mLen 0 (bnd (mPair (bnd (mTk 0) fun d => ret (d, [])) (ret (.str "numbers"))) fun p => lft (ixD p.1 p.2))))) (mOp dMul (ret (.int 31)) (mOp dFdiv (mVar 2) (mLen 0 (bnd (mPair (bnd (mTk 0) fun d => ret (d, [])) (ret (.str "numbers"))) fun p => lft (ixD p.1 p.2)))))) mNil)) (mVar 1)) fun d => ret (.rt d))
def b__law_next  : Mr Fl :=
  (mSeq (b__law_next_75)
  (mSeq (b__law_next_76)
  (b__law_next_77)))
theorem ok__law_next {P : Program} {w : World} {K : PySem.W.Frag} {mg : Str → Option Value} {base : Heap} {f : Addr} {fd : FuncData} {k : Nat} (F : Fun K "_law_next" "_law_next" s__law_next f fd) (m_int : mg "int" = none) (m_len : mg "len" = none) :
    FnOk P w K mg base CX0 (k + 1) f fd ["draws", "bound"] (spD K [(.own .sh), .sh] .sh (bodyF0 3 [0] (b__law_next))) :=
  fn_ok (N := N__law_next) (Γ := [(.own .sh), .sh, .sh]) F sc__law_next rfl rfl rfl fun cdv A outer s H E hr => ⟨_, (dss_cons (ds_asg (de_ct (m := .sh) b_int m_int (da_cons (de_read (dp_key (hu1 hr) (dp_var 0) (de_str (m := .sh)))) da_nil)) (dg_name 2 sc__law_next.nd))
  (dss_cons (ds_asg (DE.fz (de_op (m := (.own .sh)) o_add (dv 2) (de_int (m := .sh)))) (dg_key (hu1 hr) (dp_var 0) (de_str (m := .sh))))
  (dss_one (ds_ret (de_op (m := .sh) o_mod (de_ct (m := .sh) b_int m_int (da_cons (DE.fz (de_op (m := (.own .sh)) o_add (de_ix (de_read (dp_key (hu1 hr) (dp_var 0) (de_str (m := .sh)))) (de_op (m := .sh) o_mod (dv 2) (de_lenP (c := .sh) m_len (dp_key (hu1 hr) (dp_var 0) (de_str (m := .sh)))))) (DE.fz (de_op (m := (.own .sh)) o_mul (de_int (m := .sh)) (de_op (m := .sh) o_fdiv (dv 2) (de_lenP (c := .sh) m_len (dp_key (hu1 hr) (dp_var 0) (de_str (m := .sh))))))))) da_nil)) (dv 1))))))⟩
abbrev s__law_pick : Stmt := top 21
abbrev N__law_pick : List Str := ["draws", "things"]
theorem sc__law_pick : FnScope N__law_pick ["draws", "things"] (defScope s__law_pick) := ⟨rfl, rfl, rfl, by decide +kernel, rfl, by decide +kernel, by decide +kernel⟩
def b__law_pick (f__law_next : List D → Option (Rs D)) : Mr Fl :=
  (bnd (mOp dIx (mVar 1) (mCl0 [.io 0, .v .sh] f__law_next (mCons (mMov 0) (mCons (mCall bLen (mCons (mVar 1) mNil)) mNil)))) fun d => ret (.rt d))
theorem ok__law_pick {P : Program} {w : World} {K : PySem.W.Frag} {mg : Str → Option Value} {base : Heap} {f : Addr} {fd : FuncData} {k : Nat} (F : Fun K "_law_pick" "_law_pick" s__law_pick f fd) {f__law_next : List D → Option (Rs D)} (c__law_next : Cl P w K mg base CX0 k "_law_next" [(.own .sh), .sh] .sh f__law_next) (m_len : mg "len" = none) :
    FnOk P w K mg base CX0 (k + 1) f fd ["draws", "things"] (spD K [(.own .sh), .sh] .sh (bodyF0 2 [0] (b__law_pick f__law_next))) :=
  fn_ok (N := N__law_pick) (Γ := [(.own .sh), .sh]) F sc__law_pick rfl rfl rfl fun cdv A outer s H E hr => ⟨_, (dss_one (ds_ret (de_ix (dv 1) (de_call c__law_next hr (da_io 0 (da_cons (de_cb (m := .sh) b_len m_len (da_cons (dv 1) da_nil)) da_nil))))))⟩
abbrev s__law_same : Stmt := top 22
abbrev N__law_same : List Str := ["x", "due", "key", "k"]
theorem sc__law_same : FnScope N__law_same ["x", "due"] (defScope s__law_same) := ⟨rfl, rfl, rfl, by decide +kernel, rfl, by decide +kernel, by decide +kernel⟩
def b__law_same (f__law_same : List D → Option (Rs D)) : Mr Fl :=
  (mSeq (mIf (bnd (mOp dIs (mVar 1) (ret .non)) fun d => lft (dBool d))
  (bnd (mOp dIs (mVar 0) (ret .non)) fun d => ret (.rt d))
  mSkip)
  (mSeq (mIf (bnd (mCall (bIsi .bool) (mCons (mVar 1) (mCons (ret (.val (.ty "bool"))) mNil))) fun d => lft (dTr d))
  (bnd (mAndV (mCall (bIsi .bool) (mCons (mVar 0) (mCons (ret (.val (.ty "bool"))) mNil))) (mOp dEq (mVar 0) (mVar 1))) fun d => ret (.rt d))
  mSkip)
  (mSeq (mIf (bnd (mCall (bIsi .int) (mCons (mVar 1) (mCons (ret (.val (.ty "int"))) mNil))) fun d => lft (dTr d))
  (bnd (mAndV (mCall (bIsi .int) (mCons (mVar 0) (mCons (ret (.val (.ty "int"))) mNil))) (mAndV (mNotV (mCall (bIsi .bool) (mCons (mVar 0) (mCons (ret (.val (.ty "bool"))) mNil)))) (mOp dEq (mVar 0) (mVar 1)))) fun d => ret (.rt d))
  mSkip)
  (mSeq (mIf (bnd (mCall (bIsi .str) (mCons (mVar 1) (mCons (ret (.val (.ty "str"))) mNil))) fun d => lft (dTr d))
  (bnd (mAndV (mCall (bIsi .str) (mCons (mVar 0) (mCons (ret (.val (.ty "str"))) mNil))) (mOp dEq (mVar 0) (mVar 1))) fun d => ret (.rt d))
  mSkip)
  (mSeq (mIf (bnd (mCall (bIsi .dict) (mCons (mVar 1) (mCons (ret (.val (.ty "dict"))) mNil))) fun d => lft (dTr d))
  (mSeq (mIf (mOr (mNot (bnd (mCall (bIsi .dict) (mCons (mVar 0) (mCons (ret (.val (.ty "dict"))) mNil))) fun d => lft (dTr d))) (mOr (bnd (mOp dNe (mCall bLen (mCons (mVar 0) mNil)) (mCall bLen (mCons (mVar 1) mNil))) fun d => lft (dBool d)) (mNot (bnd (mCall bAll (mCons (mLc (bnd (mVar 1) fun d => lft (dItems d)) [2] (gtName 2) (ret true) (mOp dIn (mVar 2) (mVar 0))) mNil)) fun d => lft (dTr d)))))
  (bnd (ret (.bl false)) fun d => ret (.rt d))
  mSkip)
  (bnd (mCall bAll (mCons (mLc (bnd (mVar 1) fun d => lft (dItems d)) [2] (gtName 2) (ret true) (mCl0 [.v .sh, .v .sh] f__law_same (mCons (mOp dIx (mVar 0) (mVar 2)) (mCons (mOp dIx (mVar 1) (mVar 2)) mNil)))) mNil)) fun d => ret (.rt d)))
  mSkip)
  (mSeq (mIf (bnd (mCall (bIsi .list) (mCons (mVar 1) (mCons (ret (.val (.ty "list"))) mNil))) fun d => lft (dTr d))
  (bnd (mAndV (mCall (bIsi .list) (mCons (mVar 0) (mCons (ret (.val (.ty "list"))) mNil))) (mAndV (mOp dEq (mCall bLen (mCons (mVar 0) mNil)) (mCall bLen (mCons (mVar 1) mNil))) (mCall bAll (mCons (mLc (mRng (mCons (mCall bLen (mCons (mVar 1) mNil)) mNil)) [3] (gtName 3) (ret true) (mCl0 [.v .sh, .v .sh] f__law_same (mCons (mOp dIx (mVar 0) (mVar 3)) (mCons (mOp dIx (mVar 1) (mVar 3)) mNil)))) mNil)))) fun d => ret (.rt d))
  mSkip)
  (bnd (mAndV (mCall (bIsi .tuple) (mCons (mVar 0) (mCons (ret (.val (.ty "tuple"))) mNil))) (mAndV (mOp dEq (mCall bLen (mCons (mVar 0) mNil)) (mCall bLen (mCons (mVar 1) mNil))) (mCall bAll (mCons (mLc (mRng (mCons (mCall bLen (mCons (mVar 1) mNil)) mNil)) [3] (gtName 3) (ret true) (mCl0 [.v .sh, .v .sh] f__law_same (mCons (mOp dIx (mVar 0) (mVar 3)) (mCons (mOp dIx (mVar 1) (mVar 3)) mNil)))) mNil)))) fun d => ret (.rt d))))))))
theorem ok__law_same {P : Program} {w : World} {K : PySem.W.Frag} {mg : Str → Option Value} {base : Heap} {f : Addr} {fd : FuncData} {k : Nat} (F : Fun K "_law_same" "_law_same" s__law_same f fd) {f__law_same : List D → Option (Rs D)} (c__law_same : Cl P w K mg base CX0 k "_law_same" [.sh, .sh] .sh f__law_same) (m_isinstance : mg "isinstance" = none) (m_bool : mg "bool" = none) (m_int : mg "int" = none) (m_str : mg "str" = none) (m_dict : mg "dict" = none) (m_len : mg "len" = none) (m_all : mg "all" = none) (m_list : mg "list" = none) (m_range : mg "range" = none) (m_tuple : mg "tuple" = none) :
    FnOk P w K mg base CX0 (k + 1) f fd ["x", "due"] (spD K [.sh, .sh] .sh (bodyF0 4 [] (b__law_same f__law_same))) :=
  fn_ok (N := N__law_same) (Γ := [.sh, .sh, .sh, .sh]) F sc__law_same rfl rfl rfl fun cdv A outer s H E hr => ⟨_, (dss_cons (ds_if (dt_cmp o_is (dv 1) (de_non (m := .sh)) (nomark _))
  (dss_one (ds_ret (de_cmp (m := .sh) o_is (dv 0) (de_non (m := .sh)) (nomark _))))
  dss_nil)
  (dss_cons (ds_if (dt_tr (de_cb (m := .sh) (b_isi .bool) m_isinstance (da_cons (dv 1) (da_cons (de_ty (m := .sh) m_bool) da_nil))))
  (dss_one (ds_ret (de_and (de_cb (m := .sh) (b_isi .bool) m_isinstance (da_cons (dv 0) (da_cons (de_ty (m := .sh) m_bool) da_nil))) (de_one (de_cmp (m := .sh) (o_eq hr) (dv 0) (dv 1) (nomark _))))))
  dss_nil)
  (dss_cons (ds_if (dt_tr (de_cb (m := .sh) (b_isi .int) m_isinstance (da_cons (dv 1) (da_cons (de_ty (m := .sh) m_int) da_nil))))
  (dss_one (ds_ret (de_and (de_cb (m := .sh) (b_isi .int) m_isinstance (da_cons (dv 0) (da_cons (de_ty (m := .sh) m_int) da_nil))) (de_and (de_not (m := .sh) (de_cb (m := .sh) (b_isi .bool) m_isinstance (da_cons (dv 0) (da_cons (de_ty (m := .sh) m_bool) da_nil)))) (de_one (de_cmp (m := .sh) (o_eq hr) (dv 0) (dv 1) (nomark _)))))))
  dss_nil)
  (dss_cons (ds_if (dt_tr (de_cb (m := .sh) (b_isi .str) m_isinstance (da_cons (dv 1) (da_cons (de_ty (m := .sh) m_str) da_nil))))
  (dss_one (ds_ret (de_and (de_cb (m := .sh) (b_isi .str) m_isinstance (da_cons (dv 0) (da_cons (de_ty (m := .sh) m_str) da_nil))) (de_one (de_cmp (m := .sh) (o_eq hr) (dv 0) (dv 1) (nomark _))))))
  dss_nil)
  (dss_cons (ds_if (dt_tr (de_cb (m := .sh) (b_isi .dict) m_isinstance (da_cons (dv 1) (da_cons (de_ty (m := .sh) m_dict) da_nil))))
  (dss_cons (ds_if (DW.dt (dw_or (dt_not (dt_tr (de_cb (m := .sh) (b_isi .dict) m_isinstance (da_cons (dv 0) (da_cons (de_ty (m := .sh) m_dict) da_nil))))) (dw_or (dt_cmp (o_ne hr) (de_cb (m := .sh) b_len m_len (da_cons (dv 0) da_nil)) (de_cb (m := .sh) b_len m_len (da_cons (dv 1) da_nil)) (nomark _)) (dw_or1 (dt_not (dt_tr (de_cb (m := .sh) (b_all rfl) m_all (da_cons (DE.fz (de_lc (io' := [0, 1, 3]) [("key", 2)] rfl sc__law_same.nd (di_seq (dv 1)) (blkOk_by (N := N__law_same) (sc := defScope s__law_same) (by decide +kernel)) (fun _ _ _ _ _ => (dg_name 2 sc__law_same.nd)) (fun _ _ _ _ _ => dts_nil) (fun _ _ _ _ _ => (de_cmp (m := .sh) (o_in hr) (dv 2) (dv 0) rfl)))) da_nil))))))))
  (dss_one (ds_ret (de_bl (m := .sh))))
  dss_nil)
  (dss_one (ds_ret (de_cb (m := .sh) (b_all rfl) m_all (da_cons (DE.fz (de_lc (io' := [0, 1, 3]) [("key", 2)] rfl sc__law_same.nd (di_seq (dv 1)) (blkOk_by (N := N__law_same) (sc := defScope s__law_same) (by decide +kernel)) (fun _ _ _ _ _ => (dg_name 2 sc__law_same.nd)) (fun _ _ _ _ _ => dts_nil) (fun _ _ _ _ _ => (de_call c__law_same hr (da_cons (de_ix (dv 0) (dv 2)) (da_cons (de_ix (dv 1) (dv 2)) da_nil)))))) da_nil)))))
  dss_nil)
  (dss_cons (ds_if (dt_tr (de_cb (m := .sh) (b_isi .list) m_isinstance (da_cons (dv 1) (da_cons (de_ty (m := .sh) m_list) da_nil))))
  (dss_one (ds_ret (de_and (de_cb (m := .sh) (b_isi .list) m_isinstance (da_cons (dv 0) (da_cons (de_ty (m := .sh) m_list) da_nil))) (de_and (de_cmp (m := .sh) (o_eq hr) (de_cb (m := .sh) b_len m_len (da_cons (dv 0) da_nil)) (de_cb (m := .sh) b_len m_len (da_cons (dv 1) da_nil)) (nomark _)) (de_one (de_cb (m := .sh) (b_all rfl) m_all (da_cons (DE.fz (de_lc (io' := [0, 1, 2]) [("k", 3)] rfl sc__law_same.nd (di_range1 m_range (da_cons (de_cb (m := .sh) b_len m_len (da_cons (dv 1) da_nil)) da_nil)) (blkOk_by (N := N__law_same) (sc := defScope s__law_same) (by decide +kernel)) (fun _ _ _ _ _ => (dg_name 3 sc__law_same.nd)) (fun _ _ _ _ _ => dts_nil) (fun _ _ _ _ _ => (de_call c__law_same hr (da_cons (de_ix (dv 0) (dv 3)) (da_cons (de_ix (dv 1) (dv 3)) da_nil)))))) da_nil)))))))
  dss_nil)
  (dss_one (ds_ret (de_and (de_cb (m := .sh) (b_isi .tuple) m_isinstance (da_cons (dv 0) (da_cons (de_ty (m := .sh) m_tuple) da_nil))) (de_and (de_cmp (m := .sh) (o_eq hr) (de_cb (m := .sh) b_len m_len (da_cons (dv 0) da_nil)) (de_cb (m := .sh) b_len m_len (da_cons (dv 1) da_nil)) (nomark _)) (de_one (de_cb (m := .sh) (b_all rfl) m_all (da_cons (DE.fz (de_lc (io' := [0, 1, 2]) [("k", 3)] rfl sc__law_same.nd (di_range1 m_range (da_cons (de_cb (m := .sh) b_len m_len (da_cons (dv 1) da_nil)) da_nil)) (blkOk_by (N := N__law_same) (sc := defScope s__law_same) (by decide +kernel)) (fun _ _ _ _ _ => (dg_name 3 sc__law_same.nd)) (fun _ _ _ _ _ => dts_nil) (fun _ _ _ _ _ => (de_call c__law_same hr (da_cons (de_ix (dv 0) (dv 3)) (da_cons (de_ix (dv 1) (dv 3)) da_nil)))))) da_nil)))))))))))))⟩
abbrev s__law_ratio : Stmt := top 23
abbrev N__law_ratio : List Str := ["above", "below", "a", "b"]
theorem sc__law_ratio : FnScope N__law_ratio ["above", "below"] (defScope s__law_ratio) := ⟨rfl, rfl, rfl, by decide +kernel, rfl, by decide +kernel, by decide +kernel⟩
def b__law_ratio_98  : Mr Fl :=
  (mPar 0 1 (mCons (mOp dSub (ret (.int 0)) (mVar 0)) (mCons (mOp dSub (ret (.int 0)) (mVar 1)) mNil)))
def b__law_ratio_97  : Mr Fl :=
  (mIf (bnd (mOp dLt (mVar 1) (ret (.int 0))) fun d => lft (dBool d))
  (b__law_ratio_98)
  mSkip)
def b__law_ratio_99  : Mr Fl :=
  (mPar 2 3 (mCons (mCall bAbs (mCons (mVar 0) mNil)) (mCons (mVar 1) mNil)))
def b__law_ratio_101  : Mr Fl :=
  (mPar 2 3 (mCons (mVar 3) (mCons (mOp dMod (mCall bInt (mCons (mVar 2) mNil)) (mVar 3)) mNil)))
def b__law_ratio_100  : Mr Fl :=
  (whileM (bnd (mOp dGt (mVar 3) (ret (.int 0))) fun d => lft (dBool d))
  (b__law_ratio_101) 2000)
def b__law_ratio_102  : Mr Fl :=
  (mPar 0 1 (mCons (mOp dFdiv (mVar 0) (mVar 2)) (mCons (mOp dFdiv (mVar 1) (mVar 2)) mNil)))
def b__law_ratio_103  : Mr Fl :=
  (bnd (mIf (bnd (mOp dEq (mVar 1) (ret (.int 1))) fun d => lft (dBool d)) (mVar 0) (bnd (mCons (mVar 0) (mCons (mVar 1) mNil)) fun ds => lft (dTup ds))) fun d => ret (.rt d))
def b__law_ratio  : Mr Fl :=
  (mSeq (b__law_ratio_97)
  (mSeq (b__law_ratio_99)
  (mSeq (b__law_ratio_100)
  (mSeq (b__law_ratio_102)
  (b__law_ratio_103)))))
theorem ok__law_ratio {P : Program} {w : World} {K : PySem.W.Frag} {mg : Str → Option Value} {base : Heap} {f : Addr} {fd : FuncData} {k : Nat} (F : Fun K "_law_ratio" "_law_ratio" s__law_ratio f fd) (m_abs : mg "abs" = none) (m_int : mg "int" = none) :
    FnOk P w K mg base CX0 (k + 1) f fd ["above", "below"] (spD K [.sh, .sh] .sh (bodyF0 4 [] (b__law_ratio))) :=
  fn_ok (N := N__law_ratio) (Γ := [.sh, .sh, .sh, .sh]) F sc__law_ratio rfl rfl rfl fun cdv A outer s H E hr => ⟨_, (dss_cons (ds_if (dt_cmp o_lt (dv 1) (de_int (m := .sh)) (nomark _))
  (dss_one (ds_par (i := 0) (j := 1) rfl sc__law_ratio.nd (da_cons (de_op (m := .sh) o_sub (de_int (m := .sh)) (dv 0)) (da_cons (de_op (m := .sh) o_sub (de_int (m := .sh)) (dv 1)) da_nil)) rfl))
  dss_nil)
  (dss_cons (ds_par (i := 2) (j := 3) rfl sc__law_ratio.nd (da_cons (de_cb (m := .sh) b_abs m_abs (da_cons (dv 0) da_nil)) (da_cons (dv 1) da_nil)) rfl)
  (dss_cons (ds_while 2000 PassesOwn.never (dt_cmp o_gt (dv 3) (de_int (m := .sh)) (nomark _))
  (dss_one (ds_par (i := 2) (j := 3) rfl sc__law_ratio.nd (da_cons (dv 3) (da_cons (de_op (m := .sh) o_mod (de_ct (m := .sh) b_int m_int (da_cons (dv 2) da_nil)) (dv 3)) da_nil)) rfl)))
  (dss_cons (ds_par (i := 0) (j := 1) rfl sc__law_ratio.nd (da_cons (de_op (m := .sh) o_fdiv (dv 0) (dv 2)) (da_cons (de_op (m := .sh) o_fdiv (dv 1) (dv 2)) da_nil)) rfl)
  (dss_one (ds_ret (de_if (dt_cmp (o_eq hr) (dv 1) (de_int (m := .sh)) (nomark _)) (dv 0) (DE.fz (de_tup (m := .sh) (da_cons (dv 0) (da_cons (dv 1) da_nil)))))))))))⟩
abbrev s__law_two : Stmt := top 24
abbrev N__law_two : List Str := ["number"]
theorem sc__law_two : FnScope N__law_two ["number"] (defScope s__law_two) := ⟨rfl, rfl, rfl, by decide +kernel, rfl, by decide +kernel, by decide +kernel⟩
def b__law_two  : Mr Fl :=
  (bnd (mIf (bnd (mCall (bIsi .tuple) (mCons (mVar 0) (mCons (ret (.val (.ty "tuple"))) mNil))) fun d => lft (dTr d)) (mVar 0) (bnd (mCons (mVar 0) (mCons (ret (.int 1)) mNil)) fun ds => lft (dTup ds))) fun d => ret (.rt d))
theorem ok__law_two {P : Program} {w : World} {K : PySem.W.Frag} {mg : Str → Option Value} {base : Heap} {f : Addr} {fd : FuncData} {k : Nat} (F : Fun K "_law_two" "_law_two" s__law_two f fd) (m_isinstance : mg "isinstance" = none) (m_tuple : mg "tuple" = none) :
    FnOk P w K mg base CX0 (k + 1) f fd ["number"] (spD K [.sh] .sh (bodyF0 1 [] (b__law_two))) :=
  fn_ok (N := N__law_two) (Γ := [.sh]) F sc__law_two rfl rfl rfl fun cdv A outer s H E hr => ⟨_, (dss_one (ds_ret (de_if (dt_tr (de_cb (m := .sh) (b_isi .tuple) m_isinstance (da_cons (dv 0) (da_cons (de_ty (m := .sh) m_tuple) da_nil)))) (dv 0) (DE.fz (de_tup (m := .sh) (da_cons (dv 0) (da_cons (de_int (m := .sh)) da_nil)))))))⟩
abbrev s__law_less : Stmt := top 25
abbrev N__law_less : List Str := ["one", "other", "a", "b", "c", "d"]
theorem sc__law_less : FnScope N__law_less ["one", "other"] (defScope s__law_less) := ⟨rfl, rfl, rfl, by decide +kernel, rfl, by decide +kernel, by decide +kernel⟩
def b__law_less (f__law_two : List D → Option (Rs D)) : Mr Fl :=
  (mSeq (mAsg (mCl0 [.v .sh] f__law_two (mCons (mVar 0) mNil)) (gtTup 2 (gtCons (gtName 2) (gtCons (gtName 3) gtNil))))
  (mSeq (mAsg (mCl0 [.v .sh] f__law_two (mCons (mVar 1) mNil)) (gtTup 2 (gtCons (gtName 4) (gtCons (gtName 5) gtNil))))
  (bnd (mOp dLt (mOp dMul (mVar 2) (mVar 5)) (mOp dMul (mVar 4) (mVar 3))) fun d => ret (.rt d))))
theorem ok__law_less {P : Program} {w : World} {K : PySem.W.Frag} {mg : Str → Option Value} {base : Heap} {f : Addr} {fd : FuncData} {k : Nat} (F : Fun K "_law_less" "_law_less" s__law_less f fd) {f__law_two : List D → Option (Rs D)} (c__law_two : Cl P w K mg base CX0 k "_law_two" [.sh] .sh f__law_two) :
    FnOk P w K mg base CX0 (k + 1) f fd ["one", "other"] (spD K [.sh, .sh] .sh (bodyF0 6 [] (b__law_less f__law_two))) :=
  fn_ok (N := N__law_less) (Γ := [.sh, .sh, .sh, .sh, .sh, .sh]) F sc__law_less rfl rfl rfl fun cdv A outer s H E hr => ⟨_, (dss_cons (ds_asg (de_call c__law_two hr (da_cons (dv 0) da_nil)) (dg_tupS rfl (dgs_cons (dg_name 2 sc__law_less.nd) (dgs_cons (dg_name 3 sc__law_less.nd) dgs_nil))))
  (dss_cons (ds_asg (de_call c__law_two hr (da_cons (dv 1) da_nil)) (dg_tupS rfl (dgs_cons (dg_name 4 sc__law_less.nd) (dgs_cons (dg_name 5 sc__law_less.nd) dgs_nil))))
  (dss_one (ds_ret (de_cmp (m := .sh) o_lt (DE.fz (de_op (m := (.own .sh)) o_mul (dv 2) (dv 5))) (DE.fz (de_op (m := (.own .sh)) o_mul (dv 4) (dv 3))) (nomark _))))))⟩
abbrev s__law_big : Stmt := top 26
abbrev N__law_big : List Str := ["draws", "above"]
theorem sc__law_big : FnScope N__law_big ["draws"] (defScope s__law_big) := ⟨rfl, rfl, rfl, by decide +kernel, rfl, by decide +kernel, by decide +kernel⟩
def b__law_big_111 (f__law_next : List D → Option (Rs D)) (f__law_pick : List D → Option (Rs D)) (f__law_ratio : List D → Option (Rs D)) : Mr Fl :=
  (mAsg (mOp dMul (mOp dSub (mCl0 [.io 0, .v .sh] f__law_next (mCons (mMov 0) (mCons (ret (.int 2001)) mNil))) (ret (.int 1000))) (mCl0 [.io 0, .v .sh] f__law_pick (mCons (mMov 0) (mCons (bnd (mCons (ret (.int 1)) (mCons (ret (.int 1)) (mCons (mOp dPow (ret (.int 10)) (ret (.int 20))) mNil))) fun ds => lft (dLst ds)) mNil)))) (gtName 1))
def b__law_big_112 (f__law_next : List D → Option (Rs D)) (f__law_pick : List D → Option (Rs D)) (f__law_ratio : List D → Option (Rs D)) : Mr Fl :=
  (bnd (mCl0 [.v .sh, .v .sh] f__law_ratio (mCons (mOp dAdd (mVar 1) (mCl0 [.io 0, .v .sh] f__law_next (mCons (mMov 0) (mCons (ret (.int 3)) mNil)))) (mCons (mOp dAdd (ret (.int 1)) (mCl0 [.io 0, .v .sh] f__law_next (mCons (mMov 0) (mCons (ret (.int 30)) mNil)))) mNil))) fun d => ret (.rt d))
def b__law_big (f__law_next : List D → Option (Rs D)) (f__law_pick : List D → Option (Rs D)) (f__law_ratio : List D → Option (Rs D)) : Mr Fl :=
  (mSeq (b__law_big_111 f__law_next f__law_pick f__law_ratio)
  (b__law_big_112 f__law_next f__law_pick f__law_ratio))
theorem ok__law_big {P : Program} {w : World} {K : PySem.W.Frag} {mg : Str → Option Value} {base : Heap} {f : Addr} {fd : FuncData} {k : Nat} (F : Fun K "_law_big" "_law_big" s__law_big f fd) {f__law_next : List D → Option (Rs D)} (c__law_next : Cl P w K mg base CX0 k "_law_next" [(.own .sh), .sh] .sh f__law_next) {f__law_pick : List D → Option (Rs D)} (c__law_pick : Cl P w K mg base CX0 k "_law_pick" [(.own .sh), .sh] .sh f__law_pick) {f__law_ratio : List D → Option (Rs D)} (c__law_ratio : Cl P w K mg base CX0 k "_law_ratio" [.sh, .sh] .sh f__law_ratio) :
    FnOk P w K mg base CX0 (k + 1) f fd ["draws"] (spD K [(.own .sh)] .sh (bodyF0 2 [0] (b__law_big f__law_next f__law_pick f__law_ratio))) :=
  fn_ok (N := N__law_big) (Γ := [(.own .sh), .sh]) F sc__law_big rfl rfl rfl fun cdv A outer s H E hr => ⟨_, (dss_cons (ds_asg (DE.fz (de_op (m := (.own .sh)) o_mul (de_op (m := .sh) o_sub (de_call c__law_next hr (da_io 0 (da_cons (de_int (m := .sh)) da_nil))) (de_int (m := .sh))) (de_call c__law_pick hr (da_io 0 (da_cons (DE.fz (de_lst (m := .sh) (da_cons (de_int (m := .sh)) (da_cons (de_int (m := .sh)) (da_cons (de_op (m := .sh) o_pow (de_int (m := .sh)) (de_int (m := .sh))) da_nil))))) da_nil))))) (dg_name 1 sc__law_big.nd))
  (dss_one (ds_ret (de_call c__law_ratio hr (da_cons (DE.fz (de_op (m := (.own .sh)) o_add (dv 1) (de_call c__law_next hr (da_io 0 (da_cons (de_int (m := .sh)) da_nil))))) (da_cons (DE.fz (de_op (m := (.own .sh)) o_add (de_int (m := .sh)) (de_call c__law_next hr (da_io 0 (da_cons (de_int (m := .sh)) da_nil))))) da_nil))))))⟩
abbrev s_law : Stmt := top 27
abbrev N_law : List Str := ["script", "draws", "turn", "one", "other", "a", "b", "c", "d", "due", "whole", "above", "near", "numbers", "k", "low", "high", "number", "below", "x", "y", "odd", "z"]
theorem sc_law : FnScope N_law ["script"] (defScope s_law) := ⟨rfl, rfl, rfl, by decide +kernel, rfl, by decide +kernel, by decide +kernel⟩
def b_law_114 (f__law_draws : List D → Option (Rs D)) (f__law_big : List D → Option (Rs D)) (f__law_two : List D → Option (Rs D)) (f__law_ratio : List D → Option (Rs D)) (f__law_same : List D → Option (Rs D)) (f_add : List D → Option (Rs D)) (f_sub : List D → Option (Rs D)) (f_mul : List D → Option (Rs D)) (f_minus : List D → Option (Rs D)) (f_div : List D → Option (Rs D)) (f_sign : List D → Option (Rs D)) (f_less : List D → Option (Rs D)) (f_floor : List D → Option (Rs D)) (f_ceiling : List D → Option (Rs D)) (f_rounded : List D → Option (Rs D)) (f_cut : List D → Option (Rs D)) (f__law_next : List D → Option (Rs D)) (f__law_less : List D → Option (Rs D)) (f_least : List D → Option (Rs D)) (f_greatest : List D → Option (Rs D)) (f__law_pick : List D → Option (Rs D)) (f_ratio : List D → Option (Rs D)) (f_is_number : List D → Option (Rs D)) : Mr Fl :=
  (mAsg (mCl0 [.v .sh] f__law_draws (mCons (mVar 0) mNil)) (gtName 1))
def b_law_116 (f__law_draws : List D → Option (Rs D)) (f__law_big : List D → Option (Rs D)) (f__law_two : List D → Option (Rs D)) (f__law_ratio : List D → Option (Rs D)) (f__law_same : List D → Option (Rs D)) (f_add : List D → Option (Rs D)) (f_sub : List D → Option (Rs D)) (f_mul : List D → Option (Rs D)) (f_minus : List D → Option (Rs D)) (f_div : List D → Option (Rs D)) (f_sign : List D → Option (Rs D)) (f_less : List D → Option (Rs D)) (f_floor : List D → Option (Rs D)) (f_ceiling : List D → Option (Rs D)) (f_rounded : List D → Option (Rs D)) (f_cut : List D → Option (Rs D)) (f__law_next : List D → Option (Rs D)) (f__law_less : List D → Option (Rs D)) (f_least : List D → Option (Rs D)) (f_greatest : List D → Option (Rs D)) (f__law_pick : List D → Option (Rs D)) (f_ratio : List D → Option (Rs D)) (f_is_number : List D → Option (Rs D)) : Mr Fl :=
  (mPar 3 4 (mCons (mCl0 [.io 1] f__law_big (mCons (mMov 1) mNil)) (mCons (mCl0 [.io 1] f__law_big (mCons (mMov 1) mNil)) mNil)))
def b_law_117 (f__law_draws : List D → Option (Rs D)) (f__law_big : List D → Option (Rs D)) (f__law_two : List D → Option (Rs D)) (f__law_ratio : List D → Option (Rs D)) (f__law_same : List D → Option (Rs D)) (f_add : List D → Option (Rs D)) (f_sub : List D → Option (Rs D)) (f_mul : List D → Option (Rs D)) (f_minus : List D → Option (Rs D)) (f_div : List D → Option (Rs D)) (f_sign : List D → Option (Rs D)) (f_less : List D → Option (Rs D)) (f_floor : List D → Option (Rs D)) (f_ceiling : List D → Option (Rs D)) (f_rounded : List D → Option (Rs D)) (f_cut : List D → Option (Rs D)) (f__law_next : List D → Option (Rs D)) (f__law_less : List D → Option (Rs D)) (f_least : List D → Option (Rs D)) (f_greatest : List D → Option (Rs D)) (f__law_pick : List D → Option (Rs D)) (f_ratio : List D → Option (Rs D)) (f_is_number : List D → Option (Rs D)) : Mr Fl :=
  (mAsg (mCl0 [.v .sh] f__law_two (mCons (mVar 3) mNil)) (gtTup 2 (gtCons (gtName 5) (gtCons (gtName 6) gtNil))))
def b_law_118 (f__law_draws : List D → Option (Rs D)) (f__law_big : List D → Option (Rs D)) (f__law_two : List D → Option (Rs D)) (f__law_ratio : List D → Option (Rs D)) (f__law_same : List D → Option (Rs D)) (f_add : List D → Option (Rs D)) (f_sub : List D → Option (Rs D)) (f_mul : List D → Option (Rs D)) (f_minus : List D → Option (Rs D)) (f_div : List D → Option (Rs D)) (f_sign : List D → Option (Rs D)) (f_less : List D → Option (Rs D)) (f_floor : List D → Option (Rs D)) (f_ceiling : List D → Option (Rs D)) (f_rounded : List D → Option (Rs D)) (f_cut : List D → Option (Rs D)) (f__law_next : List D → Option (Rs D)) (f__law_less : List D → Option (Rs D)) (f_least : List D → Option (Rs D)) (f_greatest : List D → Option (Rs D)) (f__law_pick : List D → Option (Rs D)) (f_ratio : List D → Option (Rs D)) (f_is_number : List D → Option (Rs D)) : Mr Fl :=
  (mAsg (mCl0 [.v .sh] f__law_two (mCons (mVar 4) mNil)) (gtTup 2 (gtCons (gtName 7) (gtCons (gtName 8) gtNil))))
def b_law_119 (f__law_draws : List D → Option (Rs D)) (f__law_big : List D → Option (Rs D)) (f__law_two : List D → Option (Rs D)) (f__law_ratio : List D → Option (Rs D)) (f__law_same : List D → Option (Rs D)) (f_add : List D → Option (Rs D)) (f_sub : List D → Option (Rs D)) (f_mul : List D → Option (Rs D)) (f_minus : List D → Option (Rs D)) (f_div : List D → Option (Rs D)) (f_sign : List D → Option (Rs D)) (f_less : List D → Option (Rs D)) (f_floor : List D → Option (Rs D)) (f_ceiling : List D → Option (Rs D)) (f_rounded : List D → Option (Rs D)) (f_cut : List D → Option (Rs D)) (f__law_next : List D → Option (Rs D)) (f__law_less : List D → Option (Rs D)) (f_least : List D → Option (Rs D)) (f_greatest : List D → Option (Rs D)) (f__law_pick : List D → Option (Rs D)) (f_ratio : List D → Option (Rs D)) (f_is_number : List D → Option (Rs D)) : Mr Fl :=
  (mAsg (bnd (mCons (mCl0 [.v .sh, .v .sh] f__law_ratio (mCons (mOp dAdd (mOp dMul (mVar 5) (mVar 8)) (mOp dMul (mVar 7) (mVar 6))) (mCons (mOp dMul (mVar 6) (mVar 8)) mNil))) (mCons (mCl0 [.v .sh, .v .sh] f__law_ratio (mCons (mOp dSub (mOp dMul (mVar 5) (mVar 8)) (mOp dMul (mVar 7) (mVar 6))) (mCons (mOp dMul (mVar 6) (mVar 8)) mNil))) (mCons (mCl0 [.v .sh, .v .sh] f__law_ratio (mCons (mOp dMul (mVar 5) (mVar 7)) (mCons (mOp dMul (mVar 6) (mVar 8)) mNil))) (mCons (mCl0 [.v .sh, .v .sh] f__law_ratio (mCons (mOp dSub (ret (.int 0)) (mVar 5)) (mCons (mVar 6) mNil))) mNil)))) fun ds => lft (dLst ds)) (gtName 9))
def b_law_121 (f__law_draws : List D → Option (Rs D)) (f__law_big : List D → Option (Rs D)) (f__law_two : List D → Option (Rs D)) (f__law_ratio : List D → Option (Rs D)) (f__law_same : List D → Option (Rs D)) (f_add : List D → Option (Rs D)) (f_sub : List D → Option (Rs D)) (f_mul : List D → Option (Rs D)) (f_minus : List D → Option (Rs D)) (f_div : List D → Option (Rs D)) (f_sign : List D → Option (Rs D)) (f_less : List D → Option (Rs D)) (f_floor : List D → Option (Rs D)) (f_ceiling : List D → Option (Rs D)) (f_rounded : List D → Option (Rs D)) (f_cut : List D → Option (Rs D)) (f__law_next : List D → Option (Rs D)) (f__law_less : List D → Option (Rs D)) (f_least : List D → Option (Rs D)) (f_greatest : List D → Option (Rs D)) (f__law_pick : List D → Option (Rs D)) (f_ratio : List D → Option (Rs D)) (f_is_number : List D → Option (Rs D)) : Mr Fl :=
  (bnd (ret (.bl false)) fun d => ret (.rt d))
def b_law_120 (f__law_draws : List D → Option (Rs D)) (f__law_big : List D → Option (Rs D)) (f__law_two : List D → Option (Rs D)) (f__law_ratio : List D → Option (Rs D)) (f__law_same : List D → Option (Rs D)) (f_add : List D → Option (Rs D)) (f_sub : List D → Option (Rs D)) (f_mul : List D → Option (Rs D)) (f_minus : List D → Option (Rs D)) (f_div : List D → Option (Rs D)) (f_sign : List D → Option (Rs D)) (f_less : List D → Option (Rs D)) (f_floor : List D → Option (Rs D)) (f_ceiling : List D → Option (Rs D)) (f_rounded : List D → Option (Rs D)) (f_cut : List D → Option (Rs D)) (f__law_next : List D → Option (Rs D)) (f__law_less : List D → Option (Rs D)) (f_least : List D → Option (Rs D)) (f_greatest : List D → Option (Rs D)) (f__law_pick : List D → Option (Rs D)) (f_ratio : List D → Option (Rs D)) (f_is_number : List D → Option (Rs D)) : Mr Fl :=
  (mIf (mNot (bnd (mCl0 [.v .sh, .v .sh] f__law_same (mCons (bnd (mCons (mCl0 [.v .sh, .v .sh] f_add (mCons (mVar 3) (mCons (mVar 4) mNil))) (mCons (mCl0 [.v .sh, .v .sh] f_sub (mCons (mVar 3) (mCons (mVar 4) mNil))) (mCons (mCl0 [.v .sh, .v .sh] f_mul (mCons (mVar 3) (mCons (mVar 4) mNil))) (mCons (mCl0 [.v .sh] f_minus (mCons (mVar 3) mNil)) mNil)))) fun ds => lft (dLst ds)) (mCons (mVar 9) mNil))) fun d => lft (dTr d)))
  (b_law_121 f__law_draws f__law_big f__law_two f__law_ratio f__law_same f_add f_sub f_mul f_minus f_div f_sign f_less f_floor f_ceiling f_rounded f_cut f__law_next f__law_less f_least f_greatest f__law_pick f_ratio f_is_number)
  mSkip)
def b_law_123 (f__law_draws : List D → Option (Rs D)) (f__law_big : List D → Option (Rs D)) (f__law_two : List D → Option (Rs D)) (f__law_ratio : List D → Option (Rs D)) (f__law_same : List D → Option (Rs D)) (f_add : List D → Option (Rs D)) (f_sub : List D → Option (Rs D)) (f_mul : List D → Option (Rs D)) (f_minus : List D → Option (Rs D)) (f_div : List D → Option (Rs D)) (f_sign : List D → Option (Rs D)) (f_less : List D → Option (Rs D)) (f_floor : List D → Option (Rs D)) (f_ceiling : List D → Option (Rs D)) (f_rounded : List D → Option (Rs D)) (f_cut : List D → Option (Rs D)) (f__law_next : List D → Option (Rs D)) (f__law_less : List D → Option (Rs D)) (f_least : List D → Option (Rs D)) (f_greatest : List D → Option (Rs D)) (f__law_pick : List D → Option (Rs D)) (f_ratio : List D → Option (Rs D)) (f_is_number : List D → Option (Rs D)) : Mr Fl :=
  (bnd (ret (.bl false)) fun d => ret (.rt d))
def b_law_122 (f__law_draws : List D → Option (Rs D)) (f__law_big : List D → Option (Rs D)) (f__law_two : List D → Option (Rs D)) (f__law_ratio : List D → Option (Rs D)) (f__law_same : List D → Option (Rs D)) (f_add : List D → Option (Rs D)) (f_sub : List D → Option (Rs D)) (f_mul : List D → Option (Rs D)) (f_minus : List D → Option (Rs D)) (f_div : List D → Option (Rs D)) (f_sign : List D → Option (Rs D)) (f_less : List D → Option (Rs D)) (f_floor : List D → Option (Rs D)) (f_ceiling : List D → Option (Rs D)) (f_rounded : List D → Option (Rs D)) (f_cut : List D → Option (Rs D)) (f__law_next : List D → Option (Rs D)) (f__law_less : List D → Option (Rs D)) (f_least : List D → Option (Rs D)) (f_greatest : List D → Option (Rs D)) (f__law_pick : List D → Option (Rs D)) (f_ratio : List D → Option (Rs D)) (f_is_number : List D → Option (Rs D)) : Mr Fl :=
  (mIf (mAnd (bnd (mOp dNe (mVar 7) (ret (.int 0))) fun d => lft (dBool d)) (mNot (bnd (mCl0 [.v .sh, .v .sh] f__law_same (mCons (mCl0 [.v .sh, .v .sh] f_div (mCons (mVar 3) (mCons (mVar 4) mNil))) (mCons (mCl0 [.v .sh, .v .sh] f__law_ratio (mCons (mOp dMul (mVar 5) (mVar 8)) (mCons (mOp dMul (mVar 6) (mVar 7)) mNil))) mNil))) fun d => lft (dTr d))))
  (b_law_123 f__law_draws f__law_big f__law_two f__law_ratio f__law_same f_add f_sub f_mul f_minus f_div f_sign f_less f_floor f_ceiling f_rounded f_cut f__law_next f__law_less f_least f_greatest f__law_pick f_ratio f_is_number)
  mSkip)
def b_law_125 (f__law_draws : List D → Option (Rs D)) (f__law_big : List D → Option (Rs D)) (f__law_two : List D → Option (Rs D)) (f__law_ratio : List D → Option (Rs D)) (f__law_same : List D → Option (Rs D)) (f_add : List D → Option (Rs D)) (f_sub : List D → Option (Rs D)) (f_mul : List D → Option (Rs D)) (f_minus : List D → Option (Rs D)) (f_div : List D → Option (Rs D)) (f_sign : List D → Option (Rs D)) (f_less : List D → Option (Rs D)) (f_floor : List D → Option (Rs D)) (f_ceiling : List D → Option (Rs D)) (f_rounded : List D → Option (Rs D)) (f_cut : List D → Option (Rs D)) (f__law_next : List D → Option (Rs D)) (f__law_less : List D → Option (Rs D)) (f_least : List D → Option (Rs D)) (f_greatest : List D → Option (Rs D)) (f__law_pick : List D → Option (Rs D)) (f_ratio : List D → Option (Rs D)) (f_is_number : List D → Option (Rs D)) : Mr Fl :=
  (bnd (ret (.bl false)) fun d => ret (.rt d))
def b_law_124 (f__law_draws : List D → Option (Rs D)) (f__law_big : List D → Option (Rs D)) (f__law_two : List D → Option (Rs D)) (f__law_ratio : List D → Option (Rs D)) (f__law_same : List D → Option (Rs D)) (f_add : List D → Option (Rs D)) (f_sub : List D → Option (Rs D)) (f_mul : List D → Option (Rs D)) (f_minus : List D → Option (Rs D)) (f_div : List D → Option (Rs D)) (f_sign : List D → Option (Rs D)) (f_less : List D → Option (Rs D)) (f_floor : List D → Option (Rs D)) (f_ceiling : List D → Option (Rs D)) (f_rounded : List D → Option (Rs D)) (f_cut : List D → Option (Rs D)) (f__law_next : List D → Option (Rs D)) (f__law_less : List D → Option (Rs D)) (f_least : List D → Option (Rs D)) (f_greatest : List D → Option (Rs D)) (f__law_pick : List D → Option (Rs D)) (f_ratio : List D → Option (Rs D)) (f_is_number : List D → Option (Rs D)) : Mr Fl :=
  (mIf (mNot (bnd (mCl0 [.v .sh, .v .sh] f__law_same (mCons (bnd (mCons (mCl0 [.v .sh] f_sign (mCons (mVar 3) mNil)) (mCons (mCl0 [.v .sh, .v .sh] f_less (mCons (mVar 3) (mCons (mVar 4) mNil))) mNil)) fun ds => lft (dLst ds)) (mCons (bnd (mCons (mOp dSub (mCall bInt (mCons (mOp dGt (mVar 5) (ret (.int 0))) mNil)) (mCall bInt (mCons (mOp dLt (mVar 5) (ret (.int 0))) mNil))) (mCons (mOp dLt (mOp dMul (mVar 5) (mVar 8)) (mOp dMul (mVar 7) (mVar 6))) mNil)) fun ds => lft (dLst ds)) mNil))) fun d => lft (dTr d)))
  (b_law_125 f__law_draws f__law_big f__law_two f__law_ratio f__law_same f_add f_sub f_mul f_minus f_div f_sign f_less f_floor f_ceiling f_rounded f_cut f__law_next f__law_less f_least f_greatest f__law_pick f_ratio f_is_number)
  mSkip)
def b_law_126 (f__law_draws : List D → Option (Rs D)) (f__law_big : List D → Option (Rs D)) (f__law_two : List D → Option (Rs D)) (f__law_ratio : List D → Option (Rs D)) (f__law_same : List D → Option (Rs D)) (f_add : List D → Option (Rs D)) (f_sub : List D → Option (Rs D)) (f_mul : List D → Option (Rs D)) (f_minus : List D → Option (Rs D)) (f_div : List D → Option (Rs D)) (f_sign : List D → Option (Rs D)) (f_less : List D → Option (Rs D)) (f_floor : List D → Option (Rs D)) (f_ceiling : List D → Option (Rs D)) (f_rounded : List D → Option (Rs D)) (f_cut : List D → Option (Rs D)) (f__law_next : List D → Option (Rs D)) (f__law_less : List D → Option (Rs D)) (f_least : List D → Option (Rs D)) (f_greatest : List D → Option (Rs D)) (f__law_pick : List D → Option (Rs D)) (f_ratio : List D → Option (Rs D)) (f_is_number : List D → Option (Rs D)) : Mr Fl :=
  (mAsg (mOp dFdiv (mVar 5) (mVar 6)) (gtName 10))
def b_law_127 (f__law_draws : List D → Option (Rs D)) (f__law_big : List D → Option (Rs D)) (f__law_two : List D → Option (Rs D)) (f__law_ratio : List D → Option (Rs D)) (f__law_same : List D → Option (Rs D)) (f_add : List D → Option (Rs D)) (f_sub : List D → Option (Rs D)) (f_mul : List D → Option (Rs D)) (f_minus : List D → Option (Rs D)) (f_div : List D → Option (Rs D)) (f_sign : List D → Option (Rs D)) (f_less : List D → Option (Rs D)) (f_floor : List D → Option (Rs D)) (f_ceiling : List D → Option (Rs D)) (f_rounded : List D → Option (Rs D)) (f_cut : List D → Option (Rs D)) (f__law_next : List D → Option (Rs D)) (f__law_less : List D → Option (Rs D)) (f_least : List D → Option (Rs D)) (f_greatest : List D → Option (Rs D)) (f__law_pick : List D → Option (Rs D)) (f_ratio : List D → Option (Rs D)) (f_is_number : List D → Option (Rs D)) : Mr Fl :=
  (mAsg (mOp dAdd (mVar 10) (mCall bInt (mCons (mOp dLt (mOp dMul (mVar 10) (mVar 6)) (mVar 5)) mNil))) (gtName 11))
def b_law_128 (f__law_draws : List D → Option (Rs D)) (f__law_big : List D → Option (Rs D)) (f__law_two : List D → Option (Rs D)) (f__law_ratio : List D → Option (Rs D)) (f__law_same : List D → Option (Rs D)) (f_add : List D → Option (Rs D)) (f_sub : List D → Option (Rs D)) (f_mul : List D → Option (Rs D)) (f_minus : List D → Option (Rs D)) (f_div : List D → Option (Rs D)) (f_sign : List D → Option (Rs D)) (f_less : List D → Option (Rs D)) (f_floor : List D → Option (Rs D)) (f_ceiling : List D → Option (Rs D)) (f_rounded : List D → Option (Rs D)) (f_cut : List D → Option (Rs D)) (f__law_next : List D → Option (Rs D)) (f__law_less : List D → Option (Rs D)) (f_least : List D → Option (Rs D)) (f_greatest : List D → Option (Rs D)) (f__law_pick : List D → Option (Rs D)) (f_ratio : List D → Option (Rs D)) (f_is_number : List D → Option (Rs D)) : Mr Fl :=
  (mAsg (mOp dFdiv (mOp dAdd (mOp dMul (ret (.int 2)) (mVar 5)) (mVar 6)) (mOp dMul (ret (.int 2)) (mVar 6))) (gtName 12))
def b_law_130 (f__law_draws : List D → Option (Rs D)) (f__law_big : List D → Option (Rs D)) (f__law_two : List D → Option (Rs D)) (f__law_ratio : List D → Option (Rs D)) (f__law_same : List D → Option (Rs D)) (f_add : List D → Option (Rs D)) (f_sub : List D → Option (Rs D)) (f_mul : List D → Option (Rs D)) (f_minus : List D → Option (Rs D)) (f_div : List D → Option (Rs D)) (f_sign : List D → Option (Rs D)) (f_less : List D → Option (Rs D)) (f_floor : List D → Option (Rs D)) (f_ceiling : List D → Option (Rs D)) (f_rounded : List D → Option (Rs D)) (f_cut : List D → Option (Rs D)) (f__law_next : List D → Option (Rs D)) (f__law_less : List D → Option (Rs D)) (f_least : List D → Option (Rs D)) (f_greatest : List D → Option (Rs D)) (f__law_pick : List D → Option (Rs D)) (f_ratio : List D → Option (Rs D)) (f_is_number : List D → Option (Rs D)) : Mr Fl :=
  (bnd (ret (.bl false)) fun d => ret (.rt d))
def b_law_129 (f__law_draws : List D → Option (Rs D)) (f__law_big : List D → Option (Rs D)) (f__law_two : List D → Option (Rs D)) (f__law_ratio : List D → Option (Rs D)) (f__law_same : List D → Option (Rs D)) (f_add : List D → Option (Rs D)) (f_sub : List D → Option (Rs D)) (f_mul : List D → Option (Rs D)) (f_minus : List D → Option (Rs D)) (f_div : List D → Option (Rs D)) (f_sign : List D → Option (Rs D)) (f_less : List D → Option (Rs D)) (f_floor : List D → Option (Rs D)) (f_ceiling : List D → Option (Rs D)) (f_rounded : List D → Option (Rs D)) (f_cut : List D → Option (Rs D)) (f__law_next : List D → Option (Rs D)) (f__law_less : List D → Option (Rs D)) (f_least : List D → Option (Rs D)) (f_greatest : List D → Option (Rs D)) (f__law_pick : List D → Option (Rs D)) (f_ratio : List D → Option (Rs D)) (f_is_number : List D → Option (Rs D)) : Mr Fl :=
  (mIf (mNot (bnd (mCl0 [.v .sh, .v .sh] f__law_same (mCons (bnd (mCons (mCl0 [.v .sh] f_floor (mCons (mVar 3) mNil)) (mCons (mCl0 [.v .sh] f_ceiling (mCons (mVar 3) mNil)) (mCons (mCl0 [.v .sh] f_rounded (mCons (mVar 3) mNil)) (mCons (mCl0 [.v .sh] f_cut (mCons (mVar 3) mNil)) mNil)))) fun ds => lft (dLst ds)) (mCons (bnd (mCons (mVar 10) (mCons (mVar 11) (mCons (mVar 12) (mCons (mIf (bnd (mOp dGe (mVar 5) (ret (.int 0))) fun d => lft (dBool d)) (mVar 10) (mVar 11)) mNil)))) fun ds => lft (dLst ds)) mNil))) fun d => lft (dTr d)))
  (b_law_130 f__law_draws f__law_big f__law_two f__law_ratio f__law_same f_add f_sub f_mul f_minus f_div f_sign f_less f_floor f_ceiling f_rounded f_cut f__law_next f__law_less f_least f_greatest f__law_pick f_ratio f_is_number)
  mSkip)
def b_law_131 (f__law_draws : List D → Option (Rs D)) (f__law_big : List D → Option (Rs D)) (f__law_two : List D → Option (Rs D)) (f__law_ratio : List D → Option (Rs D)) (f__law_same : List D → Option (Rs D)) (f_add : List D → Option (Rs D)) (f_sub : List D → Option (Rs D)) (f_mul : List D → Option (Rs D)) (f_minus : List D → Option (Rs D)) (f_div : List D → Option (Rs D)) (f_sign : List D → Option (Rs D)) (f_less : List D → Option (Rs D)) (f_floor : List D → Option (Rs D)) (f_ceiling : List D → Option (Rs D)) (f_rounded : List D → Option (Rs D)) (f_cut : List D → Option (Rs D)) (f__law_next : List D → Option (Rs D)) (f__law_less : List D → Option (Rs D)) (f_least : List D → Option (Rs D)) (f_greatest : List D → Option (Rs D)) (f__law_pick : List D → Option (Rs D)) (f_ratio : List D → Option (Rs D)) (f_is_number : List D → Option (Rs D)) : Mr Fl :=
  (mAsg (mLc (mRng (mCons (mOp dAdd (ret (.int 1)) (mCl0 [.io 1, .v .sh] f__law_next (mCons (mMov 1) (mCons (ret (.int 5)) mNil)))) mNil)) [14] (gtName 14) (ret true) (mCl0 [.io 1] f__law_big (mCons (mMov 1) mNil))) (gtName 13))
def b_law_132 (f__law_draws : List D → Option (Rs D)) (f__law_big : List D → Option (Rs D)) (f__law_two : List D → Option (Rs D)) (f__law_ratio : List D → Option (Rs D)) (f__law_same : List D → Option (Rs D)) (f_add : List D → Option (Rs D)) (f_sub : List D → Option (Rs D)) (f_mul : List D → Option (Rs D)) (f_minus : List D → Option (Rs D)) (f_div : List D → Option (Rs D)) (f_sign : List D → Option (Rs D)) (f_less : List D → Option (Rs D)) (f_floor : List D → Option (Rs D)) (f_ceiling : List D → Option (Rs D)) (f_rounded : List D → Option (Rs D)) (f_cut : List D → Option (Rs D)) (f__law_next : List D → Option (Rs D)) (f__law_less : List D → Option (Rs D)) (f_least : List D → Option (Rs D)) (f_greatest : List D → Option (Rs D)) (f__law_pick : List D → Option (Rs D)) (f_ratio : List D → Option (Rs D)) (f_is_number : List D → Option (Rs D)) : Mr Fl :=
  (mPar 15 16 (mCons (mOp dIx (mVar 13) (ret (.int 0))) (mCons (mOp dIx (mVar 13) (ret (.int 0))) mNil)))
def b_law_134 (f__law_draws : List D → Option (Rs D)) (f__law_big : List D → Option (Rs D)) (f__law_two : List D → Option (Rs D)) (f__law_ratio : List D → Option (Rs D)) (f__law_same : List D → Option (Rs D)) (f_add : List D → Option (Rs D)) (f_sub : List D → Option (Rs D)) (f_mul : List D → Option (Rs D)) (f_minus : List D → Option (Rs D)) (f_div : List D → Option (Rs D)) (f_sign : List D → Option (Rs D)) (f_less : List D → Option (Rs D)) (f_floor : List D → Option (Rs D)) (f_ceiling : List D → Option (Rs D)) (f_rounded : List D → Option (Rs D)) (f_cut : List D → Option (Rs D)) (f__law_next : List D → Option (Rs D)) (f__law_less : List D → Option (Rs D)) (f_least : List D → Option (Rs D)) (f_greatest : List D → Option (Rs D)) (f__law_pick : List D → Option (Rs D)) (f_ratio : List D → Option (Rs D)) (f_is_number : List D → Option (Rs D)) : Mr Fl :=
  (mAsg (mIf (bnd (mCl0 [.v .sh, .v .sh] f__law_less (mCons (mVar 17) (mCons (mVar 15) mNil))) fun d => lft (dTr d)) (mVar 17) (mVar 15)) (gtName 15))
def b_law_135 (f__law_draws : List D → Option (Rs D)) (f__law_big : List D → Option (Rs D)) (f__law_two : List D → Option (Rs D)) (f__law_ratio : List D → Option (Rs D)) (f__law_same : List D → Option (Rs D)) (f_add : List D → Option (Rs D)) (f_sub : List D → Option (Rs D)) (f_mul : List D → Option (Rs D)) (f_minus : List D → Option (Rs D)) (f_div : List D → Option (Rs D)) (f_sign : List D → Option (Rs D)) (f_less : List D → Option (Rs D)) (f_floor : List D → Option (Rs D)) (f_ceiling : List D → Option (Rs D)) (f_rounded : List D → Option (Rs D)) (f_cut : List D → Option (Rs D)) (f__law_next : List D → Option (Rs D)) (f__law_less : List D → Option (Rs D)) (f_least : List D → Option (Rs D)) (f_greatest : List D → Option (Rs D)) (f__law_pick : List D → Option (Rs D)) (f_ratio : List D → Option (Rs D)) (f_is_number : List D → Option (Rs D)) : Mr Fl :=
  (mAsg (mIf (bnd (mCl0 [.v .sh, .v .sh] f__law_less (mCons (mVar 16) (mCons (mVar 17) mNil))) fun d => lft (dTr d)) (mVar 17) (mVar 16)) (gtName 16))
def b_law_133 (f__law_draws : List D → Option (Rs D)) (f__law_big : List D → Option (Rs D)) (f__law_two : List D → Option (Rs D)) (f__law_ratio : List D → Option (Rs D)) (f__law_same : List D → Option (Rs D)) (f_add : List D → Option (Rs D)) (f_sub : List D → Option (Rs D)) (f_mul : List D → Option (Rs D)) (f_minus : List D → Option (Rs D)) (f_div : List D → Option (Rs D)) (f_sign : List D → Option (Rs D)) (f_less : List D → Option (Rs D)) (f_floor : List D → Option (Rs D)) (f_ceiling : List D → Option (Rs D)) (f_rounded : List D → Option (Rs D)) (f_cut : List D → Option (Rs D)) (f__law_next : List D → Option (Rs D)) (f__law_less : List D → Option (Rs D)) (f_least : List D → Option (Rs D)) (f_greatest : List D → Option (Rs D)) (f__law_pick : List D → Option (Rs D)) (f_ratio : List D → Option (Rs D)) (f_is_number : List D → Option (Rs D)) : Mr Fl :=
  (mFor (bnd (mVar 13) fun d => lft (dItems d)) (gtName 17)
  (mSeq (b_law_134 f__law_draws f__law_big f__law_two f__law_ratio f__law_same f_add f_sub f_mul f_minus f_div f_sign f_less f_floor f_ceiling f_rounded f_cut f__law_next f__law_less f_least f_greatest f__law_pick f_ratio f_is_number)
  (b_law_135 f__law_draws f__law_big f__law_two f__law_ratio f__law_same f_add f_sub f_mul f_minus f_div f_sign f_less f_floor f_ceiling f_rounded f_cut f__law_next f__law_less f_least f_greatest f__law_pick f_ratio f_is_number)))
def b_law_137 (f__law_draws : List D → Option (Rs D)) (f__law_big : List D → Option (Rs D)) (f__law_two : List D → Option (Rs D)) (f__law_ratio : List D → Option (Rs D)) (f__law_same : List D → Option (Rs D)) (f_add : List D → Option (Rs D)) (f_sub : List D → Option (Rs D)) (f_mul : List D → Option (Rs D)) (f_minus : List D → Option (Rs D)) (f_div : List D → Option (Rs D)) (f_sign : List D → Option (Rs D)) (f_less : List D → Option (Rs D)) (f_floor : List D → Option (Rs D)) (f_ceiling : List D → Option (Rs D)) (f_rounded : List D → Option (Rs D)) (f_cut : List D → Option (Rs D)) (f__law_next : List D → Option (Rs D)) (f__law_less : List D → Option (Rs D)) (f_least : List D → Option (Rs D)) (f_greatest : List D → Option (Rs D)) (f__law_pick : List D → Option (Rs D)) (f_ratio : List D → Option (Rs D)) (f_is_number : List D → Option (Rs D)) : Mr Fl :=
  (bnd (ret (.bl false)) fun d => ret (.rt d))
def b_law_136 (f__law_draws : List D → Option (Rs D)) (f__law_big : List D → Option (Rs D)) (f__law_two : List D → Option (Rs D)) (f__law_ratio : List D → Option (Rs D)) (f__law_same : List D → Option (Rs D)) (f_add : List D → Option (Rs D)) (f_sub : List D → Option (Rs D)) (f_mul : List D → Option (Rs D)) (f_minus : List D → Option (Rs D)) (f_div : List D → Option (Rs D)) (f_sign : List D → Option (Rs D)) (f_less : List D → Option (Rs D)) (f_floor : List D → Option (Rs D)) (f_ceiling : List D → Option (Rs D)) (f_rounded : List D → Option (Rs D)) (f_cut : List D → Option (Rs D)) (f__law_next : List D → Option (Rs D)) (f__law_less : List D → Option (Rs D)) (f_least : List D → Option (Rs D)) (f_greatest : List D → Option (Rs D)) (f__law_pick : List D → Option (Rs D)) (f_ratio : List D → Option (Rs D)) (f_is_number : List D → Option (Rs D)) : Mr Fl :=
  (mIf (mNot (bnd (mCl0 [.v .sh, .v .sh] f__law_same (mCons (bnd (mCons (mCl0 [.v .sh] f_least (mCons (mVar 13) mNil)) (mCons (mCl0 [.v .sh] f_greatest (mCons (mVar 13) mNil)) mNil)) fun ds => lft (dLst ds)) (mCons (bnd (mCons (mVar 15) (mCons (mVar 16) mNil)) fun ds => lft (dLst ds)) mNil))) fun d => lft (dTr d)))
  (b_law_137 f__law_draws f__law_big f__law_two f__law_ratio f__law_same f_add f_sub f_mul f_minus f_div f_sign f_less f_floor f_ceiling f_rounded f_cut f__law_next f__law_less f_least f_greatest f__law_pick f_ratio f_is_number)
  mSkip)
def b_law_138 (f__law_draws : List D → Option (Rs D)) (f__law_big : List D → Option (Rs D)) (f__law_two : List D → Option (Rs D)) (f__law_ratio : List D → Option (Rs D)) (f__law_same : List D → Option (Rs D)) (f_add : List D → Option (Rs D)) (f_sub : List D → Option (Rs D)) (f_mul : List D → Option (Rs D)) (f_minus : List D → Option (Rs D)) (f_div : List D → Option (Rs D)) (f_sign : List D → Option (Rs D)) (f_less : List D → Option (Rs D)) (f_floor : List D → Option (Rs D)) (f_ceiling : List D → Option (Rs D)) (f_rounded : List D → Option (Rs D)) (f_cut : List D → Option (Rs D)) (f__law_next : List D → Option (Rs D)) (f__law_less : List D → Option (Rs D)) (f_least : List D → Option (Rs D)) (f_greatest : List D → Option (Rs D)) (f__law_pick : List D → Option (Rs D)) (f_ratio : List D → Option (Rs D)) (f_is_number : List D → Option (Rs D)) : Mr Fl :=
  (mAsg (mCl0 [.io 1, .v .sh] f__law_pick (mCons (mMov 1) (mCons (bnd (mCons (mUn dNeg (ret (.int 6))) (mCons (mUn dNeg (ret (.int 1))) (mCons (ret (.int 1)) (mCons (ret (.int 4)) (mCons (ret (.int 9)) mNil))))) fun ds => lft (dLst ds)) mNil))) (gtName 18))
def b_law_140 (f__law_draws : List D → Option (Rs D)) (f__law_big : List D → Option (Rs D)) (f__law_two : List D → Option (Rs D)) (f__law_ratio : List D → Option (Rs D)) (f__law_same : List D → Option (Rs D)) (f_add : List D → Option (Rs D)) (f_sub : List D → Option (Rs D)) (f_mul : List D → Option (Rs D)) (f_minus : List D → Option (Rs D)) (f_div : List D → Option (Rs D)) (f_sign : List D → Option (Rs D)) (f_less : List D → Option (Rs D)) (f_floor : List D → Option (Rs D)) (f_ceiling : List D → Option (Rs D)) (f_rounded : List D → Option (Rs D)) (f_cut : List D → Option (Rs D)) (f__law_next : List D → Option (Rs D)) (f__law_less : List D → Option (Rs D)) (f_least : List D → Option (Rs D)) (f_greatest : List D → Option (Rs D)) (f__law_pick : List D → Option (Rs D)) (f_ratio : List D → Option (Rs D)) (f_is_number : List D → Option (Rs D)) : Mr Fl :=
  (bnd (ret (.bl false)) fun d => ret (.rt d))
def b_law_139 (f__law_draws : List D → Option (Rs D)) (f__law_big : List D → Option (Rs D)) (f__law_two : List D → Option (Rs D)) (f__law_ratio : List D → Option (Rs D)) (f__law_same : List D → Option (Rs D)) (f_add : List D → Option (Rs D)) (f_sub : List D → Option (Rs D)) (f_mul : List D → Option (Rs D)) (f_minus : List D → Option (Rs D)) (f_div : List D → Option (Rs D)) (f_sign : List D → Option (Rs D)) (f_less : List D → Option (Rs D)) (f_floor : List D → Option (Rs D)) (f_ceiling : List D → Option (Rs D)) (f_rounded : List D → Option (Rs D)) (f_cut : List D → Option (Rs D)) (f__law_next : List D → Option (Rs D)) (f__law_less : List D → Option (Rs D)) (f_least : List D → Option (Rs D)) (f_greatest : List D → Option (Rs D)) (f__law_pick : List D → Option (Rs D)) (f_ratio : List D → Option (Rs D)) (f_is_number : List D → Option (Rs D)) : Mr Fl :=
  (mIf (mOr (mNot (bnd (mCl0 [.v .sh, .v .sh] f__law_same (mCons (mCl0 [.v .sh, .v .sh] f_ratio (mCons (mVar 5) (mCons (mVar 18) mNil))) (mCons (mCl0 [.v .sh, .v .sh] f__law_ratio (mCons (mVar 5) (mCons (mVar 18) mNil))) mNil))) fun d => lft (dTr d))) (bnd (mOp dIsNot (mCl0 [.v .sh] f_is_number (mCons (mVar 3) mNil)) (ret (.bl true))) fun d => lft (dBool d)))
  (b_law_140 f__law_draws f__law_big f__law_two f__law_ratio f__law_same f_add f_sub f_mul f_minus f_div f_sign f_less f_floor f_ceiling f_rounded f_cut f__law_next f__law_less f_least f_greatest f__law_pick f_ratio f_is_number)
  mSkip)
def b_law_141 (f__law_draws : List D → Option (Rs D)) (f__law_big : List D → Option (Rs D)) (f__law_two : List D → Option (Rs D)) (f__law_ratio : List D → Option (Rs D)) (f__law_same : List D → Option (Rs D)) (f_add : List D → Option (Rs D)) (f_sub : List D → Option (Rs D)) (f_mul : List D → Option (Rs D)) (f_minus : List D → Option (Rs D)) (f_div : List D → Option (Rs D)) (f_sign : List D → Option (Rs D)) (f_less : List D → Option (Rs D)) (f_floor : List D → Option (Rs D)) (f_ceiling : List D → Option (Rs D)) (f_rounded : List D → Option (Rs D)) (f_cut : List D → Option (Rs D)) (f__law_next : List D → Option (Rs D)) (f__law_less : List D → Option (Rs D)) (f_least : List D → Option (Rs D)) (f_greatest : List D → Option (Rs D)) (f__law_pick : List D → Option (Rs D)) (f_ratio : List D → Option (Rs D)) (f_is_number : List D → Option (Rs D)) : Mr Fl :=
  (mPar 19 20 (mCons (mOp dSub (mCl0 [.io 1, .v .sh] f__law_next (mCons (mMov 1) (mCons (ret (.int 13)) mNil))) (ret (.int 6))) (mCons (mOp dSub (mCl0 [.io 1, .v .sh] f__law_next (mCons (mMov 1) (mCons (ret (.int 13)) mNil))) (ret (.int 6))) mNil)))
def b_law_142 (f__law_draws : List D → Option (Rs D)) (f__law_big : List D → Option (Rs D)) (f__law_two : List D → Option (Rs D)) (f__law_ratio : List D → Option (Rs D)) (f__law_same : List D → Option (Rs D)) (f_add : List D → Option (Rs D)) (f_sub : List D → Option (Rs D)) (f_mul : List D → Option (Rs D)) (f_minus : List D → Option (Rs D)) (f_div : List D → Option (Rs D)) (f_sign : List D → Option (Rs D)) (f_less : List D → Option (Rs D)) (f_floor : List D → Option (Rs D)) (f_ceiling : List D → Option (Rs D)) (f_rounded : List D → Option (Rs D)) (f_cut : List D → Option (Rs D)) (f__law_next : List D → Option (Rs D)) (f__law_less : List D → Option (Rs D)) (f_least : List D → Option (Rs D)) (f_greatest : List D → Option (Rs D)) (f__law_pick : List D → Option (Rs D)) (f_ratio : List D → Option (Rs D)) (f_is_number : List D → Option (Rs D)) : Mr Fl :=
  (mAsg (mCl0 [.io 1, .v .sh] f__law_pick (mCons (mMov 1) (mCons (bnd (mCons (bnd (mCons (mVar 19) (mCons (mVar 20) mNil)) fun ds => lft (dTup ds)) (mCons (bnd (mCons (mVar 19) (mCons (mVar 20) mNil)) fun ds => lft (dTup ds)) (mCons (ret (.bl true)) (mCons (ret .non) (mCons (ret (.str "1")) (mCons (bnd (mCons (ret (.int 1)) (mCons (ret (.int 2)) mNil)) fun ds => lft (dLst ds)) (mCons (bnd (mCons (ret (.int 1)) (mCons (ret (.int 2)) (mCons (ret (.int 3)) mNil))) fun ds => lft (dTup ds)) (mCons (bnd (mCons (ret (.int 1)) mNil) fun ds => lft (dTup ds)) (mCons (bnd (mCons (ret (.bl true)) (mCons (ret (.int 2)) mNil)) fun ds => lft (dTup ds)) (mCons (bnd (mCons (ret (.int 3)) (mCons (ret (.bl true)) mNil)) fun ds => lft (dTup ds)) (mCons (bnd (mCons (ret (.int 1)) (mCons (ret (.int 0)) mNil)) fun ds => lft (dTup ds)) (mCons (bnd (mCons (ret (.int 0)) (mCons (ret (.int 2)) mNil)) fun ds => lft (dTup ds)) (mCons (mVar 19) mNil))))))))))))) fun ds => lft (dLst ds)) mNil))) (gtName 21))
def b_law_143 (f__law_draws : List D → Option (Rs D)) (f__law_big : List D → Option (Rs D)) (f__law_two : List D → Option (Rs D)) (f__law_ratio : List D → Option (Rs D)) (f__law_same : List D → Option (Rs D)) (f_add : List D → Option (Rs D)) (f_sub : List D → Option (Rs D)) (f_mul : List D → Option (Rs D)) (f_minus : List D → Option (Rs D)) (f_div : List D → Option (Rs D)) (f_sign : List D → Option (Rs D)) (f_less : List D → Option (Rs D)) (f_floor : List D → Option (Rs D)) (f_ceiling : List D → Option (Rs D)) (f_rounded : List D → Option (Rs D)) (f_cut : List D → Option (Rs D)) (f__law_next : List D → Option (Rs D)) (f__law_less : List D → Option (Rs D)) (f_least : List D → Option (Rs D)) (f_greatest : List D → Option (Rs D)) (f__law_pick : List D → Option (Rs D)) (f_ratio : List D → Option (Rs D)) (f_is_number : List D → Option (Rs D)) : Mr Fl :=
  (mAsg (mAndV (mNotV (mCall (bIsi .bool) (mCons (mVar 21) (mCons (ret (.val (.ty "bool"))) mNil)))) (mCall (bIsi .int) (mCons (mVar 21) (mCons (ret (.val (.ty "int"))) mNil)))) (gtName 9))
def b_law_145 (f__law_draws : List D → Option (Rs D)) (f__law_big : List D → Option (Rs D)) (f__law_two : List D → Option (Rs D)) (f__law_ratio : List D → Option (Rs D)) (f__law_same : List D → Option (Rs D)) (f_add : List D → Option (Rs D)) (f_sub : List D → Option (Rs D)) (f_mul : List D → Option (Rs D)) (f_minus : List D → Option (Rs D)) (f_div : List D → Option (Rs D)) (f_sign : List D → Option (Rs D)) (f_less : List D → Option (Rs D)) (f_floor : List D → Option (Rs D)) (f_ceiling : List D → Option (Rs D)) (f_rounded : List D → Option (Rs D)) (f_cut : List D → Option (Rs D)) (f__law_next : List D → Option (Rs D)) (f__law_less : List D → Option (Rs D)) (f_least : List D → Option (Rs D)) (f_greatest : List D → Option (Rs D)) (f__law_pick : List D → Option (Rs D)) (f_ratio : List D → Option (Rs D)) (f_is_number : List D → Option (Rs D)) : Mr Fl :=
  (mAsg (mAndV (mOp dGt (mOp dIx (mVar 21) (ret (.int 1))) (ret (.int 1))) (mCl0 [.v .sh, .v .sh] f__law_same (mCons (mCl0 [.v .sh, .v .sh] f__law_ratio (mCons (mOp dIx (mVar 21) (ret (.int 0))) (mCons (mOp dIx (mVar 21) (ret (.int 1))) mNil))) (mCons (mVar 21) mNil)))) (gtName 9))
def b_law_144 (f__law_draws : List D → Option (Rs D)) (f__law_big : List D → Option (Rs D)) (f__law_two : List D → Option (Rs D)) (f__law_ratio : List D → Option (Rs D)) (f__law_same : List D → Option (Rs D)) (f_add : List D → Option (Rs D)) (f_sub : List D → Option (Rs D)) (f_mul : List D → Option (Rs D)) (f_minus : List D → Option (Rs D)) (f_div : List D → Option (Rs D)) (f_sign : List D → Option (Rs D)) (f_less : List D → Option (Rs D)) (f_floor : List D → Option (Rs D)) (f_ceiling : List D → Option (Rs D)) (f_rounded : List D → Option (Rs D)) (f_cut : List D → Option (Rs D)) (f__law_next : List D → Option (Rs D)) (f__law_less : List D → Option (Rs D)) (f_least : List D → Option (Rs D)) (f_greatest : List D → Option (Rs D)) (f__law_pick : List D → Option (Rs D)) (f_ratio : List D → Option (Rs D)) (f_is_number : List D → Option (Rs D)) : Mr Fl :=
  (mIf (mAnd (bnd (mCall (bIsi .tuple) (mCons (mVar 21) (mCons (ret (.val (.ty "tuple"))) mNil))) fun d => lft (dTr d)) (mAnd (bnd (mOp dEq (mCall bLen (mCons (mVar 21) mNil)) (ret (.int 2))) fun d => lft (dBool d)) (mNot (bnd (mCall bAny (mCons (mLc (bnd (mVar 21) fun d => lft (dItems d)) [22] (gtName 22) (ret true) (mCall (bIsi .bool) (mCons (mVar 22) (mCons (ret (.val (.ty "bool"))) mNil)))) mNil)) fun d => lft (dTr d)))))
  (b_law_145 f__law_draws f__law_big f__law_two f__law_ratio f__law_same f_add f_sub f_mul f_minus f_div f_sign f_less f_floor f_ceiling f_rounded f_cut f__law_next f__law_less f_least f_greatest f__law_pick f_ratio f_is_number)
  mSkip)
def b_law_147 (f__law_draws : List D → Option (Rs D)) (f__law_big : List D → Option (Rs D)) (f__law_two : List D → Option (Rs D)) (f__law_ratio : List D → Option (Rs D)) (f__law_same : List D → Option (Rs D)) (f_add : List D → Option (Rs D)) (f_sub : List D → Option (Rs D)) (f_mul : List D → Option (Rs D)) (f_minus : List D → Option (Rs D)) (f_div : List D → Option (Rs D)) (f_sign : List D → Option (Rs D)) (f_less : List D → Option (Rs D)) (f_floor : List D → Option (Rs D)) (f_ceiling : List D → Option (Rs D)) (f_rounded : List D → Option (Rs D)) (f_cut : List D → Option (Rs D)) (f__law_next : List D → Option (Rs D)) (f__law_less : List D → Option (Rs D)) (f_least : List D → Option (Rs D)) (f_greatest : List D → Option (Rs D)) (f__law_pick : List D → Option (Rs D)) (f_ratio : List D → Option (Rs D)) (f_is_number : List D → Option (Rs D)) : Mr Fl :=
  (bnd (ret (.bl false)) fun d => ret (.rt d))
def b_law_146 (f__law_draws : List D → Option (Rs D)) (f__law_big : List D → Option (Rs D)) (f__law_two : List D → Option (Rs D)) (f__law_ratio : List D → Option (Rs D)) (f__law_same : List D → Option (Rs D)) (f_add : List D → Option (Rs D)) (f_sub : List D → Option (Rs D)) (f_mul : List D → Option (Rs D)) (f_minus : List D → Option (Rs D)) (f_div : List D → Option (Rs D)) (f_sign : List D → Option (Rs D)) (f_less : List D → Option (Rs D)) (f_floor : List D → Option (Rs D)) (f_ceiling : List D → Option (Rs D)) (f_rounded : List D → Option (Rs D)) (f_cut : List D → Option (Rs D)) (f__law_next : List D → Option (Rs D)) (f__law_less : List D → Option (Rs D)) (f_least : List D → Option (Rs D)) (f_greatest : List D → Option (Rs D)) (f__law_pick : List D → Option (Rs D)) (f_ratio : List D → Option (Rs D)) (f_is_number : List D → Option (Rs D)) : Mr Fl :=
  (mIf (bnd (mOp dNe (mCl0 [.v .sh] f_is_number (mCons (mVar 21) mNil)) (mVar 9)) fun d => lft (dBool d))
  (b_law_147 f__law_draws f__law_big f__law_two f__law_ratio f__law_same f_add f_sub f_mul f_minus f_div f_sign f_less f_floor f_ceiling f_rounded f_cut f__law_next f__law_less f_least f_greatest f__law_pick f_ratio f_is_number)
  mSkip)
def b_law_115 (f__law_draws : List D → Option (Rs D)) (f__law_big : List D → Option (Rs D)) (f__law_two : List D → Option (Rs D)) (f__law_ratio : List D → Option (Rs D)) (f__law_same : List D → Option (Rs D)) (f_add : List D → Option (Rs D)) (f_sub : List D → Option (Rs D)) (f_mul : List D → Option (Rs D)) (f_minus : List D → Option (Rs D)) (f_div : List D → Option (Rs D)) (f_sign : List D → Option (Rs D)) (f_less : List D → Option (Rs D)) (f_floor : List D → Option (Rs D)) (f_ceiling : List D → Option (Rs D)) (f_rounded : List D → Option (Rs D)) (f_cut : List D → Option (Rs D)) (f__law_next : List D → Option (Rs D)) (f__law_less : List D → Option (Rs D)) (f_least : List D → Option (Rs D)) (f_greatest : List D → Option (Rs D)) (f__law_pick : List D → Option (Rs D)) (f_ratio : List D → Option (Rs D)) (f_is_number : List D → Option (Rs D)) : Mr Fl :=
  (mFor (mRng (mCons (ret (.int 12)) mNil)) (gtName 2)
  (mSeq (b_law_116 f__law_draws f__law_big f__law_two f__law_ratio f__law_same f_add f_sub f_mul f_minus f_div f_sign f_less f_floor f_ceiling f_rounded f_cut f__law_next f__law_less f_least f_greatest f__law_pick f_ratio f_is_number)
  (mSeq (b_law_117 f__law_draws f__law_big f__law_two f__law_ratio f__law_same f_add f_sub f_mul f_minus f_div f_sign f_less f_floor f_ceiling f_rounded f_cut f__law_next f__law_less f_least f_greatest f__law_pick f_ratio f_is_number)
  (mSeq (b_law_118 f__law_draws f__law_big f__law_two f__law_ratio f__law_same f_add f_sub f_mul f_minus f_div f_sign f_less f_floor f_ceiling f_rounded f_cut f__law_next f__law_less f_least f_greatest f__law_pick f_ratio f_is_number)
  (mSeq (b_law_119 f__law_draws f__law_big f__law_two f__law_ratio f__law_same f_add f_sub f_mul f_minus f_div f_sign f_less f_floor f_ceiling f_rounded f_cut f__law_next f__law_less f_least f_greatest f__law_pick f_ratio f_is_number)
  (mSeq (b_law_120 f__law_draws f__law_big f__law_two f__law_ratio f__law_same f_add f_sub f_mul f_minus f_div f_sign f_less f_floor f_ceiling f_rounded f_cut f__law_next f__law_less f_least f_greatest f__law_pick f_ratio f_is_number)
  (mSeq (b_law_122 f__law_draws f__law_big f__law_two f__law_ratio f__law_same f_add f_sub f_mul f_minus f_div f_sign f_less f_floor f_ceiling f_rounded f_cut f__law_next f__law_less f_least f_greatest f__law_pick f_ratio f_is_number)
  (mSeq (b_law_124 f__law_draws f__law_big f__law_two f__law_ratio f__law_same f_add f_sub f_mul f_minus f_div f_sign f_less f_floor f_ceiling f_rounded f_cut f__law_next f__law_less f_least f_greatest f__law_pick f_ratio f_is_number)
  (mSeq (b_law_126 f__law_draws f__law_big f__law_two f__law_ratio f__law_same f_add f_sub f_mul f_minus f_div f_sign f_less f_floor f_ceiling f_rounded f_cut f__law_next f__law_less f_least f_greatest f__law_pick f_ratio f_is_number)
  (mSeq (b_law_127 f__law_draws f__law_big f__law_two f__law_ratio f__law_same f_add f_sub f_mul f_minus f_div f_sign f_less f_floor f_ceiling f_rounded f_cut f__law_next f__law_less f_least f_greatest f__law_pick f_ratio f_is_number)
  (mSeq (b_law_128 f__law_draws f__law_big f__law_two f__law_ratio f__law_same f_add f_sub f_mul f_minus f_div f_sign f_less f_floor f_ceiling f_rounded f_cut f__law_next f__law_less f_least f_greatest f__law_pick f_ratio f_is_number)
  (mSeq (b_law_129 f__law_draws f__law_big f__law_two f__law_ratio f__law_same f_add f_sub f_mul f_minus f_div f_sign f_less f_floor f_ceiling f_rounded f_cut f__law_next f__law_less f_least f_greatest f__law_pick f_ratio f_is_number)
  (mSeq (b_law_131 f__law_draws f__law_big f__law_two f__law_ratio f__law_same f_add f_sub f_mul f_minus f_div f_sign f_less f_floor f_ceiling f_rounded f_cut f__law_next f__law_less f_least f_greatest f__law_pick f_ratio f_is_number)
  (mSeq (b_law_132 f__law_draws f__law_big f__law_two f__law_ratio f__law_same f_add f_sub f_mul f_minus f_div f_sign f_less f_floor f_ceiling f_rounded f_cut f__law_next f__law_less f_least f_greatest f__law_pick f_ratio f_is_number)
  (mSeq (b_law_133 f__law_draws f__law_big f__law_two f__law_ratio f__law_same f_add f_sub f_mul f_minus f_div f_sign f_less f_floor f_ceiling f_rounded f_cut f__law_next f__law_less f_least f_greatest f__law_pick f_ratio f_is_number)
  (mSeq (b_law_136 f__law_draws f__law_big f__law_two f__law_ratio f__law_same f_add f_sub f_mul f_minus f_div f_sign f_less f_floor f_ceiling f_rounded f_cut f__law_next f__law_less f_least f_greatest f__law_pick f_ratio f_is_number)
  (mSeq (b_law_138 f__law_draws f__law_big f__law_two f__law_ratio f__law_same f_add f_sub f_mul f_minus f_div f_sign f_less f_floor f_ceiling f_rounded f_cut f__law_next f__law_less f_least f_greatest f__law_pick f_ratio f_is_number)
  (mSeq (b_law_139 f__law_draws f__law_big f__law_two f__law_ratio f__law_same f_add f_sub f_mul f_minus f_div f_sign f_less f_floor f_ceiling f_rounded f_cut f__law_next f__law_less f_least f_greatest f__law_pick f_ratio f_is_number)
  (mSeq (b_law_141 f__law_draws f__law_big f__law_two f__law_ratio f__law_same f_add f_sub f_mul f_minus f_div f_sign f_less f_floor f_ceiling f_rounded f_cut f__law_next f__law_less f_least f_greatest f__law_pick f_ratio f_is_number)
  (mSeq (b_law_142 f__law_draws f__law_big f__law_two f__law_ratio f__law_same f_add f_sub f_mul f_minus f_div f_sign f_less f_floor f_ceiling f_rounded f_cut f__law_next f__law_less f_least f_greatest f__law_pick f_ratio f_is_number)
  (mSeq (b_law_143 f__law_draws f__law_big f__law_two f__law_ratio f__law_same f_add f_sub f_mul f_minus f_div f_sign f_less f_floor f_ceiling f_rounded f_cut f__law_next f__law_less f_least f_greatest f__law_pick f_ratio f_is_number)
  (mSeq (b_law_144 f__law_draws f__law_big f__law_two f__law_ratio f__law_same f_add f_sub f_mul f_minus f_div f_sign f_less f_floor f_ceiling f_rounded f_cut f__law_next f__law_less f_least f_greatest f__law_pick f_ratio f_is_number)
  (b_law_146 f__law_draws f__law_big f__law_two f__law_ratio f__law_same f_add f_sub f_mul f_minus f_div f_sign f_less f_floor f_ceiling f_rounded f_cut f__law_next f__law_less f_least f_greatest f__law_pick f_ratio f_is_number)))))))))))))))))))))))
def b_law_148 (f__law_draws : List D → Option (Rs D)) (f__law_big : List D → Option (Rs D)) (f__law_two : List D → Option (Rs D)) (f__law_ratio : List D → Option (Rs D)) (f__law_same : List D → Option (Rs D)) (f_add : List D → Option (Rs D)) (f_sub : List D → Option (Rs D)) (f_mul : List D → Option (Rs D)) (f_minus : List D → Option (Rs D)) (f_div : List D → Option (Rs D)) (f_sign : List D → Option (Rs D)) (f_less : List D → Option (Rs D)) (f_floor : List D → Option (Rs D)) (f_ceiling : List D → Option (Rs D)) (f_rounded : List D → Option (Rs D)) (f_cut : List D → Option (Rs D)) (f__law_next : List D → Option (Rs D)) (f__law_less : List D → Option (Rs D)) (f_least : List D → Option (Rs D)) (f_greatest : List D → Option (Rs D)) (f__law_pick : List D → Option (Rs D)) (f_ratio : List D → Option (Rs D)) (f_is_number : List D → Option (Rs D)) : Mr Fl :=
  (bnd (ret (.bl true)) fun d => ret (.rt d))
def b_law (f__law_draws : List D → Option (Rs D)) (f__law_big : List D → Option (Rs D)) (f__law_two : List D → Option (Rs D)) (f__law_ratio : List D → Option (Rs D)) (f__law_same : List D → Option (Rs D)) (f_add : List D → Option (Rs D)) (f_sub : List D → Option (Rs D)) (f_mul : List D → Option (Rs D)) (f_minus : List D → Option (Rs D)) (f_div : List D → Option (Rs D)) (f_sign : List D → Option (Rs D)) (f_less : List D → Option (Rs D)) (f_floor : List D → Option (Rs D)) (f_ceiling : List D → Option (Rs D)) (f_rounded : List D → Option (Rs D)) (f_cut : List D → Option (Rs D)) (f__law_next : List D → Option (Rs D)) (f__law_less : List D → Option (Rs D)) (f_least : List D → Option (Rs D)) (f_greatest : List D → Option (Rs D)) (f__law_pick : List D → Option (Rs D)) (f_ratio : List D → Option (Rs D)) (f_is_number : List D → Option (Rs D)) : Mr Fl :=
  (mSeq (b_law_114 f__law_draws f__law_big f__law_two f__law_ratio f__law_same f_add f_sub f_mul f_minus f_div f_sign f_less f_floor f_ceiling f_rounded f_cut f__law_next f__law_less f_least f_greatest f__law_pick f_ratio f_is_number)
  (mSeq (b_law_115 f__law_draws f__law_big f__law_two f__law_ratio f__law_same f_add f_sub f_mul f_minus f_div f_sign f_less f_floor f_ceiling f_rounded f_cut f__law_next f__law_less f_least f_greatest f__law_pick f_ratio f_is_number)
  (b_law_148 f__law_draws f__law_big f__law_two f__law_ratio f__law_same f_add f_sub f_mul f_minus f_div f_sign f_less f_floor f_ceiling f_rounded f_cut f__law_next f__law_less f_least f_greatest f__law_pick f_ratio f_is_number)))
theorem ok_law {P : Program} {w : World} {K : PySem.W.Frag} {mg : Str → Option Value} {base : Heap} {f : Addr} {fd : FuncData} {k : Nat} (F : Fun K "law" "law" s_law f fd) {f__law_draws : List D → Option (Rs D)} (c__law_draws : Cl P w K mg base CX0 k "_law_draws" [.sh] (.own .sh) f__law_draws) {f__law_big : List D → Option (Rs D)} (c__law_big : Cl P w K mg base CX0 k "_law_big" [(.own .sh)] .sh f__law_big) {f__law_two : List D → Option (Rs D)} (c__law_two : Cl P w K mg base CX0 k "_law_two" [.sh] .sh f__law_two) {f__law_ratio : List D → Option (Rs D)} (c__law_ratio : Cl P w K mg base CX0 k "_law_ratio" [.sh, .sh] .sh f__law_ratio) {f__law_same : List D → Option (Rs D)} (c__law_same : Cl P w K mg base CX0 k "_law_same" [.sh, .sh] .sh f__law_same) {f_add : List D → Option (Rs D)} (c_add : Cl P w K mg base CX0 k "add" [.sh, .sh] .sh f_add) {f_sub : List D → Option (Rs D)} (c_sub : Cl P w K mg base CX0 k "sub" [.sh, .sh] .sh f_sub) {f_mul : List D → Option (Rs D)} (c_mul : Cl P w K mg base CX0 k "mul" [.sh, .sh] .sh f_mul) {f_minus : List D → Option (Rs D)} (c_minus : Cl P w K mg base CX0 k "minus" [.sh] .sh f_minus) {f_div : List D → Option (Rs D)} (c_div : Cl P w K mg base CX0 k "div" [.sh, .sh] .sh f_div) {f_sign : List D → Option (Rs D)} (c_sign : Cl P w K mg base CX0 k "sign" [.sh] .sh f_sign) {f_less : List D → Option (Rs D)} (c_less : Cl P w K mg base CX0 k "less" [.sh, .sh] .sh f_less) {f_floor : List D → Option (Rs D)} (c_floor : Cl P w K mg base CX0 k "floor" [.sh] .sh f_floor) {f_ceiling : List D → Option (Rs D)} (c_ceiling : Cl P w K mg base CX0 k "ceiling" [.sh] .sh f_ceiling) {f_rounded : List D → Option (Rs D)} (c_rounded : Cl P w K mg base CX0 k "rounded" [.sh] .sh f_rounded) {f_cut : List D → Option (Rs D)} (c_cut : Cl P w K mg base CX0 k "cut" [.sh] .sh f_cut) {f__law_next : List D → Option (Rs D)} (c__law_next : Cl P w K mg base CX0 k "_law_next" [(.own .sh), .sh] .sh f__law_next) {f__law_less : List D → Option (Rs D)} (c__law_less : Cl P w K mg base CX0 k "_law_less" [.sh, .sh] .sh f__law_less) {f_least : List D → Option (Rs D)} (c_least : Cl P w K mg base CX0 k "least" [.sh] .sh f_least) {f_greatest : List D → Option (Rs D)} (c_greatest : Cl P w K mg base CX0 k "greatest" [.sh] .sh f_greatest) {f__law_pick : List D → Option (Rs D)} (c__law_pick : Cl P w K mg base CX0 k "_law_pick" [(.own .sh), .sh] .sh f__law_pick) {f_ratio : List D → Option (Rs D)} (c_ratio : Cl P w K mg base CX0 k "ratio" [.sh, .sh] .sh f_ratio) {f_is_number : List D → Option (Rs D)} (c_is_number : Cl P w K mg base CX0 k "is_number" [.sh] .sh f_is_number) (m_range : mg "range" = none) (m_int : mg "int" = none) (m_isinstance : mg "isinstance" = none) (m_bool : mg "bool" = none) (m_tuple : mg "tuple" = none) (m_len : mg "len" = none) (m_any : mg "any" = none) :
    FnOk P w K mg base CX0 (k + 1) f fd ["script"] (spD K [.sh] .sh (bodyF0 23 [] (b_law f__law_draws f__law_big f__law_two f__law_ratio f__law_same f_add f_sub f_mul f_minus f_div f_sign f_less f_floor f_ceiling f_rounded f_cut f__law_next f__law_less f_least f_greatest f__law_pick f_ratio f_is_number))) :=
  fn_ok (N := N_law) (Γ := [.sh, (.own .sh), .sh, .sh, .sh, .sh, .sh, .sh, .sh, .sh, .sh, .sh, .sh, .sh, .sh, .sh, .sh, .sh, .sh, .sh, .sh, .sh, .sh]) F sc_law rfl rfl rfl fun cdv A outer s H E hr => ⟨_, (dss_cons (ds_asg (de_call c__law_draws hr (da_cons (dv 0) da_nil)) (dg_name 1 sc_law.nd))
  (dss_cons (ds_for PassesOwn.never rfl (di_range1 m_range (da_cons (de_int (m := .sh)) da_nil)) (dg_name 2 sc_law.nd)
  (dss_cons (ds_par (i := 3) (j := 4) rfl sc_law.nd (da_cons (de_call c__law_big hr (da_io 1 da_nil)) (da_cons (de_call c__law_big hr (da_io 1 da_nil)) da_nil)) rfl)
  (dss_cons (ds_asg (de_call c__law_two hr (da_cons (dv 3) da_nil)) (dg_tupS rfl (dgs_cons (dg_name 5 sc_law.nd) (dgs_cons (dg_name 6 sc_law.nd) dgs_nil))))
  (dss_cons (ds_asg (de_call c__law_two hr (da_cons (dv 4) da_nil)) (dg_tupS rfl (dgs_cons (dg_name 7 sc_law.nd) (dgs_cons (dg_name 8 sc_law.nd) dgs_nil))))
  (dss_cons (ds_asg (DE.fz (de_lst (m := .sh) (da_cons (de_call c__law_ratio hr (da_cons (DE.fz (de_op (m := (.own .sh)) o_add (DE.fz (de_op (m := (.own .sh)) o_mul (dv 5) (dv 8))) (DE.fz (de_op (m := (.own .sh)) o_mul (dv 7) (dv 6))))) (da_cons (DE.fz (de_op (m := (.own .sh)) o_mul (dv 6) (dv 8))) da_nil))) (da_cons (de_call c__law_ratio hr (da_cons (de_op (m := .sh) o_sub (DE.fz (de_op (m := (.own .sh)) o_mul (dv 5) (dv 8))) (DE.fz (de_op (m := (.own .sh)) o_mul (dv 7) (dv 6)))) (da_cons (DE.fz (de_op (m := (.own .sh)) o_mul (dv 6) (dv 8))) da_nil))) (da_cons (de_call c__law_ratio hr (da_cons (DE.fz (de_op (m := (.own .sh)) o_mul (dv 5) (dv 7))) (da_cons (DE.fz (de_op (m := (.own .sh)) o_mul (dv 6) (dv 8))) da_nil))) (da_cons (de_call c__law_ratio hr (da_cons (de_op (m := .sh) o_sub (de_int (m := .sh)) (dv 5)) (da_cons (dv 6) da_nil))) da_nil)))))) (dg_name 9 sc_law.nd))
  (dss_cons (ds_if (dt_not (dt_tr (de_call c__law_same hr (da_cons (DE.fz (de_lst (m := .sh) (da_cons (de_call c_add hr (da_cons (dv 3) (da_cons (dv 4) da_nil))) (da_cons (de_call c_sub hr (da_cons (dv 3) (da_cons (dv 4) da_nil))) (da_cons (de_call c_mul hr (da_cons (dv 3) (da_cons (dv 4) da_nil))) (da_cons (de_call c_minus hr (da_cons (dv 3) da_nil)) da_nil)))))) (da_cons (dv 9) da_nil)))))
  (dss_one (ds_ret (de_bl (m := .sh))))
  dss_nil)
  (dss_cons (ds_if (DW.dt (dw_and (dt_cmp (o_ne hr) (dv 7) (de_int (m := .sh)) (nomark _)) (dw_and1 (dt_not (dt_tr (de_call c__law_same hr (da_cons (de_call c_div hr (da_cons (dv 3) (da_cons (dv 4) da_nil))) (da_cons (de_call c__law_ratio hr (da_cons (DE.fz (de_op (m := (.own .sh)) o_mul (dv 5) (dv 8))) (da_cons (DE.fz (de_op (m := (.own .sh)) o_mul (dv 6) (dv 7))) da_nil))) da_nil))))))))
  (dss_one (ds_ret (de_bl (m := .sh))))
  dss_nil)
  (dss_cons (ds_if (dt_not (dt_tr (de_call c__law_same hr (da_cons (DE.fz (de_lst (m := .sh) (da_cons (de_call c_sign hr (da_cons (dv 3) da_nil)) (da_cons (de_call c_less hr (da_cons (dv 3) (da_cons (dv 4) da_nil))) da_nil)))) (da_cons (DE.fz (de_lst (m := .sh) (da_cons (de_op (m := .sh) o_sub (de_ct (m := .sh) b_int m_int (da_cons (de_cmp (m := .sh) o_gt (dv 5) (de_int (m := .sh)) (nomark _)) da_nil)) (de_ct (m := .sh) b_int m_int (da_cons (de_cmp (m := .sh) o_lt (dv 5) (de_int (m := .sh)) (nomark _)) da_nil))) (da_cons (de_cmp (m := .sh) o_lt (DE.fz (de_op (m := (.own .sh)) o_mul (dv 5) (dv 8))) (DE.fz (de_op (m := (.own .sh)) o_mul (dv 7) (dv 6))) (nomark _)) da_nil)))) da_nil)))))
  (dss_one (ds_ret (de_bl (m := .sh))))
  dss_nil)
  (dss_cons (ds_asg (de_op (m := .sh) o_fdiv (dv 5) (dv 6)) (dg_name 10 sc_law.nd))
  (dss_cons (ds_asg (DE.fz (de_op (m := (.own .sh)) o_add (dv 10) (de_ct (m := .sh) b_int m_int (da_cons (de_cmp (m := .sh) o_lt (DE.fz (de_op (m := (.own .sh)) o_mul (dv 10) (dv 6))) (dv 5) (nomark _)) da_nil)))) (dg_name 11 sc_law.nd))
  (dss_cons (ds_asg (de_op (m := .sh) o_fdiv (DE.fz (de_op (m := (.own .sh)) o_add (DE.fz (de_op (m := (.own .sh)) o_mul (de_int (m := .sh)) (dv 5))) (dv 6))) (DE.fz (de_op (m := (.own .sh)) o_mul (de_int (m := .sh)) (dv 6)))) (dg_name 12 sc_law.nd))
  (dss_cons (ds_if (dt_not (dt_tr (de_call c__law_same hr (da_cons (DE.fz (de_lst (m := .sh) (da_cons (de_call c_floor hr (da_cons (dv 3) da_nil)) (da_cons (de_call c_ceiling hr (da_cons (dv 3) da_nil)) (da_cons (de_call c_rounded hr (da_cons (dv 3) da_nil)) (da_cons (de_call c_cut hr (da_cons (dv 3) da_nil)) da_nil)))))) (da_cons (DE.fz (de_lst (m := .sh) (da_cons (dv 10) (da_cons (dv 11) (da_cons (dv 12) (da_cons (de_if (dt_cmp o_ge (dv 5) (de_int (m := .sh)) (nomark _)) (dv 10) (dv 11)) da_nil)))))) da_nil)))))
  (dss_one (ds_ret (de_bl (m := .sh))))
  dss_nil)
  (dss_cons (ds_setLcS 13 (io' := [0, 1, 2, 3, 4, 5, 6, 7, 8, 9, 10, 11, 12, 13, 15, 16, 17, 18, 19, 20, 21, 22]) [("k", 14)] rfl sc_law.nd (di_range1 m_range (da_cons (DE.fz (de_op (m := (.own .sh)) o_add (de_int (m := .sh)) (de_call c__law_next hr (da_io 1 (da_cons (de_int (m := .sh)) da_nil))))) da_nil)) (blkOk_by (N := N_law) (sc := defScope s_law) (by decide +kernel)) (fun _ _ _ _ _ => (dg_name 14 sc_law.nd)) (fun _ _ _ _ _ => dts_nil) (fun _ _ _ _ _ => (de_call c__law_big hr (da_io 1 da_nil))) (sw_true rfl rfl rfl (by decide +kernel)))
  (dss_cons (ds_par (i := 15) (j := 16) rfl sc_law.nd (da_cons (de_ix (dv 13) (de_int (m := .sh))) (da_cons (de_ix (dv 13) (de_int (m := .sh))) da_nil)) rfl)
  (dss_cons (ds_for PassesOwn.never rfl (di_seq (dv 13)) (dg_name 17 sc_law.nd)
  (dss_cons (ds_asg (de_if (dt_tr (de_call c__law_less hr (da_cons (dv 17) (da_cons (dv 15) da_nil)))) (dv 17) (dv 15)) (dg_name 15 sc_law.nd))
  (dss_one (ds_asg (de_if (dt_tr (de_call c__law_less hr (da_cons (dv 16) (da_cons (dv 17) da_nil)))) (dv 17) (dv 16)) (dg_name 16 sc_law.nd)))))
  (dss_cons (ds_if (dt_not (dt_tr (de_call c__law_same hr (da_cons (DE.fz (de_lst (m := .sh) (da_cons (de_call c_least hr (da_cons (dv 13) da_nil)) (da_cons (de_call c_greatest hr (da_cons (dv 13) da_nil)) da_nil)))) (da_cons (DE.fz (de_lst (m := .sh) (da_cons (dv 15) (da_cons (dv 16) da_nil)))) da_nil)))))
  (dss_one (ds_ret (de_bl (m := .sh))))
  dss_nil)
  (dss_cons (ds_asg (de_call c__law_pick hr (da_io 1 (da_cons (DE.fz (de_lst (m := .sh) (da_cons (de_neg (m := .sh) (de_int (m := .sh))) (da_cons (de_neg (m := .sh) (de_int (m := .sh))) (da_cons (de_int (m := .sh)) (da_cons (de_int (m := .sh)) (da_cons (de_int (m := .sh)) da_nil))))))) da_nil))) (dg_name 18 sc_law.nd))
  (dss_cons (ds_if (DW.dt (dw_or (dt_not (dt_tr (de_call c__law_same hr (da_cons (de_call c_ratio hr (da_cons (dv 5) (da_cons (dv 18) da_nil))) (da_cons (de_call c__law_ratio hr (da_cons (dv 5) (da_cons (dv 18) da_nil))) da_nil))))) (dw_or1 (dt_cmp o_isnot (de_call c_is_number hr (da_cons (dv 3) da_nil)) (de_bl (m := .sh)) (nomark _)))))
  (dss_one (ds_ret (de_bl (m := .sh))))
  dss_nil)
  (dss_cons (ds_par (i := 19) (j := 20) rfl sc_law.nd (da_cons (de_op (m := .sh) o_sub (de_call c__law_next hr (da_io 1 (da_cons (de_int (m := .sh)) da_nil))) (de_int (m := .sh))) (da_cons (de_op (m := .sh) o_sub (de_call c__law_next hr (da_io 1 (da_cons (de_int (m := .sh)) da_nil))) (de_int (m := .sh))) da_nil)) rfl)
  (dss_cons (ds_asg (de_call c__law_pick hr (da_io 1 (da_cons (DE.fz (de_lst (m := .sh) (da_cons (DE.fz (de_tup (m := .sh) (da_cons (dv 19) (da_cons (dv 20) da_nil)))) (da_cons (DE.fz (de_tup (m := .sh) (da_cons (dv 19) (da_cons (dv 20) da_nil)))) (da_cons (de_bl (m := .sh)) (da_cons (de_non (m := .sh)) (da_cons (de_str (m := .sh)) (da_cons (DE.fz (de_lst (m := .sh) (da_cons (de_int (m := .sh)) (da_cons (de_int (m := .sh)) da_nil)))) (da_cons (DE.fz (de_tup (m := .sh) (da_cons (de_int (m := .sh)) (da_cons (de_int (m := .sh)) (da_cons (de_int (m := .sh)) da_nil))))) (da_cons (DE.fz (de_tup (m := .sh) (da_cons (de_int (m := .sh)) da_nil))) (da_cons (DE.fz (de_tup (m := .sh) (da_cons (de_bl (m := .sh)) (da_cons (de_int (m := .sh)) da_nil)))) (da_cons (DE.fz (de_tup (m := .sh) (da_cons (de_int (m := .sh)) (da_cons (de_bl (m := .sh)) da_nil)))) (da_cons (DE.fz (de_tup (m := .sh) (da_cons (de_int (m := .sh)) (da_cons (de_int (m := .sh)) da_nil)))) (da_cons (DE.fz (de_tup (m := .sh) (da_cons (de_int (m := .sh)) (da_cons (de_int (m := .sh)) da_nil)))) (da_cons (dv 19) da_nil))))))))))))))) da_nil))) (dg_name 21 sc_law.nd))
  (dss_cons (ds_asg (de_and (de_not (m := .sh) (de_cb (m := .sh) (b_isi .bool) m_isinstance (da_cons (dv 21) (da_cons (de_ty (m := .sh) m_bool) da_nil)))) (de_one (de_cb (m := .sh) (b_isi .int) m_isinstance (da_cons (dv 21) (da_cons (de_ty (m := .sh) m_int) da_nil))))) (dg_name 9 sc_law.nd))
  (dss_cons (ds_if (DW.dt (dw_and (dt_tr (de_cb (m := .sh) (b_isi .tuple) m_isinstance (da_cons (dv 21) (da_cons (de_ty (m := .sh) m_tuple) da_nil)))) (dw_and (dt_cmp (o_eq hr) (de_cb (m := .sh) b_len m_len (da_cons (dv 21) da_nil)) (de_int (m := .sh)) (nomark _)) (dw_and1 (dt_not (dt_tr (de_cb (m := .sh) (b_any rfl) m_any (da_cons (DE.fz (de_lc (io' := [0, 1, 2, 3, 4, 5, 6, 7, 8, 9, 10, 11, 12, 13, 14, 15, 16, 17, 18, 19, 20, 21]) [("z", 22)] rfl sc_law.nd (di_seq (dv 21)) (blkOk_by (N := N_law) (sc := defScope s_law) (by decide +kernel)) (fun _ _ _ _ _ => (dg_name 22 sc_law.nd)) (fun _ _ _ _ _ => dts_nil) (fun _ _ _ _ _ => (de_cb (m := .sh) (b_isi .bool) m_isinstance (da_cons (dv 22) (da_cons (de_ty (m := .sh) m_bool) da_nil)))))) da_nil))))))))
  (dss_one (ds_asg (de_and (de_cmp (m := .sh) o_gt (de_ix (dv 21) (de_int (m := .sh))) (de_int (m := .sh)) (nomark _)) (de_one (de_call c__law_same hr (da_cons (de_call c__law_ratio hr (da_cons (de_ix (dv 21) (de_int (m := .sh))) (da_cons (de_ix (dv 21) (de_int (m := .sh))) da_nil))) (da_cons (dv 21) da_nil))))) (dg_name 9 sc_law.nd)))
  dss_nil)
  (dss_one (ds_if (dt_cmp (o_ne hr) (de_call c_is_number hr (da_cons (dv 21) da_nil)) (dv 9) (nomark _))
  (dss_one (ds_ret (de_bl (m := .sh))))
  dss_nil))))))))))))))))))))))))
  (dss_one (ds_ret (de_bl (m := .sh))))))⟩
end Wk
namespace P00
open PySem L2 Dl Wk
local macro_rules | `(tactic| walk_at "ev") => `(tactic| simp (disch := omega) only [mSeq_ap, mVar_ap, mMov_ap, mTk_ap, mFz_ap, mRead_ap, mReadU_ap, mScal_ap, mOp_ap, mUn_ap, mPair_ap, bnd_ap, lft_ap, ret_ap, mCons_ap, mNil_ap, mCall_ap, mCl0_ap, backIo, mIf_ap, mAnd_ap, mOr_ap, mNot_ap, mAndV_ap, mOrV_ap, mNotV_ap, mChain_ap, mAsg_ap, gtName, gtScal, gtAny, gtSub, gtTup, gtCons, gtNil, mSkip_ap, mApp_ap, mPop_ap, popIx, mLen_ap, ixP, anyItems, shItems, getP, setP, mDisp_ap, mPopV_ap, mScl1_ap, scal1, bAbs, kid, putKid, shOf, unsh_non, unsh_bl, unsh_int, unsh_str, unsh_lst, unsh_tup, unsh_frl, unsh_shd, ite_lim, isShd_non, isShd_bl, isShd_int, isShd_str, isShd_lst, isShd_tup, isShd_frl, isShd_shd, dLst_nil, dTup_nil, toNat_lit, dTup_1, dTup_2, dTup_3, dTup_4, dTup_5, dLst_1, dLst_2, dLst_3, dLst_4, dLst_5, Dl.scal, dTr, dBool, dIs, dIsNot, Dl.isNon, dItems, dPart, dSl, bLen, bInt, bList, bTuple, dMul_i, dMul_b, dFdiv_i, dMod_i, dAdd_i, dSub_i, dLt_i, dLe_i, dGt_i, dGe_i, dEq_i, dNe_i, dEq_bl, dTup_c, dLst_c, mRng_ap, dRng_n, dRng1, rgC_map, Int.toNat_natCast, maskIo_nil, bIsi_bool, bIsi_int, bIsi_str, bIsi_dict, bIsi_list, bIsi_tuple, isiD, wipeD, dAdd_l, dAdd_t, dIx_l, dIx_t, ixN_nat, ixN_of, nat_cast_div, nat_cast_mod, nat_cast_mul, nat_cast_add, nat_add_lit, lit_add_nat, nat_mul_lit, lit_mul_nat, nat_div_lit, nat_mod_lit, nat_sub_lit, nat_lt, nat_le, nat_eq, nat_lt_lit, lit_lt_nat, nat_le_lit, lit_le_nat, dRng_two, nat_cast_sub, dRng3, bMin_n, List.length_map, List.length_set, lim,
  Option.bind_some, Option.map_some, List.getElem?_cons_zero, List.getElem?_cons_succ, List.set_cons_zero, List.set_cons_succ, List.length_cons, List.length_nil, reduceIte, Bool.false_eq_true, decide_eq_true_eq, Nat.reduceAdd, List.map_cons, List.map_nil, List.cons_append, List.nil_append, Nat.reduceSub, Nat.reduceLeDiff, List.replicate_succ, List.replicate_zero, Nat.zero_add, Bool.not_true, Bool.not_false, Bool.or_false, Bool.false_or, Bool.or_true, Bool.true_or, reduceCtorEq, decide_false, decide_true, beq_self_eq_true, List.isEmpty_cons, List.isEmpty_nil])
def F_div := bodyF0 2 [] b_divisor
def F_ratio := bodyF0 3 [] (b_ratio F_div)
def L_ratio := bodyF0 4 [] b__law_ratio
theorem div_loop {a b : Nat} (hb : b < 2 ^ 999) : b_divisor_3 [some (.int a), some (.int b)] = some (.ok .nx [some (.int (Nat.gcd a b)), some (.int 0)]) := by
  unfold b_divisor_3
  have := whileM_euclid (g := bnd (mOp dGt (mVar 1) (Dl.ret (.int 0))) fun d => lft (dBool d)) (f := b_divisor_4) (fun a b => [some (.int (a : Nat)), some (.int (b : Nat))]) (fun a => by
    walk_at "ev"
    rfl) (fun a b h => by
    walk_at "ev"
    simp only [h, decide_true]) (fun a b h => by
    unfold b_divisor_4 mPar
    walk_at "ev") 999 a b 2000 hb (by decide)
  exact this
theorem div_t {a b : Nat} (hb : b < 2 ^ 999) : F_div [.int a, .int b] = some (.ok (.int (Nat.gcd a b)) [none, none]) := by
  unfold F_div
  exact bodyF0_ok (ds := [.int a, .int b]) (ρ := [some (.int (Nat.gcd a b)), some (.int 0)]) (by rfl) ((mSeq_ok (div_loop hb)).trans (by rfl))
/-- a ratio in its least terms -/
def nD (p q : Int) : D := if q = 1 then .int p else .tup [.int p, .int q]
def ratD (p q : Int) : D := if q < 0 then nD ((0 - p) / (Nat.gcd p.natAbs q.natAbs : Nat)) ((0 - q) / (Nat.gcd p.natAbs q.natAbs : Nat)) else nD (p / (Nat.gcd p.natAbs q.natAbs : Nat)) (q / (Nat.gcd p.natAbs q.natAbs : Nat))
def bigN : Nat := 1606938044258990275541962092341162602522202993782792835301376
theorem big_pow : bigN < 2 ^ 999 := by decide +kernel
theorem gcd_pos {p q : Int} (h : q ≠ 0) : 0 < Nat.gcd p.natAbs q.natAbs := Nat.gcd_pos_of_pos_right _ (by omega)
theorem gcd_le {p q : Int} (h : q ≠ 0) : Nat.gcd p.natAbs q.natAbs ≤ q.natAbs := Nat.gcd_le_right _ (by omega)
theorem rat_pos {p q : Int} {f : Int → D → Prop} : True := trivial
theorem ratio_p {p q : Int} (hq : 0 < q) (hb : q.natAbs < bigN) : mSeq (b_ratio_9 F_div) (mSeq (b_ratio_10 F_div) (b_ratio_11 F_div)) [some (.int p), some (.int q), none] = some (.ok (.rt (nD (p / (Nat.gcd p.natAbs q.natAbs : Nat)) (q / (Nat.gcd p.natAbs q.natAbs : Nat)))) [some (.int (p / (Nat.gcd p.natAbs q.natAbs : Nat))), some (.int (q / (Nat.gcd p.natAbs q.natAbs : Nat))), some (.int (Nat.gcd p.natAbs q.natAbs : Nat))]) := by
  have hg := gcd_pos (p := p) (q := q) (by omega)
  have hl := gcd_le (p := p) (q := q) (by omega)
  have e9 : b_ratio_9 F_div [some (.int p), some (.int q), none] = some (.ok .nx [some (.int p), some (.int q), some (.int (Nat.gcd p.natAbs q.natAbs : Nat))]) := by
    unfold b_ratio_9
    refine mAsg_ok (mCl0_ok (ds := [.int (p.natAbs : Nat), .int (q.natAbs : Nat)]) (ρ1 := [some (.int p), some (.int q), none]) ?_ (div_t (Nat.lt_trans hb big_pow))) (by rfl)
    rw [show ((q.natAbs : Nat) : Int) = q by omega, show ((p.natAbs : Nat) : Int) = if p < 0 then -p else p by split <;> omega]
    walk_at "ev"
  unfold bigN at hb
  generalize Nat.gcd p.natAbs q.natAbs = g at *
  have e10 : b_ratio_10 F_div [some (.int p), some (.int q), some (.int (g : Nat))] = some (.ok .nx [some (.int (p / (g : Nat))), some (.int (q / (g : Nat))), some (.int (g : Nat))]) := by
    unfold b_ratio_10 mPar
    walk_at "ev"
  refine (mSeq_ok e9).trans ((mSeq_ok e10).trans ?_)
  unfold b_ratio_11 nD
  by_cases h1 : q / (g : Int) = 1
  · rw [h1]
    walk_at "ev"
  · have h2 : (q / (g : Int) == 1) = false := by simpa using h1
    walk_at "ev"
    simp only [h2, h1, if_false]
    walk_at "ev"
theorem neg_abs (p : Int) : (0 - p).natAbs = p.natAbs := by omega
theorem ratio_t {p q : Int} (hq : q ≠ 0) (hb : q.natAbs < bigN) : F_ratio [.int p, .int q] = some (.ok (ratD p q) [none, none]) := by
  unfold F_ratio ratD
  by_cases h : q < 0
  · rw [if_pos h]
    have e7 : b_ratio_7 F_div [some (.int p), some (.int q), none] = some (.ok .nx [some (.int (0 - p)), some (.int (0 - q)), none]) := by
      unfold b_ratio_7 b_ratio_8 mPar
      walk_at "ev"
      simp only [h, if_true]
    have e := ratio_p (p := 0 - p) (q := 0 - q) (by omega) (by omega)
    rw [neg_abs, neg_abs] at e
    exact bodyF0_ok (ds := [.int p, .int q]) (by rfl) ((mSeq_ok e7).trans e)
  · rw [if_neg h]
    have e7 : b_ratio_7 F_div [some (.int p), some (.int q), none] = some (.ok .nx [some (.int p), some (.int q), none]) := by
      unfold b_ratio_7 b_ratio_8 mPar
      walk_at "ev"
      simp only [h, if_false]
    exact bodyF0_ok (ds := [.int p, .int q]) (by rfl) ((mSeq_ok e7).trans (ratio_p (by omega) hb))
theorem lr_loop (x y : Option D) {a b : Nat} (hb : b < 2 ^ 999) : b__law_ratio_100 [x, y, some (.int a), some (.int b)] = some (.ok .nx [x, y, some (.int (Nat.gcd a b)), some (.int 0)]) := by
  unfold b__law_ratio_100
  exact whileM_euclid (g := bnd (mOp dGt (mVar 3) (Dl.ret (.int 0))) fun d => lft (dBool d)) (f := b__law_ratio_101) (fun a b => [x, y, some (.int (a : Nat)), some (.int (b : Nat))]) (fun a => by
    walk_at "ev"
    rfl) (fun a b h => by
    walk_at "ev"
    simp only [h, decide_true]) (fun a b h => by
    unfold b__law_ratio_101 mPar
    walk_at "ev") 999 a b 2000 hb (by decide)
theorem lratio_p {p q : Int} (hq : 0 < q) (hb : q.natAbs < bigN) : ∃ ρ, mSeq b__law_ratio_99 (mSeq b__law_ratio_100 (mSeq b__law_ratio_102 b__law_ratio_103)) [some (.int p), some (.int q), none, none] = some (.ok (.rt (nD (p / (Nat.gcd p.natAbs q.natAbs : Nat)) (q / (Nat.gcd p.natAbs q.natAbs : Nat)))) ρ) := by
  have hg := gcd_pos (p := p) (q := q) (by omega)
  have hl := gcd_le (p := p) (q := q) (by omega)
  have e9 : b__law_ratio_99 [some (.int p), some (.int q), none, none] = some (.ok .nx [some (.int p), some (.int q), some (.int (p.natAbs : Nat)), some (.int (q.natAbs : Nat))]) := by
    unfold b__law_ratio_99 mPar
    rw [show ((q.natAbs : Nat) : Int) = q by omega, show ((p.natAbs : Nat) : Int) = if p < 0 then -p else p by split <;> omega]
    walk_at "ev"
  have e0 := lr_loop (some (.int p)) (some (.int q)) (a := p.natAbs) (b := q.natAbs) (Nat.lt_trans hb big_pow)
  unfold bigN at hb
  generalize Nat.gcd p.natAbs q.natAbs = g at *
  have e10 : b__law_ratio_102 [some (.int p), some (.int q), some (.int (g : Nat)), some (.int 0)] = some (.ok .nx [some (.int (p / (g : Nat))), some (.int (q / (g : Nat))), some (.int (g : Nat)), some (.int 0)]) := by
    unfold b__law_ratio_102 mPar
    walk_at "ev"
  refine ⟨[some (.int (p / (g : Nat))), some (.int (q / (g : Nat))), some (.int (g : Nat)), some (.int 0)], (mSeq_ok e9).trans ((mSeq_ok e0).trans ((mSeq_ok e10).trans ?_))⟩
  unfold b__law_ratio_103 nD
  by_cases h1 : q / (g : Int) = 1
  · rw [h1]
    walk_at "ev"
  · have h2 : (q / (g : Int) == 1) = false := by simpa using h1
    walk_at "ev"
    simp only [h2, h1, if_false]
    walk_at "ev"
theorem lratio_t {p q : Int} (hq : q ≠ 0) (hb : q.natAbs < bigN) : L_ratio [.int p, .int q] = some (.ok (ratD p q) [none, none]) := by
  unfold L_ratio ratD
  by_cases h : q < 0
  · rw [if_pos h]
    have e7 : b__law_ratio_97 [some (.int p), some (.int q), none, none] = some (.ok .nx [some (.int (0 - p)), some (.int (0 - q)), none, none]) := by
      unfold b__law_ratio_97 b__law_ratio_98 mPar
      walk_at "ev"
      simp only [h, if_true]
    obtain ⟨ρ, e⟩ := lratio_p (p := 0 - p) (q := 0 - q) (by omega) (by omega)
    rw [neg_abs, neg_abs] at e
    exact bodyF0_ok (ds := [.int p, .int q]) (by rfl) ((mSeq_ok e7).trans e)
  · rw [if_neg h]
    have e7 : b__law_ratio_97 [some (.int p), some (.int q), none, none] = some (.ok .nx [some (.int p), some (.int q), none, none]) := by
      unfold b__law_ratio_97 b__law_ratio_98 mPar
      walk_at "ev"
      simp only [h, if_false]
    obtain ⟨ρ, e⟩ := lratio_p (p := p) (q := q) (by omega) hb
    exact bodyF0_ok (ds := [.int p, .int q]) (by rfl) ((mSeq_ok e7).trans e)
/-- a number as the module writes it: nD p q, q positive, in least terms -/
def Low (p q : Int) : Prop := 0 < q ∧ Nat.gcd p.natAbs q.natAbs = 1
theorem nD_rat {p q : Int} (h : Low p q) : ratD p q = nD p q := by
  unfold ratD
  rw [if_neg (by have := h.1; omega), h.2]
  simp
theorem rat_low (p : Int) {q : Int} (hq : 0 < q) : Low (p / (Nat.gcd p.natAbs q.natAbs : Nat)) (q / (Nat.gcd p.natAbs q.natAbs : Nat)) ∧ q / (Nat.gcd p.natAbs q.natAbs : Nat) ≤ q := by
  have hg := gcd_pos (p := p) (q := q) (by omega)
  have d1 : ((Nat.gcd p.natAbs q.natAbs : Nat) : Int) ∣ p := Int.dvd_natAbs.mp (Int.ofNat_dvd.mpr (Nat.gcd_dvd_left _ _))
  have d2 : ((Nat.gcd p.natAbs q.natAbs : Nat) : Int) ∣ q := Int.dvd_natAbs.mp (Int.ofNat_dvd.mpr (Nat.gcd_dvd_right _ _))
  refine ⟨⟨?_, ?_⟩, ?_⟩
  · exact Int.ediv_pos_of_pos_of_dvd hq (by omega) d2
  · rw [Int.natAbs_ediv_of_dvd d1, Int.natAbs_ediv_of_dvd d2, Int.natAbs_natCast]
    exact Nat.gcd_div_gcd_div_gcd_of_pos_right (by omega)
  · exact Int.ediv_le_self _ (by omega)
end P00
namespace P00
open PySem L2 Dl Wk
local macro_rules | `(tactic| walk_at "ev") => `(tactic| simp (disch := omega) only [mSeq_ap, mVar_ap, mMov_ap, mTk_ap, mFz_ap, mRead_ap, mReadU_ap, mScal_ap, mOp_ap, mUn_ap, mPair_ap, bnd_ap, lft_ap, ret_ap, mCons_ap, mNil_ap, mCall_ap, mCl0_ap, backIo, mIf_ap, mAnd_ap, mOr_ap, mNot_ap, mAndV_ap, mOrV_ap, mNotV_ap, mChain_ap, mAsg_ap, gtName, gtScal, gtAny, gtSub, gtTup, gtCons, gtNil, mSkip_ap, mApp_ap, mPop_ap, popIx, mLen_ap, ixP, anyItems, shItems, getP, setP, mDisp_ap, mPopV_ap, mScl1_ap, scal1, bAbs, kid, putKid, shOf, unsh_non, unsh_bl, unsh_int, unsh_str, unsh_lst, unsh_tup, unsh_frl, unsh_shd, ite_lim, isShd_non, isShd_bl, isShd_int, isShd_str, isShd_lst, isShd_tup, isShd_frl, isShd_shd, dLst_nil, dTup_nil, toNat_lit, dTup_1, dTup_2, dTup_3, dTup_4, dTup_5, dLst_1, dLst_2, dLst_3, dLst_4, dLst_5, Dl.scal, dTr, dBool, dIs, dIsNot, Dl.isNon, dItems, dPart, dSl, bLen, bInt, bList, bTuple, dMul_i, dMul_b, dFdiv_i, dMod_i, dAdd_i, dSub_i, dLt_i, dLe_i, dGt_i, dGe_i, dEq_i, dNe_i, dEq_bl, dTup_c, dLst_c, mRng_ap, dRng_n, dRng1, rgC_map, Int.toNat_natCast, maskIo_nil, bIsi_bool, bIsi_int, bIsi_str, bIsi_dict, bIsi_list, bIsi_tuple, isiD, wipeD, dAdd_l, dAdd_t, dIx_l, dIx_t, ixN_nat, ixN_of, nat_cast_div, nat_cast_mod, nat_cast_mul, nat_cast_add, nat_add_lit, lit_add_nat, nat_mul_lit, lit_mul_nat, nat_div_lit, nat_mod_lit, nat_sub_lit, nat_lt, nat_le, nat_eq, nat_lt_lit, lit_lt_nat, nat_le_lit, lit_le_nat, dRng_two, nat_cast_sub, dRng3, bMin_n, List.length_map, List.length_set, lim,
  Option.bind_some, Option.map_some, List.getElem?_cons_zero, List.getElem?_cons_succ, List.set_cons_zero, List.set_cons_succ, List.length_cons, List.length_nil, reduceIte, Bool.false_eq_true, decide_eq_true_eq, Nat.reduceAdd, List.map_cons, List.map_nil, List.cons_append, List.nil_append, Nat.reduceSub, Nat.reduceLeDiff, List.replicate_succ, List.replicate_zero, Nat.zero_add, Bool.not_true, Bool.not_false, Bool.or_false, Bool.false_or, Bool.or_true, Bool.true_or, reduceCtorEq, decide_false, decide_true, beq_self_eq_true, List.isEmpty_cons, List.isEmpty_nil])

def F_parts := bodyF0 1 [] b_parts
def L_two := bodyF0 1 [] b__law_two
def F_add := bodyF0 6 [] (b_add F_parts F_ratio)
def F_minus := bodyF0 3 [] (b_minus F_parts F_ratio)
def F_sub := bodyF0 2 [] (b_sub F_add F_minus)
def F_mul := bodyF0 6 [] (b_mul F_parts F_ratio)
def F_dv := bodyF0 6 [] (b_div F_parts F_ratio)
theorem parts_t {p q : Int} : F_parts [nD p q] = some (.ok (.tup [.int p, .int q]) [none]) := by
  unfold F_parts nD
  by_cases h : q = 1
  · subst h
    rw [if_pos rfl]
    rfl
  · rw [if_neg h]
    rfl
theorem two_t {p q : Int} : L_two [nD p q] = some (.ok (.tup [.int p, .int q]) [none]) := by
  unfold L_two nD
  by_cases h : q = 1
  · subst h
    rw [if_pos rfl]
    rfl
  · rw [if_neg h]
    rfl
def Sm (p : Int) : Prop := p.natAbs < 1267650600228229401496703205376
theorem Sm.big {p : Int} (h : Sm p) : p.natAbs < 1606938044258990275541962092341162602522202993782792835301376 := by unfold Sm at h; omega
theorem Sm.mul {p q : Int} (h : Sm p) (h' : Sm q) : (p * q).natAbs < 1606938044258990275541962092341162602522202993782792835301376 := by
  unfold Sm at h h'
  rw [Int.natAbs_mul]
  exact Nat.lt_of_lt_of_le (Nat.mul_lt_mul'' h h') (by decide +kernel)
theorem add_t {a b c d : Int} (hb : 0 < b) (hd : 0 < d) (ha : Sm a) (hb' : Sm b) (hc : Sm c) (hd' : Sm d) : F_add [nD a b, nD c d] = some (.ok (ratD (a * d + c * b) (b * d)) [none, none]) := by
  have k1 := ha.big
  have k2 := hb'.big
  have k3 := hc.big
  have k4 := hd'.big
  have k5 := hb'.mul hd'
  have k6 : b * d ≠ 0 := Int.ne_of_gt (Int.mul_pos hb hd)
  have hr := ratio_t (p := a * d + c * b) k6 (by unfold bigN; exact k5)
  unfold F_add bodyF0 b_add
  walk_at "ev"
  rw [parts_t]
  walk_at "ev"
  rw [parts_t]
  walk_at "ev"
  rw [hr]
theorem neg_gcd (a b : Int) : Nat.gcd (0 - a).natAbs b.natAbs = Nat.gcd a.natAbs b.natAbs := by rw [neg_abs]
theorem Low.neg {a b : Int} (h : Low a b) : Low (0 - a) b := ⟨h.1, by rw [neg_gcd]; exact h.2⟩
theorem Sm.neg {a : Int} (h : Sm a) : Sm (0 - a) := by unfold Sm at *; omega
theorem minus_t {a b : Int} (h : Low a b) (hb' : Sm b) : F_minus [nD a b] = some (.ok (nD (0 - a) b) [none]) := by
  have hr := ratio_t (p := 0 - a) (q := b) (by have := h.1; omega) (by unfold bigN; exact hb'.big)
  rw [nD_rat h.neg] at hr
  unfold F_minus bodyF0 b_minus
  walk_at "ev"
  rw [parts_t]
  walk_at "ev"
  rw [hr]
theorem sub_t {a b c d : Int} (hb : 0 < b) (h : Low c d) (ha : Sm a) (hb' : Sm b) (hc : Sm c) (hd' : Sm d) : F_sub [nD a b, nD c d] = some (.ok (ratD (a * d - c * b) (b * d)) [none, none]) := by
  have hr := add_t (a := a) (b := b) (c := 0 - c) (d := d) hb h.1 ha hb' hc.neg hd'
  rw [show a * d + (0 - c) * b = a * d - c * b by rw [Int.sub_mul, Int.zero_mul]; omega] at hr
  unfold F_sub bodyF0 b_sub
  walk_at "ev"
  rw [minus_t h hd']
  walk_at "ev"
  rw [hr]
theorem mul_t {a b c d : Int} (hb : 0 < b) (hd : 0 < d) (ha : Sm a) (hb' : Sm b) (hc : Sm c) (hd' : Sm d) : F_mul [nD a b, nD c d] = some (.ok (ratD (a * c) (b * d)) [none, none]) := by
  have k1 := ha.big
  have k2 := hb'.big
  have k3 := hc.big
  have k4 := hd'.big
  have k5 := hb'.mul hd'
  have k6 : b * d ≠ 0 := Int.ne_of_gt (Int.mul_pos hb hd)
  have hr := ratio_t (p := a * c) k6 (by unfold bigN; exact k5)
  unfold F_mul bodyF0 b_mul
  walk_at "ev"
  rw [parts_t]
  walk_at "ev"
  rw [parts_t]
  walk_at "ev"
  rw [hr]
theorem dv_t {a b c d : Int} (hb : 0 < b) (hc0 : c ≠ 0) (ha : Sm a) (hb' : Sm b) (hc : Sm c) (hd' : Sm d) : F_dv [nD a b, nD c d] = some (.ok (ratD (a * d) (b * c)) [none, none]) := by
  have k1 := ha.big
  have k2 := hb'.big
  have k3 := hc.big
  have k4 := hd'.big
  have k5 := hb'.mul hc
  have k6 : b * c ≠ 0 := Int.mul_ne_zero (by omega) hc0
  have hr := ratio_t (p := a * d) k6 (by unfold bigN; exact k5)
  unfold F_dv bodyF0 b_div
  walk_at "ev"
  rw [parts_t]
  walk_at "ev"
  rw [parts_t]
  walk_at "ev"
  rw [hr]
def F_sign := bodyF0 2 [] (b_sign F_parts)
def F_less := bodyF0 2 [] (b_less F_sign F_sub)
def F_floor := bodyF0 3 [] (b_floor F_parts)
def F_ceil := bodyF0 3 [] (b_ceiling F_parts)
def F_round := bodyF0 1 [] (b_rounded F_floor F_add)
def F_cut := bodyF0 1 [] (b_cut F_sign F_floor F_ceil)
def sgn (p : Int) : Int := PyProof.Rows.b2i (decide (0 < p)) - PyProof.Rows.b2i (decide (p < 0))
theorem sign_t {p q : Int} : F_sign [nD p q] = some (.ok (.int (sgn p)) [none]) := by
  unfold F_sign bodyF0 b_sign
  walk_at "ev"
  rw [parts_t]
  rfl
theorem floor_t {p q : Int} (hq : 0 < q) (h : Sm q) : F_floor [nD p q] = some (.ok (.int (p / q)) [none]) := by
  have k := h.big
  unfold F_floor bodyF0 b_floor
  walk_at "ev"
  rw [parts_t]
  walk_at "ev"
theorem ceil_t {p q : Int} (hq : 0 < q) (h : Sm q) : F_ceil [nD p q] = some (.ok (.int (0 - (0 - p) / q)) [none]) := by
  have k := h.big
  unfold F_ceil bodyF0 b_ceiling
  walk_at "ev"
  rw [parts_t]
  walk_at "ev"
/-- a ratio written out: the sign and the whole part are as they were -/
theorem ratD_pos {p q : Int} (hq : 0 < q) : ratD p q = nD (p / (Nat.gcd p.natAbs q.natAbs : Nat)) (q / (Nat.gcd p.natAbs q.natAbs : Nat)) := by
  unfold ratD
  rw [if_neg (by omega)]
theorem sgn_div {p : Int} {g : Nat} (hg : 0 < g) (hd : (g : Int) ∣ p) : sgn (p / g) = sgn p := by
  obtain ⟨k, rfl⟩ := hd
  rw [Int.mul_ediv_cancel_left _ (by omega)]
  have hg' : (0 : Int) < g := by omega
  have e1 : (0 < (g : Int) * k) ↔ 0 < k := ⟨fun h => Int.pos_of_mul_pos_right h hg', fun h => Int.mul_pos hg' h⟩
  have e2 : ((g : Int) * k < 0) ↔ k < 0 := by
    constructor
    · intro h
      rcases Int.lt_or_le k 0 with h1 | h1
      · exact h1
      · have := Int.mul_nonneg (Int.le_of_lt hg') h1; omega
    · intro h; exact Int.mul_neg_of_pos_of_neg hg' h
  unfold sgn
  simp only [e1, e2]
theorem gdvd (p q : Int) : ((Nat.gcd p.natAbs q.natAbs : Nat) : Int) ∣ p ∧ ((Nat.gcd p.natAbs q.natAbs : Nat) : Int) ∣ q := ⟨Int.dvd_natAbs.mp (Int.ofNat_dvd.mpr (Nat.gcd_dvd_left _ _)), Int.dvd_natAbs.mp (Int.ofNat_dvd.mpr (Nat.gcd_dvd_right _ _))⟩
theorem sign_rat {p q : Int} (hq : 0 < q) : F_sign [ratD p q] = some (.ok (.int (sgn p)) [none]) := by
  rw [ratD_pos hq, sign_t, sgn_div (gcd_pos (by omega)) (gdvd p q).1]
theorem div_div {p q : Int} {g : Nat} (hg : 0 < g) (h1 : (g : Int) ∣ p) (h2 : (g : Int) ∣ q) (hq : 0 < q) : p / g / (q / g) = p / q := by
  obtain ⟨a, rfl⟩ := h1
  obtain ⟨b, rfl⟩ := h2
  have hg' : (0 : Int) < g := by omega
  rw [Int.mul_ediv_cancel_left _ (by omega), Int.mul_ediv_cancel_left _ (by omega), Int.mul_ediv_mul_of_pos _ _ hg']
theorem floor_rat {p q : Int} (hq : 0 < q) (h : Sm q) : F_floor [ratD p q] = some (.ok (.int (p / q)) [none]) := by
  obtain ⟨⟨l1, l2⟩, l3⟩ := rat_low p hq
  rw [ratD_pos hq, floor_t l1 (by unfold Sm at *; omega), div_div (gcd_pos (by omega)) (gdvd p q).1 (gdvd p q).2 hq]
theorem sgn_neg {p : Int} : decide (sgn p < 0) = decide (p < 0) := by
  unfold sgn PyProof.Rows.b2i
  by_cases h1 : 0 < p
  · simp [h1, Int.not_lt.mpr (Int.le_of_lt h1)]
  · by_cases h2 : p < 0
    · simp [h1, h2]
    · simp [h1, h2]
theorem less_t {a b c d : Int} (hb : 0 < b) (h : Low c d) (ha : Sm a) (hb' : Sm b) (hc : Sm c) (hd' : Sm d) : F_less [nD a b, nD c d] = some (.ok (.bl (decide (a * d < c * b))) [none, none]) := by
  unfold F_less bodyF0 b_less
  walk_at "ev"
  rw [sub_t hb h ha hb' hc hd']
  walk_at "ev"
  rw [sign_rat (Int.mul_pos hb h.1)]
  walk_at "ev"
  rw [sgn_neg]
  have e : (a * d - c * b < 0) = (a * d < c * b) := propext ⟨fun h => by omega, fun h => by omega⟩
  simp only [e]
theorem round_t {a b : Int} (hb : 0 < b) (ha : Sm a) (hb' : b < 1000000) : F_round [nD a b] = some (.ok (.int ((a * 2 + 1 * b) / (b * 2))) [none]) := by
  have e : (.tup [.int 1, .int 2] : D) = nD 1 2 := by rfl
  have hr := add_t (a := a) (b := b) (c := 1) (d := 2) hb (by decide) ha (by unfold Sm; omega) (by unfold Sm; decide) (by unfold Sm; decide)
  unfold F_round bodyF0 b_rounded
  walk_at "ev"
  rw [e, hr]
  walk_at "ev"
  rw [floor_rat (by omega) (by unfold Sm; omega)]
theorem cut_t {a b : Int} (hb : 0 < b) (hb' : Sm b) : F_cut [nD a b] = some (.ok (.int (if 0 ≤ a then a / b else 0 - (0 - a) / b)) [none]) := by
  unfold F_cut bodyF0 b_cut
  walk_at "ev"
  rw [sign_t]
  walk_at "ev"
  have e : (0 ≤ sgn a) ↔ 0 ≤ a := by
    have := sgn_neg (p := a)
    rw [decide_eq_decide] at this
    omega
  by_cases h : 0 ≤ a
  · simp only [e, h, if_true]
    rw [floor_t hb hb']
  · simp only [e, h, if_false]
    rw [ceil_t hb hb']
end P00
namespace P00
open PySem L2 Dl Wk
local macro_rules | `(tactic| walk_at "ev") => `(tactic| simp (disch := omega) only [mSeq_ap, mVar_ap, mMov_ap, mTk_ap, mFz_ap, mRead_ap, mReadU_ap, mScal_ap, mOp_ap, mUn_ap, mPair_ap, bnd_ap, lft_ap, ret_ap, mCons_ap, mNil_ap, mCall_ap, mCl0_ap, backIo, mIf_ap, mAnd_ap, mOr_ap, mNot_ap, mAndV_ap, mOrV_ap, mNotV_ap, mChain_ap, mAsg_ap, gtName, gtScal, gtAny, gtSub, gtTup, gtCons, gtNil, mSkip_ap, mApp_ap, mPop_ap, popIx, mLen_ap, ixP, anyItems, shItems, getP, setP, mDisp_ap, mPopV_ap, mScl1_ap, scal1, bAbs, kid, putKid, shOf, unsh_non, unsh_bl, unsh_int, unsh_str, unsh_lst, unsh_tup, unsh_frl, unsh_shd, ite_lim, isShd_non, isShd_bl, isShd_int, isShd_str, isShd_lst, isShd_tup, isShd_frl, isShd_shd, dLst_nil, dTup_nil, toNat_lit, dTup_1, dTup_2, dTup_3, dTup_4, dTup_5, dLst_1, dLst_2, dLst_3, dLst_4, dLst_5, Dl.scal, dTr, dBool, dIs, dIsNot, Dl.isNon, dItems, dPart, dSl, bLen, bInt, bList, bTuple, dMul_i, dMul_b, dFdiv_i, dMod_i, dAdd_i, dSub_i, dLt_i, dLe_i, dGt_i, dGe_i, dEq_i, dNe_i, dEq_bl, dTup_c, dLst_c, mRng_ap, dRng_n, dRng1, rgC_map, Int.toNat_natCast, maskIo_nil, bIsi_bool, bIsi_int, bIsi_str, bIsi_dict, bIsi_list, bIsi_tuple, isiD, wipeD, dAdd_l, dAdd_t, dIx_l, dIx_t, ixN_nat, ixN_of, nat_cast_div, nat_cast_mod, nat_cast_mul, nat_cast_add, nat_add_lit, lit_add_nat, nat_mul_lit, lit_mul_nat, nat_div_lit, nat_mod_lit, nat_sub_lit, nat_lt, nat_le, nat_eq, nat_lt_lit, lit_lt_nat, nat_le_lit, lit_le_nat, dRng_two, nat_cast_sub, dRng3, bMin_n, List.length_map, List.length_set, lim,
  Option.bind_some, Option.map_some, List.getElem?_cons_zero, List.getElem?_cons_succ, List.set_cons_zero, List.set_cons_succ, List.length_cons, List.length_nil, reduceIte, Bool.false_eq_true, decide_eq_true_eq, Nat.reduceAdd, List.map_cons, List.map_nil, List.cons_append, List.nil_append, Nat.reduceSub, Nat.reduceLeDiff, List.replicate_succ, List.replicate_zero, Nat.zero_add, Bool.not_true, Bool.not_false, Bool.or_false, Bool.false_or, Bool.or_true, Bool.true_or, reduceCtorEq, decide_false, decide_true, beq_self_eq_true, List.isEmpty_cons, List.isEmpty_nil])

local macro_rules | `(tactic| walk_at "ev3") => `(tactic| simp (disch := omega) only [mSeq_ap, mVar_ap, mMov_ap, mTk_ap, mFz_ap, mReadU_ap, mScal_ap, mOp_ap, mUn_ap, mPair_ap, bnd_ap, lft_ap, ret_ap, mCons_ap, mNil_ap, mCall_ap, mCl0_ap, backIo, mIf_ap, mAnd_ap, mOr_ap, mNot_ap, mAndV_ap, mOrV_ap, mNotV_ap, mChain_ap, mAsg_ap, gtName, gtScal, gtAny, gtSub, gtTup, gtCons, gtNil, mSkip_ap, mApp_ap, mPop_ap, popIx, ixP, anyItems, shItems, getP, setP, mDisp_ap, mPopV_ap, mScl1_ap, scal1, bAbs, kid, putKid, shOf, unsh_non, unsh_bl, unsh_int, unsh_str, unsh_lst, unsh_tup, unsh_frl, unsh_shd, ite_lim, isShd_non, isShd_bl, isShd_int, isShd_str, isShd_lst, isShd_tup, isShd_frl, isShd_shd, dLst_nil, dTup_nil, toNat_lit, dTup_1, dTup_2, dTup_3, dTup_4, dTup_5, dLst_1, dLst_2, dLst_3, dLst_4, dLst_5, Dl.scal, dTr, dBool, dIs, dIsNot, Dl.isNon, dItems, dPart, dSl, bLen, bInt, bList, bTuple, dMul_i, dMul_b, dFdiv_i, dMod_i, dAdd_i, dSub_i, dLt_i, dLe_i, dGt_i, dGe_i, dEq_i, dNe_i, dEq_bl, dTup_c, dLst_c, mRng_ap, dRng_n, dRng1, rgC_map, Int.toNat_natCast, maskIo_nil, bIsi_bool, bIsi_int, bIsi_str, bIsi_dict, bIsi_list, bIsi_tuple, isiD, wipeD, dAdd_l, dAdd_t, dIx_l, dIx_t, ixN_nat, ixN_of, nat_cast_div, nat_cast_mod, nat_cast_mul, nat_cast_add, nat_add_lit, lit_add_nat, nat_mul_lit, lit_mul_nat, nat_div_lit, nat_mod_lit, nat_sub_lit, nat_lt, nat_le, nat_eq, nat_lt_lit, lit_lt_nat, nat_le_lit, lit_le_nat, dRng_two, nat_cast_sub, dRng3, bMin_n, List.length_map, List.length_set, lim,
  Option.bind_some, Option.map_some, List.getElem?_cons_zero, List.getElem?_cons_succ, List.set_cons_zero, List.set_cons_succ, List.length_cons, List.length_nil, reduceIte, Bool.false_eq_true, decide_eq_true_eq, Nat.reduceAdd, List.map_cons, List.map_nil, List.cons_append, List.nil_append, Nat.reduceSub, Nat.reduceLeDiff, List.replicate_succ, List.replicate_zero, Nat.zero_add, Bool.not_true, Bool.not_false, Bool.or_false, Bool.false_or, Bool.or_true, Bool.true_or, reduceCtorEq, decide_false, decide_true, beq_self_eq_true, List.isEmpty_cons, List.isEmpty_nil])
/-- the draws, as a dict -/
def drK (ns : List Int) (at' : Nat) : D := .dK [.inr "numbers", .inr "at"] [.lst (ns.map .int), .int at']
def DrK (x : D) : Prop := ∃ ns a, x = drK ns a ∧ ns ≠ [] ∧ ns.length < 1000000 ∧ ∀ n ∈ ns, 0 ≤ n
def L_next := bodyF0 3 [0] b__law_next
theorem ix_num (ns : List Int) (a : Nat) : ixD (drK ns a, []) (.str "numbers") = some (drK ns a, [0]) := by rfl
theorem ix_at (ns : List Int) (a : Nat) : ixD (drK ns a, []) (.str "at") = some (drK ns a, [1]) := by rfl
theorem st_at (ns : List Int) (a b : Nat) (ρ ρ1 : De) (fb : Mr D) (h : ρ[0]? = some (some (drK ns a))) (hb : fb (ρ.set 0 none) = some (.ok (.str "at") ρ1)) : gtSubD 0 (bnd (mTk 0) fun d => Dl.ret (d, [])) fb (.int b) ρ = some (ρ1.set 0 (some (drK ns b))) := by
  unfold gtSubD
  rw [bnd_ap, mPair_ap, bnd_ap, bnd_ap, mTk_ap, h]
  dsimp only
  rw [ret_ap]
  dsimp only
  rw [bnd_ok hb]
  rfl
theorem next_t {x : D} (h : DrK x) {l : Int} (hl : 0 < l) (hl2 : l < 1000000) : ∃ (y : D) (v : Nat), DrK y ∧ (v : Int) < l ∧ L_next [x, .int l] = some (.ok (.int v) [some y, none]) := by
  obtain ⟨ns, a, rfl, h0, h1, h2⟩ := h
  have hp : 0 < ns.length := List.length_pos_iff.mpr h0
  have hm : a % ns.length < (ns.map D.int).length := by rw [List.length_map]; exact Nat.mod_lt _ hp
  have hm' : a % ns.length < ns.length := Nat.mod_lt _ hp
  have e75 : b__law_next_75 [some (drK ns a), some (.int l), none] = some (.ok .nx [some (drK ns a), some (.int l), some (.int a)]) := by
    unfold b__law_next_75
    walk_at "ev"
    rw [ix_at]
    rfl
  have e76 : b__law_next_76 [some (drK ns a), some (.int l), some (.int a)] = some (.ok .nx [some (drK ns (a + 1)), some (.int l), some (.int a)]) := by
    unfold b__law_next_76
    refine mAsg_ok (d := .int (a + 1 : Nat)) (ρ1 := [some (drK ns a), some (.int l), some (.int a)]) (by
      walk_at "ev") ?_
    exact st_at ns a (a + 1) _ [none, some (.int l), some (.int a)] _ (by rfl) (by rfl)
  refine ⟨drK ns (a + 1), ((ns[a % ns.length] + 31 * ((a / ns.length : Nat) : Int)) % l).toNat, ⟨ns, a + 1, rfl, h0, h1, h2⟩, ?_, ?_⟩
  · have h3 := Int.emod_nonneg (ns[a % ns.length] + 31 * ((a / ns.length : Nat) : Int)) (show l ≠ 0 by omega)
    have h4 := Int.emod_lt_of_pos (ns[a % ns.length] + 31 * ((a / ns.length : Nat) : Int)) hl
    omega
  · have e77 : b__law_next_77 [some (drK ns (a + 1)), some (.int l), some (.int a)] = some (.ok (.rt (.int ((ns[a % ns.length] + 31 * ((a / ns.length : Nat) : Int)) % l))) [some (drK ns (a + 1)), some (.int l), some (.int a)]) := by
      have r1 : mRead 0 (bnd (mPair (bnd (mTk 0) fun d => Dl.ret (d, [])) (Dl.ret (.str "numbers"))) fun p => lft (ixD p.1 p.2)) [some (drK ns (a + 1)), some (.int l), some (.int a)] = some (.ok (.lst (ns.map .int)) [some (drK ns (a + 1)), some (.int l), some (.int a)]) := by rfl
      have r2 : mLen 0 (bnd (mPair (bnd (mTk 0) fun d => Dl.ret (d, [])) (Dl.ret (.str "numbers"))) fun p => lft (ixD p.1 p.2)) [some (drK ns (a + 1)), some (.int l), some (.int a)] = some (.ok (.int (ns.length : Nat)) [some (drK ns (a + 1)), some (.int l), some (.int a)]) := by
        have : (.int (ns.length : Nat) : D) = .int ((ns.map D.int).length : Nat) := by rw [List.length_map]
        rw [this]
        rfl
      unfold b__law_next_77
      walk_at "ev3"
      simp only [r1, r2]
      walk_at "ev3"
      simp only [r1, r2]
      walk_at "ev3"
      simp only [r1, r2]
      walk_at "ev3"
      rw [List.getElem_map]
      walk_at "ev3"
    rw [Int.toNat_of_nonneg (Int.emod_nonneg _ (by omega))]
    unfold L_next bodyF0 b__law_next
    rw [show [drK ns a, D.int l].map some ++ List.replicate (3 - [drK ns a, D.int l].length) none = [some (drK ns a), some (.int l), none] from rfl]
    rw [mSeq_ok e75, mSeq_ok e76, e77]
    rfl
theorem DrK.shd {x : D} (h : DrK x) : isShd x = false := by
  obtain ⟨c, a, rfl, _⟩ := h
  rfl
/-- a call of it: the draws stand in the slot i -/
theorem ncall {i : Nat} {fl : Mr D} {ρ ρ1 : De} {x : D} {l : Int} (h : DrK x) (h1 : ρ[i]? = some (some x)) (h2 : fl (ρ.set i none) = some (.ok (.int l) ρ1)) (hl : 0 < l) (hl2 : l < 1000000) :
    ∃ (y : D) (v : Nat), DrK y ∧ (v : Int) < l ∧ mCl0 [.io i, .v .sh] L_next (mCons (mMov i) (mCons fl mNil)) ρ = some (.ok (.int v) (ρ1.set i (some y))) := by
  obtain ⟨y, v, h3, h4, h6⟩ := next_t h hl hl2
  refine ⟨y, v, h3, h4, ?_⟩
  have e : mCons (mMov i) (mCons fl mNil) ρ = some (.ok [x, .int l] ρ1) := by
    rw [mCons_ap, bnd_ap, mMov_ap, h1]
    dsimp only
    rw [h.shd]
    dsimp only
    rw [bnd_ap, mCons_ap, bnd_ok h2]
    rfl
  rw [mCl0_ok e h6]
  rfl
def L_pick := bodyF0 2 [0] (b__law_pick L_next)
theorem pick_t {x : D} (h : DrK x) {ds : List D} (h0 : 0 < ds.length) (h1 : ds.length < 1000000) : ∃ (y : D) (v : Nat) (hv : v < ds.length), DrK y ∧ L_pick [x, .lst ds] = some (.ok ds[v] [some y, none]) := by
  obtain ⟨y, v, h3, h4, e⟩ := ncall (i := 0) (fl := mCall bLen (mCons (mVar 1) mNil)) (ρ := [some x, some (.lst ds)]) (ρ1 := [none, some (.lst ds)]) (l := ds.length) h (by rfl) (by rfl) (by omega) (by omega)
  have hv : v < ds.length := by omega
  refine ⟨y, v, hv, h3, ?_⟩
  unfold L_pick bodyF0 b__law_pick
  rw [show [x, D.lst ds].map some ++ List.replicate (2 - [x, D.lst ds].length) none = [some x, some (.lst ds)] from rfl]
  rw [bnd_ap, mOp_ap, bnd_ap, mVar_ap]
  simp only [List.getElem?_cons_succ, List.getElem?_cons_zero]
  rw [bnd_ok e, lft_ap, dIx_l hv]
  rfl
theorem pcall {i : Nat} {fl : Mr D} {ρ ρ1 : De} {x : D} {ds : List D} (h : DrK x) (h1 : ρ[i]? = some (some x)) (h2 : fl (ρ.set i none) = some (.ok (.lst ds) ρ1)) (hl : 0 < ds.length) (hl2 : ds.length < 1000000) :
    ∃ (y : D) (v : Nat) (hv : v < ds.length), DrK y ∧ mCl0 [.io i, .v .sh] L_pick (mCons (mMov i) (mCons fl mNil)) ρ = some (.ok ds[v] (ρ1.set i (some y))) := by
  obtain ⟨y, v, hv, h3, h6⟩ := pick_t h hl hl2
  refine ⟨y, v, hv, h3, ?_⟩
  have e : mCons (mMov i) (mCons fl mNil) ρ = some (.ok [x, .lst ds] ρ1) := by
    rw [mCons_ap, bnd_ap, mMov_ap, h1]
    dsimp only
    rw [h.shd]
    dsimp only
    rw [bnd_ap, mCons_ap, bnd_ok h2]
    rfl
  rw [mCl0_ok e h6]
  rfl
def Nn (L : List Int) : Prop := ∀ n ∈ L, 0 ≤ n
theorem Nn.app {L : List Int} {v : Int} (h : Nn L) (hv : 0 ≤ v) : Nn (L ++ [v]) := fun n hn => by
  rcases List.mem_append.mp hn with hn | hn
  · exact h n hn
  · rw [List.mem_singleton] at hn; omega
theorem map_app (L : List Int) (v : Int) : (L ++ [v]).map D.int = L.map D.int ++ [.int v] := by simp
theorem dr_67 (s c : Option D) {L : List Int} (rest mixed : Int) (k : Nat) (hn : Nn L) (hl : L.length < 100000) : ∃ L' rest' mixed', Nn L' ∧ L'.length = L.length + 1 ∧
    b__law_draws_67 [s, some (.lst (L.map .int)), c, some (.int rest), some (.int mixed), some (.int k)] = some (.ok .nx [s, some (.lst (L'.map .int)), c, some (.int rest'), some (.int mixed'), some (.int k)]) := by
  have hlm : (L.map D.int).length < 16777216 := by rw [List.length_map]; omega
  by_cases h : (1048576 : Int) ≤ rest
  · refine ⟨L ++ [rest % 1048576], rest / 1048576, mixed, hn.app (Int.emod_nonneg _ (by decide)), by simp, ?_⟩
    rw [map_app]
    unfold b__law_draws_67 b__law_draws_68 b__law_draws_69
    walk_at "ev"
    simp only [h, if_true]
  · refine ⟨L ++ [(((mixed * 48271 + 11 * (k : Int) + 7 + rest) % 2147483647) * 2862933555777941757 / 1024) % 1048576], rest, (mixed * 48271 + 11 * (k : Int) + 7 + rest) % 2147483647, hn.app (Int.emod_nonneg _ (by decide)), by simp, ?_⟩
    rw [map_app]
    unfold b__law_draws_67 b__law_draws_71 b__law_draws_72
    walk_at "ev"
    simp only [h, if_false]
/-- the forty draws of a cell -/
theorem dr_66 (s c z : Option D) {L : List Int} (rest mixed : Int) (hn : Nn L) (hl : L.length < 10000) : ∃ ρ', b__law_draws_66 [s, some (.lst (L.map .int)), c, some (.int rest), some (.int mixed), z] = some (.ok .nx ρ') ∧ ∃ L' y3 y4 y5, Nn L' ∧ L'.length = L.length + 40 ∧ ρ' = [s, some (.lst (L'.map .int)), c, y3, y4, y5] := by
  unfold b__law_draws_66
  rw [mFor_ok (ds := (List.range 40).map fun i : Nat => .int i) (ρ1 := [s, some (.lst (L.map .int)), c, some (.int rest), some (.int mixed), z]) (by rfl)]
  obtain ⟨ρ', e, L', r', m', y5, h1, h2, h3⟩ := forM_inv (gt := gtName 5) (body := b__law_draws_67) (fun k ρ => ∃ (L' : List Int) (r' m' : Int) (y5 : Option D), Nn L' ∧ L'.length = L.length + k ∧ ρ = [s, some (.lst (L'.map .int)), c, some (.int r'), some (.int m'), y5]) ((List.range 40).map fun i : Nat => .int i) 0 [s, some (.lst (L.map .int)), c, some (.int rest), some (.int mixed), z] ⟨L, rest, mixed, z, hn, rfl, rfl⟩ fun i d ρ hd ⟨L', r', m', y5, h1, h2, hr⟩ => by
    subst hr
    have hi : i < 40 := by
      have := (List.getElem?_eq_some_iff.mp hd).1
      simpa using this
    have hd' : d = .int (i : Nat) := by
      rw [List.getElem?_map, List.getElem?_range hi] at hd
      cases hd; rfl
    subst hd'
    obtain ⟨L2, r2, m2, g1, g2, g3⟩ := dr_67 s c (L := L') r' m' i h1 (by omega)
    exact ⟨_, _, by rfl, .inl g3, L2, r2, m2, _, g1, by omega, rfl⟩
  rw [List.length_map, List.length_range] at h2
  exact ⟨ρ', e, L', _, _, _, h1, by omega, h3⟩
def L_draws := bodyF0 6 [] b__law_draws
theorem draws_t (ns : List Int) : ∃ L, Nn L ∧ 0 < L.length ∧ L.length < 1000 ∧ L_draws [.frl (ns.map .int)] = some (.ok (drK L 0) [none]) := by
  have ht : (ns.take 8).length ≤ 8 := by rw [List.length_take]; omega
  have e63 : ∃ ρ', b__law_draws_63 [some (.frl (ns.map .int)), some (.lst []), none, none, none, none] = some (.ok .nx ρ') ∧ ∃ (L : List Int) (y2 y3 y4 y5 : Option D), Nn L ∧ 0 < L.length ∧ L.length < 1000 ∧ ρ' = [some (.frl (ns.map .int)), some (.lst (L.map .int)), y2, y3, y4, y5] := by
    unfold b__law_draws_63
    rw [mFor_ok (ds := ((ns.take 8) ++ [7]).map .int) (ρ1 := [some (.frl (ns.map .int)), some (.lst []), none, none, none, none]) ?_]
    · obtain ⟨ρ', e, L', y2, y3, y4, y5, h1, h2, h3⟩ := forM_inv (gt := gtName 2) (body := mSeq b__law_draws_64 (mSeq b__law_draws_65 b__law_draws_66)) (fun k ρ => ∃ (L' : List Int) (y2 y3 y4 y5 : Option D), Nn L' ∧ L'.length = 40 * k ∧ ρ = [some (.frl (ns.map .int)), some (.lst (L'.map .int)), y2, y3, y4, y5]) (((ns.take 8) ++ [7]).map .int) 0 [some (.frl (ns.map .int)), some (.lst []), none, none, none, none] ⟨[], none, none, none, none, (fun _ h => nomatch h), rfl, rfl⟩ fun i d ρ hd ⟨L', y2, y3, y4, y5, h1, h2, hr⟩ => by
        subst hr
        have hi : i < 9 := by
          have := (List.getElem?_eq_some_iff.mp hd).1
          simp at this
          omega
        obtain ⟨v, _, rfl⟩ := List.mem_map.mp (List.mem_of_getElem? hd)
        have e64 : b__law_draws_64 [some (.frl (ns.map .int)), some (.lst (L'.map .int)), some (.int v), y3, y4, y5] = some (.ok .nx [some (.frl (ns.map .int)), some (.lst (L'.map .int)), some (.int v), some (.int (if v < 0 then -v else v)), y4, y5]) := by
          unfold b__law_draws_64
          walk_at "ev"
        have e65 : b__law_draws_65 [some (.frl (ns.map .int)), some (.lst (L'.map .int)), some (.int v), some (.int (if v < 0 then -v else v)), y4, y5] = some (.ok .nx [some (.frl (ns.map .int)), some (.lst (L'.map .int)), some (.int v), some (.int (if v < 0 then -v else v)), some (.int (v % 1000003 + 1)), y5]) := by
          unfold b__law_draws_65
          walk_at "ev"
        obtain ⟨ρ2, e66, L2, z3, z4, z5, g1, g2, g3⟩ := dr_66 (some (.frl (ns.map .int))) (some (.int v)) y5 (if v < 0 then -v else v) (v % 1000003 + 1) h1 (by omega)
        exact ⟨_, ρ2, by rfl, .inl ((mSeq_ok e64).trans ((mSeq_ok e65).trans e66)), L2, _, _, _, _, g1, by omega, g3⟩
      simp only [List.length_map, List.length_append, List.length_cons, List.length_nil] at h2
      exact ⟨ρ', e, L', _, _, _, _, h1, by omega, by omega, h3⟩
    · have hc : cutD (ns.map D.int) none (some 8) = (ns.take 8).map .int := by
        have := HT.sIx_nat (ns.map D.int).length (ns.map D.int).length 8
        unfold cutD
        rw [HT.sIx_none, show (some 8 : Option Int) = some ((8 : Nat) : Int) from rfl, this, List.drop_zero, Nat.sub_zero, List.map_take]
        rcases Nat.lt_or_ge (ns.map D.int).length 8 with h | h
        · rw [Nat.min_eq_right (by omega), List.take_length, List.take_of_length_le (by omega)]
        · rw [Nat.min_eq_left h]
      rw [bnd_ap, mOp_ap, bnd_ap, mCall_ap, bnd_ap, mCons_ap, bnd_ok (a := D.lst ((ns.take 8).map .int)) (ρ' := [some (.frl (ns.map .int)), some (.lst []), none, none, none, none]) (by rw [← hc]; rfl)]
      have hl2 : ((ns.take 8).map D.int).length ≤ 8 := by rw [List.length_map]; exact ht
      walk_at "ev"
      rw [dAdd_l (by simp; omega), List.map_append]
      rfl
  obtain ⟨ρ', e, L, y2, y3, y4, y5, h1, h2, h3, rfl⟩ := e63
  refine ⟨L, h1, h2, h3, ?_⟩
  unfold L_draws
  exact bodyF0_ok (ds := [.frl (ns.map .int)]) (ρ := [some (.frl (ns.map .int)), some (.shd (.lst (L.map .int))), y2, y3, y4, y5]) (by rfl) ((mSeq_ok (ρ' := [some (.frl (ns.map .int)), some (.lst []), none, none, none, none]) (by rfl)).trans ((mSeq_ok e).trans (by rfl)))
end P00
namespace P00
open PySem L2 Dl Wk
local macro_rules | `(tactic| walk_at "ev") => `(tactic| simp (disch := omega) only [mSeq_ap, mVar_ap, mMov_ap, mTk_ap, mFz_ap, mRead_ap, mReadU_ap, mScal_ap, mOp_ap, mUn_ap, mPair_ap, bnd_ap, lft_ap, ret_ap, mCons_ap, mNil_ap, mCall_ap, mCl0_ap, backIo, mIf_ap, mAnd_ap, mOr_ap, mNot_ap, mAndV_ap, mOrV_ap, mNotV_ap, mChain_ap, mAsg_ap, gtName, gtScal, gtAny, gtSub, gtTup, gtCons, gtNil, mSkip_ap, mApp_ap, mPop_ap, popIx, mLen_ap, ixP, anyItems, shItems, getP, setP, mDisp_ap, mPopV_ap, mScl1_ap, scal1, bAbs, kid, putKid, shOf, unsh_non, unsh_bl, unsh_int, unsh_str, unsh_lst, unsh_tup, unsh_frl, unsh_shd, ite_lim, isShd_non, isShd_bl, isShd_int, isShd_str, isShd_lst, isShd_tup, isShd_frl, isShd_shd, dLst_nil, dTup_nil, toNat_lit, dTup_1, dTup_2, dTup_3, dTup_4, dTup_5, dLst_1, dLst_2, dLst_3, dLst_4, dLst_5, Dl.scal, dTr, dBool, dIs, dIsNot, Dl.isNon, dItems, dPart, dSl, bLen, bInt, bList, bTuple, dMul_i, dMul_b, dFdiv_i, dMod_i, dAdd_i, dSub_i, dLt_i, dLe_i, dGt_i, dGe_i, dEq_i, dNe_i, dEq_bl, dTup_c, dLst_c, mRng_ap, dRng_n, dRng1, rgC_map, Int.toNat_natCast, maskIo_nil, bIsi_bool, bIsi_int, bIsi_str, bIsi_dict, bIsi_list, bIsi_tuple, isiD, wipeD, dAdd_l, dAdd_t, dIx_l, dIx_t, ixN_nat, ixN_of, nat_cast_div, nat_cast_mod, nat_cast_mul, nat_cast_add, nat_add_lit, lit_add_nat, nat_mul_lit, lit_mul_nat, nat_div_lit, nat_mod_lit, nat_sub_lit, nat_lt, nat_le, nat_eq, nat_lt_lit, lit_lt_nat, nat_le_lit, lit_le_nat, dRng_two, nat_cast_sub, dRng3, bMin_n, List.length_map, List.length_set, lim,
  Option.bind_some, Option.map_some, List.getElem?_cons_zero, List.getElem?_cons_succ, List.set_cons_zero, List.set_cons_succ, List.length_cons, List.length_nil, reduceIte, Bool.false_eq_true, decide_eq_true_eq, Nat.reduceAdd, List.map_cons, List.map_nil, List.cons_append, List.nil_append, Nat.reduceSub, Nat.reduceLeDiff, List.replicate_succ, List.replicate_zero, Nat.zero_add, Bool.not_true, Bool.not_false, Bool.or_false, Bool.false_or, Bool.or_true, Bool.true_or, reduceCtorEq, decide_false, decide_true, beq_self_eq_true, List.isEmpty_cons, List.isEmpty_nil])

def L_big := bodyF0 2 [0] (b__law_big L_next L_pick L_ratio)
theorem rat_abs (p : Int) {q : Int} (hq : 0 < q) : (p / (Nat.gcd p.natAbs q.natAbs : Nat)).natAbs ≤ p.natAbs := by
  have hg := gcd_pos (p := p) (q := q) (by omega)
  rw [Int.natAbs_ediv_of_dvd (gdvd p q).1]
  exact Nat.div_le_self _ _
theorem lratio_low {p q : Int} (hq : 0 < q) (hb : q < 1000000) : ∃ a b, Low a b ∧ a.natAbs ≤ p.natAbs ∧ b ≤ q ∧ L_ratio [.int p, .int q] = some (.ok (nD a b) [none, none]) := by
  obtain ⟨h1, h2⟩ := rat_low p hq
  refine ⟨_, _, h1, rat_abs p hq, h2, ?_⟩
  rw [lratio_t (by omega) (by unfold bigN; omega), ratD_pos hq]
theorem big_t {x : D} (h : DrK x) : ∃ (y : D) (p q : Int), DrK y ∧ Low p q ∧ p.natAbs ≤ 200000000000000000000000 ∧ q ≤ 30 ∧ L_big [x] = some (.ok (nD p q) [some y]) := by
  have e0 : dPow (.int 10) (.int 20) = some (.int 100000000000000000000) := by rfl
  obtain ⟨y1, v1, k1, b1, e1⟩ := ncall (i := 0) (fl := Dl.ret (.int 2001)) (ρ := [some x, none]) (ρ1 := [none, none]) (l := 2001) h (by rfl) (by rfl) (by decide) (by decide)
  obtain ⟨y2, v2, hv2, k2, e2⟩ := pcall (i := 0) (fl := bnd (mCons (Dl.ret (.int 1)) (mCons (Dl.ret (.int 1)) (mCons (mOp dPow (Dl.ret (.int 10)) (Dl.ret (.int 20))) mNil))) fun ds => lft (dLst ds)) (ρ := [some y1, none]) (ρ1 := [none, none]) (ds := [.int 1, .int 1, .int 100000000000000000000]) k1 (by rfl) (by
    walk_at "ev"
    rw [e0]
    rfl) (by decide) (by decide)
  obtain ⟨m, hm0, hm1, em⟩ : ∃ m : Int, 0 < m ∧ m ≤ 100000000000000000000 ∧ ([.int 1, .int 1, .int 100000000000000000000] : List D)[v2] = .int m := by
    match v2, hv2 with
    | 0, _ => exact ⟨1, by decide, by decide, rfl⟩
    | 1, _ => exact ⟨1, by decide, by decide, rfl⟩
    | 2, _ => exact ⟨100000000000000000000, by decide, by decide, rfl⟩
    | n + 3, hn => simp at hn; omega
  rw [em] at e2
  simp only [List.set_cons_zero] at e1 e2
  have e111 : b__law_big_111 L_next L_pick L_ratio [some x, none] = some (.ok .nx [some y2, some (.int (((v1 : Int) - 1000) * m))]) := by
    unfold b__law_big_111
    rw [mAsg_ap, bnd_ap, mOp_ap, bnd_ap, mOp_ap, bnd_ok e1, bnd_ap, ret_ap]
    dsimp only
    rw [lft_ap, dSub_i]
    dsimp only
    rw [bnd_ok e2, lft_ap, dMul_b (by omega) (by omega)]
    rfl
  obtain ⟨y3, v3, k3, b3, e3⟩ := ncall (i := 0) (fl := Dl.ret (.int 3)) (ρ := [some y2, some (.int (((v1 : Int) - 1000) * m))]) (ρ1 := [none, some (.int (((v1 : Int) - 1000) * m))]) (l := 3) k2 (by rfl) (by rfl) (by decide) (by decide)
  obtain ⟨y4, v4, k4, b4, e4⟩ := ncall (i := 0) (fl := Dl.ret (.int 30)) (ρ := [some y3, some (.int (((v1 : Int) - 1000) * m))]) (ρ1 := [none, some (.int (((v1 : Int) - 1000) * m))]) (l := 30) k3 (by rfl) (by rfl) (by decide) (by decide)
  simp only [List.set_cons_zero] at e3 e4
  obtain ⟨p, q, hL, hp, hq, er⟩ := lratio_low (p := ((v1 : Int) - 1000) * m + v3) (q := 1 + v4) (by omega) (by omega)
  have hP : (((v1 : Int) - 1000) * m).natAbs ≤ 1001 * 100000000000000000000 := by
    rw [Int.natAbs_mul]
    exact Nat.mul_le_mul (by omega) (by omega)
  refine ⟨y4, p, q, k4, hL, by omega, by omega, ?_⟩
  have e112 : b__law_big_112 L_next L_pick L_ratio [some y2, some (.int (((v1 : Int) - 1000) * m))] = some (.ok (.rt (nD p q)) [some y4, some (.int (((v1 : Int) - 1000) * m))]) := by
    unfold b__law_big_112
    have ea : mCons (mOp dAdd (mVar 1) (mCl0 [.io 0, .v .sh] L_next (mCons (mMov 0) (mCons (Dl.ret (.int 3)) mNil)))) (mCons (mOp dAdd (Dl.ret (.int 1)) (mCl0 [.io 0, .v .sh] L_next (mCons (mMov 0) (mCons (Dl.ret (.int 30)) mNil)))) mNil) [some y2, some (.int (((v1 : Int) - 1000) * m))] = some (.ok [.int (((v1 : Int) - 1000) * m + v3), .int (1 + v4)] [some y4, some (.int (((v1 : Int) - 1000) * m))]) := by
      rw [mCons_ap, bnd_ap, mOp_ap, bnd_ap, mVar_ap]
      simp only [List.getElem?_cons_succ, List.getElem?_cons_zero]
      rw [bnd_ok e3, lft_ap, dAdd_i]
      dsimp only
      rw [bnd_ap, mCons_ap, bnd_ap, mOp_ap, bnd_ap, ret_ap]
      dsimp only
      rw [bnd_ok e4, lft_ap, dAdd_i]
      rfl
    exact bnd_ret (mCl0_ok ea er)
  unfold L_big bodyF0 b__law_big
  rw [show [x].map some ++ List.replicate (2 - [x].length) none = [some x, none] from rfl]
  rw [mSeq_ok e111, e112]
  rfl
end P00
namespace P00
open PySem L2 Dl Wk
local macro_rules | `(tactic| walk_at "ev") => `(tactic| simp (disch := omega) only [mSeq_ap, mVar_ap, mMov_ap, mTk_ap, mFz_ap, mRead_ap, mReadU_ap, mScal_ap, mOp_ap, mUn_ap, mPair_ap, bnd_ap, lft_ap, ret_ap, mCons_ap, mNil_ap, mCall_ap, mCl0_ap, backIo, mIf_ap, mAnd_ap, mOr_ap, mNot_ap, mAndV_ap, mOrV_ap, mNotV_ap, mChain_ap, mAsg_ap, gtName, gtScal, gtAny, gtSub, gtTup, gtCons, gtNil, mSkip_ap, mApp_ap, mPop_ap, popIx, mLen_ap, ixP, anyItems, shItems, getP, setP, mDisp_ap, mPopV_ap, mScl1_ap, scal1, bAbs, kid, putKid, shOf, unsh_non, unsh_bl, unsh_int, unsh_str, unsh_lst, unsh_tup, unsh_frl, unsh_shd, ite_lim, isShd_non, isShd_bl, isShd_int, isShd_str, isShd_lst, isShd_tup, isShd_frl, isShd_shd, dLst_nil, dTup_nil, toNat_lit, dTup_1, dTup_2, dTup_3, dTup_4, dTup_5, dLst_1, dLst_2, dLst_3, dLst_4, dLst_5, Dl.scal, dTr, dBool, dIs, dIsNot, Dl.isNon, dItems, dPart, dSl, bLen, bInt, bList, bTuple, dMul_i, dMul_b, dFdiv_i, dMod_i, dAdd_i, dSub_i, dLt_i, dLe_i, dGt_i, dGe_i, dEq_i, dNe_i, dEq_bl, dTup_c, dLst_c, mRng_ap, dRng_n, dRng1, rgC_map, Int.toNat_natCast, maskIo_nil, bIsi_bool, bIsi_int, bIsi_str, bIsi_dict, bIsi_list, bIsi_tuple, isiD, wipeD, dAdd_l, dAdd_t, dIx_l, dIx_t, ixN_nat, ixN_of, nat_cast_div, nat_cast_mod, nat_cast_mul, nat_cast_add, nat_add_lit, lit_add_nat, nat_mul_lit, lit_mul_nat, nat_div_lit, nat_mod_lit, nat_sub_lit, nat_lt, nat_le, nat_eq, nat_lt_lit, lit_lt_nat, nat_le_lit, lit_le_nat, dRng_two, nat_cast_sub, dRng3, bMin_n, List.length_map, List.length_set, lim,
  Option.bind_some, Option.map_some, List.getElem?_cons_zero, List.getElem?_cons_succ, List.set_cons_zero, List.set_cons_succ, List.length_cons, List.length_nil, reduceIte, Bool.false_eq_true, decide_eq_true_eq, Nat.reduceAdd, List.map_cons, List.map_nil, List.cons_append, List.nil_append, Nat.reduceSub, Nat.reduceLeDiff, List.replicate_succ, List.replicate_zero, Nat.zero_add, Bool.not_true, Bool.not_false, Bool.or_false, Bool.false_or, Bool.or_true, Bool.true_or, reduceCtorEq, decide_false, decide_true, beq_self_eq_true, List.isEmpty_cons, List.isEmpty_nil])

def L_less := bodyF0 6 [] (b__law_less L_two)
def F_least := bodyF0 3 [] (b_least F_less)
def F_gr := bodyF0 2 [] (b_greatest F_minus F_least)
def nP (x : Int × Int) : D := nD x.1 x.2
def NumOk (x : Int × Int) : Prop := Low x.1 x.2 ∧ Sm x.1 ∧ Sm x.2
def ltP (x y : Int × Int) : Prop := x.1 * y.2 < y.1 * x.2
instance (x y : Int × Int) : Decidable (ltP x y) := inferInstanceAs (Decidable (_ < _))
theorem lless_t {x y : Int × Int} (hx : NumOk x) (hy : NumOk y) : L_less [nP x, nP y] = some (.ok (.bl (decide (ltP x y))) [none, none]) := by
  have k1 := hx.2.1.big
  have k2 := hx.2.2.big
  have k3 := hy.2.1.big
  have k4 := hy.2.2.big
  unfold L_less bodyF0 b__law_less nP
  walk_at "ev"
  rw [two_t]
  walk_at "ev"
  rw [two_t]
  walk_at "ev"
  rfl
theorem lessP_t {x y : Int × Int} (hx : NumOk x) (hy : NumOk y) : F_less [nP x, nP y] = some (.ok (.bl (decide (ltP x y))) [none, none]) :=
  less_t hx.1.1 hy.1 hx.2.1 hx.2.2 hy.2.1 hy.2.2
def pickLow (f x : Int × Int) : Int × Int := if ltP x f then x else f
theorem least_t {x : Int × Int} {xs : List (Int × Int)} (hx : NumOk x) (hs : ∀ y ∈ xs, NumOk y) (hl : xs.length < 1000) : F_least [.lst ((x :: xs).map nP)] = some (.ok (nP (xs.foldl pickLow x)) [none]) := by
  have e54 : ∃ ρ', b_least_54 F_less [some (.lst ((x :: xs).map nP)), some (nP x), none] = some (.ok .nx ρ') ∧ (NumOk (xs.foldl pickLow x) ∧ ∃ z, ρ' = [some (.lst ((x :: xs).map nP)), some (nP (xs.foldl pickLow x)), z]) := by
    unfold b_least_54
    refine mFor_fd (fun (f : Int × Int) ρ => NumOk f ∧ ∃ z, ρ = [some (.lst ((x :: xs).map nP)), some (nP f), z]) nP pickLow xs x ?_ ⟨hx, _, rfl⟩ fun f y ρ hy ⟨hf, z, hr⟩ => ?_
    · have hc : cutD ((x :: xs).map nP) (some 1) none = xs.map nP := by
        have := HT.sIx_nat ((x :: xs).map nP).length 0 1
        unfold cutD
        rw [HT.sIx_none, show (some 1 : Option Int) = some ((1 : Nat) : Int) from rfl, this]
        simp
        rw [List.take_of_length_le (by simp)]
      rw [← hc]
      rfl
    · subst hr
      have e : mCl0 [.v .sh, .v .sh] F_less (mCons (mVar 2) (mCons (mVar 1) mNil)) [some (.lst ((x :: xs).map nP)), some (nP f), some (nP y)] = some (.ok (.bl (decide (ltP y f))) [some (.lst ((x :: xs).map nP)), some (nP f), some (nP y)]) := mCl0_ok (ρ1 := [some (.lst ((x :: xs).map nP)), some (nP f), some (nP y)]) (by rfl) (lessP_t (hs y hy) hf)
      have e2 : b_least_55 F_less [some (.lst ((x :: xs).map nP)), some (nP f), some (nP y)] = some (.ok .nx [some (.lst ((x :: xs).map nP)), some (nP (pickLow f y)), some (nP y)]) := by
        unfold b_least_55 b_least_56 pickLow
        rw [mIf_ap, bnd_ap, bnd_ok e]
        by_cases h : ltP y f
        · rw [decide_eq_true h, if_pos h]
          rfl
        · rw [decide_eq_false h, if_neg h]
          rfl
      refine for_nx (by rfl) e2 ⟨?_, _, rfl⟩
      unfold pickLow
      split
      · exact hs y hy
      · exact hf
  obtain ⟨ρ', e, _, z, rfl⟩ := e54
  have e53 : b_least_53 F_less [some (.lst ((x :: xs).map nP)), none, none] = some (.ok .nx [some (.lst ((x :: xs).map nP)), some (nP x), none]) := by
    have e0 : dIx (.lst ((x :: xs).map nP)) (.int 0) = some (nP x) := dIx_l (xs := (x :: xs).map nP) (i := 0) (by simp)
    unfold b_least_53
    rw [mAsg_ap, bnd_ap, mOp_ap, bnd_ap, mVar_ap]
    simp only [List.getElem?_cons_zero]
    rw [bnd_ap, ret_ap]
    dsimp only
    rw [lft_ap, e0]
    rfl
  unfold F_least
  exact bodyF0_ok (ds := [.lst ((x :: xs).map nP)]) (by rfl) ((mSeq_ok e53).trans ((mSeq_ok e).trans (by rfl)))
def negP (x : Int × Int) : Int × Int := (0 - x.1, x.2)
theorem NumOk.neg {x : Int × Int} (h : NumOk x) : NumOk (negP x) := ⟨h.1.neg, h.2.1.neg, h.2.2⟩
theorem negP_negP (x : Int × Int) : negP (negP x) = x := by
  unfold negP
  ext
  · show 0 - (0 - x.1) = x.1; omega
  · rfl
theorem ltP_neg (x y : Int × Int) : ltP (negP x) (negP y) ↔ ltP y x := by
  unfold ltP negP
  dsimp only
  rw [Int.sub_mul, Int.sub_mul, Int.zero_mul, Int.zero_mul]
  omega
def pickHigh (f x : Int × Int) : Int × Int := if ltP f x then x else f
theorem fold_neg : ∀ (xs : List (Int × Int)) (x : Int × Int), (xs.map negP).foldl pickLow (negP x) = negP (xs.foldl pickHigh x)
  | [], x => rfl
  | y :: xs, x => by
    rw [List.map_cons, List.foldl_cons, List.foldl_cons, ← fold_neg xs]
    congr 1
    unfold pickLow pickHigh
    by_cases h : ltP x y
    · rw [if_pos h, if_pos ((ltP_neg y x).mpr h)]
    · rw [if_neg h, if_neg fun q => h ((ltP_neg y x).mp q)]
theorem fold_ok : ∀ (xs : List (Int × Int)) (x : Int × Int), NumOk x → (∀ y ∈ xs, NumOk y) → NumOk (xs.foldl pickHigh x)
  | [], x, h, _ => h
  | y :: xs, x, h, hs => fold_ok xs _ (by
    unfold pickHigh
    split
    · exact hs y List.mem_cons_self
    · exact h) fun z hz => hs z (List.mem_cons_of_mem _ hz)
theorem minusP {x : Int × Int} (h : NumOk x) : F_minus [nP x] = some (.ok (nP (negP x)) [none]) := minus_t h.1 h.2.2
theorem great_t {x : Int × Int} {xs : List (Int × Int)} (hx : NumOk x) (hs : ∀ y ∈ xs, NumOk y) (hl : xs.length < 1000) : F_gr [.lst ((x :: xs).map nP)] = some (.ok (nP (xs.foldl pickHigh x)) [none]) := by
  have hall : ∀ y ∈ x :: xs, NumOk y := fun y hy => by
    rcases List.mem_cons.mp hy with rfl | hy
    · exact hx
    · exact hs y hy
  have e1 : mLc (bnd (mVar 0) fun d => lft (dItems d)) [1] (gtName 1) (Dl.ret true) (mCl0 [.v .sh] F_minus (mCons (mVar 1) mNil)) [some (.lst ((x :: xs).map nP)), none] = some (.ok (.lst ((negP x :: xs.map negP).map nP)) [some (.lst ((x :: xs).map nP)), none]) := by
    have := mLc_mp (fi := bnd (mVar 0) fun d => lft (dItems d)) (vs := [1]) (gt := gtName 1) (fe := mCl0 [.v .sh] F_minus (mCons (mVar 1) mNil)) (ρ := [some (.lst ((x :: xs).map nP)), none]) nP (fun y => nP (negP y)) (x :: xs) (by rfl) (by rfl) (by simp; omega) fun y hy => lc_step (by rfl) (mCl0_ok (ρ1 := [some (.lst ((x :: xs).map nP)), some (nP y)]) (by rfl) (minusP (hall y hy))) (by rfl)
    rw [this]
    simp
    rfl
  have e2 := least_t (x := negP x) (xs := xs.map negP) hx.neg (fun y hy => by
    obtain ⟨z, hz, rfl⟩ := List.mem_map.mp hy
    exact (hs z hz).neg) (by rw [List.length_map]; exact hl)
  rw [fold_neg] at e2
  have e3 := minusP (fold_ok xs x hx hs).neg
  rw [negP_negP] at e3
  have ea : mCl0 [.v .sh] F_least (mCons (mLc (bnd (mVar 0) fun d => lft (dItems d)) [1] (gtName 1) (Dl.ret true) (mCl0 [.v .sh] F_minus (mCons (mVar 1) mNil))) mNil) [some (.lst ((x :: xs).map nP)), none] = some (.ok (nP (negP (xs.foldl pickHigh x))) [some (.lst ((x :: xs).map nP)), none]) := by
    refine mCl0_ok (ρ1 := [some (.lst ((x :: xs).map nP)), none]) ?_ e2
    rw [mCons_ap, bnd_ok e1]
    rfl
  unfold F_gr
  refine bodyF0_ok (ds := [.lst ((x :: xs).map nP)]) (ρ := [some (.lst ((x :: xs).map nP)), none]) (by rfl) ?_
  unfold b_greatest b_greatest_59
  refine bnd_ret (mCl0_ok (ρ1 := [some (.lst ((x :: xs).map nP)), none]) ?_ e3)
  show _ = some (Rs.ok _ _)
  rw [mCons_ap, show List.map some [D.lst (List.map nP (x :: xs))] ++ List.replicate (2 - [D.lst (List.map nP (x :: xs))].length) none = [some (.lst ((x :: xs).map nP)), none] from rfl, bnd_ok ea]
  rfl
end P00
namespace P00
open PySem L2 Dl Wk
local macro_rules | `(tactic| walk_at "ev") => `(tactic| simp (disch := omega) only [mSeq_ap, mVar_ap, mMov_ap, mTk_ap, mFz_ap, mRead_ap, mReadU_ap, mScal_ap, mOp_ap, mUn_ap, mPair_ap, bnd_ap, lft_ap, ret_ap, mCons_ap, mNil_ap, mCall_ap, mCl0_ap, backIo, mIf_ap, mAnd_ap, mOr_ap, mNot_ap, mAndV_ap, mOrV_ap, mNotV_ap, mChain_ap, mAsg_ap, gtName, gtScal, gtAny, gtSub, gtTup, gtCons, gtNil, mSkip_ap, mApp_ap, mPop_ap, popIx, mLen_ap, ixP, anyItems, shItems, getP, setP, mDisp_ap, mPopV_ap, mScl1_ap, scal1, bAbs, kid, putKid, shOf, unsh_non, unsh_bl, unsh_int, unsh_str, unsh_lst, unsh_tup, unsh_frl, unsh_shd, ite_lim, isShd_non, isShd_bl, isShd_int, isShd_str, isShd_lst, isShd_tup, isShd_frl, isShd_shd, dLst_nil, dTup_nil, toNat_lit, dTup_1, dTup_2, dTup_3, dTup_4, dTup_5, dLst_1, dLst_2, dLst_3, dLst_4, dLst_5, Dl.scal, dTr, dBool, dIs, dIsNot, Dl.isNon, dItems, dPart, dSl, bLen, bInt, bList, bTuple, dMul_i, dMul_b, dFdiv_i, dMod_i, dAdd_i, dSub_i, dLt_i, dLe_i, dGt_i, dGe_i, dEq_i, dNe_i, dEq_bl, dTup_c, dLst_c, mRng_ap, dRng_n, dRng1, rgC_map, Int.toNat_natCast, maskIo_nil, bIsi_bool, bIsi_int, bIsi_str, bIsi_dict, bIsi_list, bIsi_tuple, isiD, wipeD, dAdd_l, dAdd_t, dIx_l, dIx_t, ixN_nat, ixN_of, nat_cast_div, nat_cast_mod, nat_cast_mul, nat_cast_add, nat_add_lit, lit_add_nat, nat_mul_lit, lit_mul_nat, nat_div_lit, nat_mod_lit, nat_sub_lit, nat_lt, nat_le, nat_eq, nat_lt_lit, lit_lt_nat, nat_le_lit, lit_le_nat, dRng_two, nat_cast_sub, dRng3, bMin_n, List.length_map, List.length_set, lim,
  Option.bind_some, Option.map_some, List.getElem?_cons_zero, List.getElem?_cons_succ, List.set_cons_zero, List.set_cons_succ, List.length_cons, List.length_nil, reduceIte, Bool.false_eq_true, decide_eq_true_eq, Nat.reduceAdd, List.map_cons, List.map_nil, List.cons_append, List.nil_append, Nat.reduceSub, Nat.reduceLeDiff, List.replicate_succ, List.replicate_zero, Nat.zero_add, Bool.not_true, Bool.not_false, Bool.or_false, Bool.false_or, Bool.or_true, Bool.true_or, reduceCtorEq, decide_false, decide_true, beq_self_eq_true, List.isEmpty_cons, List.isEmpty_nil])

def L_same : Nat → List D → Option (Rs D)
  | 0 => fun _ => none
  | n + 1 => bodyF0 4 [] (b__law_same (L_same n))
/-- trees of numbers, truths and nothing, to a depth -/
def Dt : Nat → D → Prop
  | 0, d => d = .non ∨ (∃ i, d = .int i) ∨ ∃ b, d = .bl b
  | n + 1, d => (d = .non ∨ (∃ i, d = .int i) ∨ ∃ b, d = .bl b) ∨ ∃ xs, (d = .lst xs ∨ d = .tup xs) ∧ xs.length ≤ 16777216 ∧ ∀ x ∈ xs, Dt n x
theorem same_b (n : Nat) (a b : Bool) : L_same (n + 1) [.bl a, .bl b] = some (.ok (.bl (a == b)) [none, none]) := by
  unfold L_same bodyF0 b__law_same
  walk_at "ev"
theorem same_i (n : Nat) (i j : Int) : L_same (n + 1) [.int i, .int j] = some (.ok (.bl (i == j)) [none, none]) := by
  unfold L_same bodyF0 b__law_same
  walk_at "ev"
theorem same_n (n : Nat) : L_same (n + 1) [.non, .non] = some (.ok (.bl true) [none, none]) := by
  unfold L_same bodyF0 b__law_same
  walk_at "ev"
theorem same_it (n : Nat) (i : Int) (xs : List D) : L_same (n + 1) [.int i, .tup xs] = some (.ok (.bl false) [none, none]) := by
  unfold L_same bodyF0 b__law_same
  walk_at "ev"
theorem same_l (n : Nat) (xs : List D) (hl : xs.length ≤ 16777216) (h : ∀ x ∈ xs, L_same (n + 1) [x, x] = some (.ok (.bl true) [none, none])) : L_same (n + 2) [.lst xs, .lst xs] = some (.ok (.bl true) [none, none]) := by
  unfold L_same bodyF0 b__law_same
  walk_at "ev"
  rw [mLc_mp (fun i : Nat => .int i) (fun _ => .bl true) (List.range xs.length)]
  · walk_at "ev"
    rw [bAll_true (by simp)]
  · walk_at "ev"
  · rfl
  · simpa using hl
  · intro i hi
    have hi : i < xs.length := List.mem_range.mp hi
    refine lc_step (by rfl) (by
      walk_at "ev"
      rw [h _ (List.getElem_mem _)]) (by rfl)
theorem bAll_map (f : Nat → Bool) (xs : List Nat) : bAll [.lst (xs.map fun i => .bl (f i))] = some (.bl (xs.all f)) := by
  have : ∀ xs : List Nat, boolsD (xs.map fun i => D.bl (f i)) = some (xs.map f) := fun xs => by
    induction xs with
    | nil => rfl
    | cons x xs ih =>
      rw [List.map_cons]
      unfold boolsD
      rw [ih]; rfl
  show (boolsD _).map _ = _
  rw [this]
  simp
theorem same_tt (n : Nat) (xs ys : List D) (f : Nat → Bool) (hl : xs.length = ys.length) (hs : xs.length ≤ 16777216) (h : ∀ (i : Nat) (h1 : i < xs.length) (h2 : i < ys.length), L_same (n + 1) [xs[i], ys[i]] = some (.ok (.bl (f i)) [none, none])) : L_same (n + 2) [.tup xs, .tup ys] = some (.ok (.bl ((List.range ys.length).all f)) [none, none]) := by
  unfold L_same bodyF0 b__law_same
  walk_at "ev"
  rw [hl]
  walk_at "ev"
  rw [mLc_mp (fun i : Nat => .int i) (fun i => .bl (f i)) (List.range ys.length)]
  · walk_at "ev"
    rw [bAll_map]
  · walk_at "ev"
  · rfl
  · simp; omega
  · intro i hi
    have hi : i < ys.length := List.mem_range.mp hi
    have hi2 : i < xs.length := by omega
    refine lc_step (by rfl) (by
      walk_at "ev"
      rw [h i hi2 hi]) (by rfl)
end P00
namespace P00
open PySem L2 Dl Wk
local macro_rules | `(tactic| walk_at "ev") => `(tactic| simp (disch := omega) only [mSeq_ap, mVar_ap, mMov_ap, mTk_ap, mFz_ap, mRead_ap, mReadU_ap, mScal_ap, mOp_ap, mUn_ap, mPair_ap, bnd_ap, lft_ap, ret_ap, mCons_ap, mNil_ap, mCall_ap, mCl0_ap, backIo, mIf_ap, mAnd_ap, mOr_ap, mNot_ap, mAndV_ap, mOrV_ap, mNotV_ap, mChain_ap, mAsg_ap, gtName, gtScal, gtAny, gtSub, gtTup, gtCons, gtNil, mSkip_ap, mApp_ap, mPop_ap, popIx, mLen_ap, ixP, anyItems, shItems, getP, setP, mDisp_ap, mPopV_ap, mScl1_ap, scal1, bAbs, kid, putKid, shOf, unsh_non, unsh_bl, unsh_int, unsh_str, unsh_lst, unsh_tup, unsh_frl, unsh_shd, ite_lim, isShd_non, isShd_bl, isShd_int, isShd_str, isShd_lst, isShd_tup, isShd_frl, isShd_shd, dLst_nil, dTup_nil, toNat_lit, dTup_1, dTup_2, dTup_3, dTup_4, dTup_5, dLst_1, dLst_2, dLst_3, dLst_4, dLst_5, Dl.scal, dTr, dBool, dIs, dIsNot, Dl.isNon, dItems, dPart, dSl, bLen, bInt, bList, bTuple, dMul_i, dMul_b, dFdiv_i, dMod_i, dAdd_i, dSub_i, dLt_i, dLe_i, dGt_i, dGe_i, dEq_i, dNe_i, dEq_bl, dTup_c, dLst_c, mRng_ap, dRng_n, dRng1, rgC_map, Int.toNat_natCast, maskIo_nil, bIsi_bool, bIsi_int, bIsi_str, bIsi_dict, bIsi_list, bIsi_tuple, isiD, wipeD, dAdd_l, dAdd_t, dIx_l, dIx_t, ixN_nat, ixN_of, nat_cast_div, nat_cast_mod, nat_cast_mul, nat_cast_add, nat_add_lit, lit_add_nat, nat_mul_lit, lit_mul_nat, nat_div_lit, nat_mod_lit, nat_sub_lit, nat_lt, nat_le, nat_eq, nat_lt_lit, lit_lt_nat, nat_le_lit, lit_le_nat, dRng_two, nat_cast_sub, dRng3, bMin_n, List.length_map, List.length_set, lim,
  Option.bind_some, Option.map_some, List.getElem?_cons_zero, List.getElem?_cons_succ, List.set_cons_zero, List.set_cons_succ, List.length_cons, List.length_nil, reduceIte, Bool.false_eq_true, decide_eq_true_eq, Nat.reduceAdd, List.map_cons, List.map_nil, List.cons_append, List.nil_append, Nat.reduceSub, Nat.reduceLeDiff, List.replicate_succ, List.replicate_zero, Nat.zero_add, Bool.not_true, Bool.not_false, Bool.or_false, Bool.false_or, Bool.or_true, Bool.true_or, reduceCtorEq, decide_false, decide_true, beq_self_eq_true, List.isEmpty_cons, List.isEmpty_nil])

def F_isn := bodyF0 2 [] (b_is_number F_div)
theorem isn_int (i : Int) : F_isn [.int i] = some (.ok (.bl true) [none]) := by
  unfold F_isn
  exact bodyF0_ok (ds := [.int i]) (ρ := [some (.int i), none]) (by rfl) (by rfl)
theorem isn_bl (b : Bool) : F_isn [.bl b] = some (.ok (.bl false) [none]) := by
  unfold F_isn
  exact bodyF0_ok (ds := [.bl b]) (ρ := [some (.bl b), none]) (by rfl) (by rfl)
theorem isn_non : F_isn [.non] = some (.ok (.bl false) [none]) := by
  unfold F_isn
  exact bodyF0_ok (ds := [.non]) (ρ := [some .non, none]) (by rfl) (by rfl)
theorem isn_str (s : Str) : F_isn [.str s] = some (.ok (.bl false) [none]) := by
  unfold F_isn
  exact bodyF0_ok (ds := [.str s]) (ρ := [some (.str s), none]) (by rfl) (by rfl)
theorem isn_lst (xs : List D) : F_isn [.lst xs] = some (.ok (.bl false) [none]) := by
  unfold F_isn
  exact bodyF0_ok (ds := [.lst xs]) (ρ := [some (.lst xs), none]) (by rfl) (by rfl)
theorem isn_48 (p q : Int) : b_is_number_48 F_div [some (.tup [.int p, .int q]), none] = some (.ok .nx [some (.tup [.int p, .int q]), none]) := by rfl
theorem isn_tup {p q : Int} (hb : q.natAbs < bigN) : F_isn [.tup [.int p, .int q]] = some (.ok (.bl (decide (1 < q) && (Nat.gcd p.natAbs q.natAbs == 1))) [none]) := by
  have e50 : ∃ ρ, b_is_number_50 F_div [some (.tup [.int p, .int q]), none] = some (.ok (.rt (.bl (decide (1 < q) && (Nat.gcd p.natAbs q.natAbs == 1)))) ρ) := by
    refine ⟨[some (.tup [.int p, .int q]), none], ?_⟩
    have i0 : dIx (.tup [.int p, .int q]) (.int 0) = some (.int p) := by rfl
    have i1 : dIx (.tup [.int p, .int q]) (.int 1) = some (.int q) := by rfl
    unfold b_is_number_50
    by_cases h : 1 < q
    · have hd := div_t (a := p.natAbs) (b := q.natAbs) (Nat.lt_trans hb big_pow)
      rw [show ((q.natAbs : Nat) : Int) = q by omega, show ((p.natAbs : Nat) : Int) = if p < 0 then -p else p by split <;> omega] at hd
      walk_at "ev"
      simp only [i0, i1]
      walk_at "ev"
      simp only [i0, i1, h, decide_true]
      walk_at "ev"
      simp only [i0, i1]
      simp only [hd]
      walk_at "ev"
      rw [show (((Nat.gcd p.natAbs q.natAbs : Nat) : Int) == 1) = (Nat.gcd p.natAbs q.natAbs == 1) from nat_eq _ 1]
      simp only [Bool.true_and]
    · walk_at "ev"
      simp only [i1]
      walk_at "ev"
      simp only [h, decide_false]
      walk_at "ev"
      simp only [Bool.false_and]
  obtain ⟨ρ, e⟩ := e50
  have e47 : b_is_number_47 F_div [some (.tup [.int p, .int q]), none] = some (.ok (.rt (.bl (decide (1 < q) && (Nat.gcd p.natAbs q.natAbs == 1)))) ρ) := by
    unfold b_is_number_47
    have e1 : (bnd (mCall (bIsi .tuple) (mCons (mVar 0) (mCons (Dl.ret (.val (.ty "tuple"))) mNil))) fun d => lft (dTr d)) [some (.tup [.int p, .int q]), none] = some (Rs.ok true [some (.tup [.int p, .int q]), none]) := by rfl
    rw [mIf_ap, bnd_ap, e1]
    exact (mSeq_ok (isn_48 p q)).trans e
  unfold F_isn
  exact bodyF0_ok (ds := [.tup [.int p, .int q]]) (by rfl) (mSeq_rt e47)
theorem isn_odd1 : F_isn [.tup [.int 1, .int 2, .int 3]] = some (.ok (.bl false) [none]) := by rfl
theorem isn_odd2 : F_isn [.tup [.int 1]] = some (.ok (.bl false) [none]) := by rfl
theorem isn_odd3 : F_isn [.tup [.bl true, .int 2]] = some (.ok (.bl false) [none]) := by rfl
theorem isn_odd4 : F_isn [.tup [.int 3, .bl true]] = some (.ok (.bl false) [none]) := by rfl
end P00
namespace P00
open PySem L2 Dl Wk
local macro_rules | `(tactic| walk_at "ev") => `(tactic| simp (disch := omega) only [mSeq_ap, mVar_ap, mMov_ap, mTk_ap, mFz_ap, mRead_ap, mReadU_ap, mScal_ap, mOp_ap, mUn_ap, mPair_ap, bnd_ap, lft_ap, ret_ap, mCons_ap, mNil_ap, mCall_ap, mCl0_ap, backIo, mIf_ap, mAnd_ap, mOr_ap, mNot_ap, mAndV_ap, mOrV_ap, mNotV_ap, mChain_ap, mAsg_ap, gtName, gtScal, gtAny, gtSub, gtTup, gtCons, gtNil, mSkip_ap, mApp_ap, mPop_ap, popIx, mLen_ap, ixP, anyItems, shItems, getP, setP, kid, putKid, shOf, unsh_non, unsh_bl, unsh_int, unsh_str, unsh_lst, unsh_tup, unsh_frl, unsh_shd, ite_lim, isShd_non, isShd_bl, isShd_int, isShd_str, isShd_lst, isShd_tup, isShd_frl, isShd_shd, dLst_nil, dTup_nil, toNat_lit, dTup_1, dTup_2, dTup_3, dTup_4, dTup_5, dLst_1, dLst_2, dLst_3, dLst_4, dLst_5, Dl.scal, dTr, dBool, dIs, dIsNot, Dl.isNon, dItems, dPart, dSl, bLen, bInt, bList, bTuple, dMul_i, dFdiv_i, dMod_i, dAdd_i, dSub_i, dLt_i, dLe_i, dGt_i, dGe_i, dEq_i, dNe_i, dEq_bl, dTup_c, dLst_c, mRng_ap, dRng1, rgC_map, Int.toNat_natCast, maskIo_nil, bIsi_bool, bIsi_int, bIsi_str, bIsi_dict, bIsi_list, bIsi_tuple, isiD, wipeD, dAdd_l, dAdd_t, dIx_l, dIx_t, ixN_nat, ixN_of, nat_cast_div, nat_cast_mod, nat_cast_mul, nat_cast_add, nat_add_lit, lit_add_nat, nat_mul_lit, lit_mul_nat, nat_div_lit, nat_mod_lit, nat_sub_lit, nat_lt, nat_le, nat_eq, nat_lt_lit, lit_lt_nat, nat_le_lit, lit_le_nat, dRng_two, nat_cast_sub, dRng3, bMin_n, List.length_map, List.length_set, lim,
  Option.bind_some, Option.map_some, List.getElem?_cons_zero, List.getElem?_cons_succ, List.set_cons_zero, List.set_cons_succ, List.length_cons, List.length_nil, reduceIte, Bool.false_eq_true, decide_eq_true_eq, Nat.reduceAdd, List.map_cons, List.map_nil, List.cons_append, List.nil_append, Nat.reduceSub, Nat.reduceLeDiff, List.replicate_succ, List.replicate_zero, Nat.zero_add, Bool.not_true, Bool.not_false, Bool.or_false, Bool.false_or, Bool.or_true, Bool.true_or, reduceCtorEq, decide_false, decide_true, beq_self_eq_true, List.isEmpty_cons, List.isEmpty_nil])
local macro_rules | `(tactic| walk_at "wp") => `(tactic| simp (disch := omega) only [wp_seq, wp_bnd, wp_ret, wp_lft, wp_var, wp_mov, wp_fz, wp_tk, wp_pair, wp_nil, wp_cons, wp_op, wp_un, wp_call, wp_rng, wp_scal, wp_scl1, wp_if, wp_not, wp_and, wp_or, wp_ifk, wp_andV, wp_orV, wp_notV, wp_chain, wp_skip, wp_asg, wp_par, wp_par3, wp_aug, wp_read, wp_readU, wp_len, wp_app, wp_appK, wp_disp, wp_pop, wp_for, wp_while, wp_lc, wp_cl0, wp_subK, kG_sub, kB_ok, kB_ex, kL_ok, kL_ex, kC_true, kC_false, kV_some, kG_some, kR_some, kO_some, kI_ok, kS_nx, kS_rt, kS_bk, kS_ct, kA_ok, kLst_some, kApp_ok, kU_ok, kCl_ok, kBk_ok, kBd_rt, kBd_nx, kF_nx, kF_ct, kF_bk, kF_rt, kW_ok, kT_ok, kE_ok, nat_eq_lit, Nat.reduceBEq, Nat.reduceBNe, Int.reduceBEq, Int.reduceLT, Int.reduceLE, Int.reduceEq, Int.reduceNeg, Nat.reduceLT, Nat.reduceEqDiff, Bool.true_and, Bool.and_true, Bool.false_and, Bool.and_false, dNeg, dNe_bl, dIsNot,  maskIo_0, dIx_ln, dIx_tn, List.getElem_map,  mSeq_ap, mVar_ap, mMov_ap, mTk_ap, mFz_ap, mRead_ap, mReadU_ap, mScal_ap, mOp_ap, mUn_ap, mPair_ap, bnd_ap, lft_ap, ret_ap, mCons_ap, mNil_ap, mCall_ap, mCl0_ap, backIo, mIf_ap, mAnd_ap, mOr_ap, mNot_ap, mAndV_ap, mOrV_ap, mNotV_ap, mChain_ap, mAsg_ap, gtName, gtScal, gtAny, gtSub, gtTup, gtCons, gtNil, mSkip_ap, mApp_ap, mPop_ap, popIx, mLen_ap, ixP, anyItems, shItems, getP, setP, kid, putKid, shOf, unsh_non, unsh_bl, unsh_int, unsh_str, unsh_lst, unsh_tup, unsh_frl, unsh_shd, ite_lim, isShd_non, isShd_bl, isShd_int, isShd_str, isShd_lst, isShd_tup, isShd_frl, isShd_shd, dLst_nil, dTup_nil, toNat_lit, dTup_1, dTup_2, dTup_3, dTup_4, dTup_5, dLst_1, dLst_2, dLst_3, dLst_4, dLst_5, Dl.scal, dTr, dBool, dIs, dIsNot, Dl.isNon, dItems, dPart, dSl, bLen, bInt, bList, bTuple, dMul_i, dFdiv_i, dMod_i, dAdd_i, dSub_i, dLt_i, dLe_i, dGt_i, dGe_i, dEq_i, dNe_i, dEq_bl, dTup_c, dLst_c, mRng_ap, dRng1, rgC_map, Int.toNat_natCast, maskIo_nil, bIsi_bool, bIsi_int, bIsi_str, bIsi_dict, bIsi_list, bIsi_tuple, isiD, wipeD, dAdd_l, dAdd_t, dIx_l, dIx_t, ixN_nat, ixN_of, nat_cast_div, nat_cast_mod, nat_cast_mul, nat_cast_add, nat_add_lit, lit_add_nat, nat_mul_lit, lit_mul_nat, nat_div_lit, nat_mod_lit, nat_sub_lit, nat_lt, nat_le, nat_eq, nat_lt_lit, lit_lt_nat, nat_le_lit, lit_le_nat, dRng_two, nat_cast_sub, dRng3, bMin_n, List.length_map, List.length_set, lim,
  Option.bind_some, Option.map_some, List.getElem?_cons_zero, List.getElem?_cons_succ, List.set_cons_zero, List.set_cons_succ, List.length_cons, List.length_nil, reduceIte, Bool.false_eq_true, decide_eq_true_eq, Nat.reduceAdd, List.map_cons, List.map_nil, List.cons_append, List.nil_append, Nat.reduceSub, Nat.reduceLeDiff, List.replicate_succ, List.replicate_zero, Nat.zero_add, Bool.not_true, Bool.not_false, Bool.or_false, Bool.false_or, Bool.or_true, Bool.true_or, reduceCtorEq, decide_false, decide_true, beq_self_eq_true, List.isEmpty_cons, List.isEmpty_nil])
theorem big_w {x : D} {Q : Rs D → Prop} (h : DrK x) (hq : ∀ (y : D) (n : Int × Int), DrK y → NumOk n → n.1.natAbs ≤ 200000000000000000000000 → n.2 ≤ 30 → Q (.ok (nP n) [some y])) : kR (L_big [x]) Q := by
  obtain ⟨y, p, q, h1, h2, h3, h4, e⟩ := big_t h
  exact kR_of_eq e (hq y (p, q) h1 ⟨h2, by unfold Sm; omega, by unfold Sm; have := h2.1; dsimp only at this ⊢; omega⟩ h3 h4)
theorem next_w {x : D} {l : Int} {Q : Rs D → Prop} (h : DrK x) (h1 : 0 < l) (h2 : l < 1000000) (hq : ∀ (y : D) (v : Nat), DrK y → (v : Int) < l → Q (.ok (.int v) [some y, none])) : kR (L_next [x, .int l]) Q := by
  obtain ⟨y, v, h3, h4, e⟩ := next_t h h1 h2
  exact kR_of_eq e (hq y v h3 h4)
theorem pick_w {x : D} {ds : List D} {Q : Rs D → Prop} (h : DrK x) (h1 : 0 < ds.length) (h2 : ds.length < 1000000) (hq : ∀ (y : D) (v : Nat) (hv : v < ds.length), DrK y → Q (.ok ds[v] [some y, none])) : kR (L_pick [x, .lst ds]) Q := by
  obtain ⟨y, v, hv, h3, e⟩ := pick_t h h1 h2
  exact kR_of_eq e (hq y v hv h3)
theorem two_p (n : Int × Int) : L_two [nP n] = some (.ok (.tup [.int n.1, .int n.2]) [none]) := two_t
theorem isShd_drk {x : D} (h : DrK x) : isShd x = false := h.shd
theorem same_refl : ∀ (n : Nat) (d : D), Dt n d → L_same (n + 1) [d, d] = some (.ok (.bl true) [none, none])
  | 0, d, h => by
    rcases h with rfl | ⟨i, rfl⟩ | ⟨b, rfl⟩
    · exact same_n 0
    · rw [same_i]; simp
    · rw [same_b]; simp
  | n + 1, d, h => by
    rcases h with (rfl | ⟨i, rfl⟩ | ⟨b, rfl⟩) | ⟨xs, rfl | rfl, h1, h2⟩
    · exact same_n _
    · rw [same_i]; simp
    · rw [same_b]; simp
    · exact same_l n xs h1 fun x hx => same_refl n x (h2 x hx)
    · rw [same_tt n xs xs (fun _ => true) rfl h1 fun i h3 _ => same_refl n _ (h2 _ (List.getElem_mem h3))]
      simp
theorem Dt.up : ∀ {n : Nat} {d : D}, Dt n d → Dt (n + 1) d
  | 0, _, h => .inl h
  | n + 1, _, .inl h => .inl h
  | n + 1, _, .inr ⟨xs, a, b, c⟩ => .inr ⟨xs, a, b, fun x hx => (c x hx).up⟩
theorem Dt.int (n : Nat) (i : Int) : Dt n (.int i) := by cases n <;> simp [Dt]
theorem Dt.bl (n : Nat) (i : Bool) : Dt n (.bl i) := by cases n <;> simp [Dt]
theorem Dt.nD (p q : Int) : Dt 1 (nD p q) := by
  unfold P00.nD
  split
  · exact Dt.int _ _
  · refine .inr ⟨_, .inr rfl, by simp, fun x hx => ?_⟩
    simp at hx
    rcases hx with rfl | rfl <;> exact Dt.int _ _
theorem Dt.rat (p q : Int) : Dt 1 (ratD p q) := by
  unfold ratD
  split <;> exact Dt.nD _ _
theorem Dt.l4 {n : Nat} {a b c d : D} (h1 : Dt n a) (h2 : Dt n b) (h3 : Dt n c) (h4 : Dt n d) : Dt (n + 1) (.lst [a, b, c, d]) := .inr ⟨_, .inl rfl, by simp, fun x hx => by
  simp at hx
  rcases hx with rfl | rfl | rfl | rfl <;> assumption⟩
theorem Dt.l2 {n : Nat} {a b : D} (h1 : Dt n a) (h2 : Dt n b) : Dt (n + 1) (.lst [a, b]) := .inr ⟨_, .inl rfl, by simp, fun x hx => by
  simp at hx
  rcases hx with rfl | rfl <;> assumption⟩
theorem Dt.to {n m : Nat} {d : D} (h : Dt n d) (hm : n ≤ m) : Dt m d := by
  induction hm with
  | refl => exact h
  | step _ ih => exact ih.up
theorem same7 {d : D} (h : Dt 3 d) : L_same 7 [d, d] = some (.ok (.bl true) [none, none]) := same_refl 6 d (h.to (by decide))
def c_114 : Mr Fl := b_law_114 L_draws L_big L_two L_ratio (L_same 7) F_add F_sub F_mul F_minus F_dv F_sign F_less F_floor F_ceil F_round F_cut L_next L_less F_least F_gr L_pick F_ratio F_isn
def c_116 : Mr Fl := b_law_116 L_draws L_big L_two L_ratio (L_same 7) F_add F_sub F_mul F_minus F_dv F_sign F_less F_floor F_ceil F_round F_cut L_next L_less F_least F_gr L_pick F_ratio F_isn
def c_117 : Mr Fl := b_law_117 L_draws L_big L_two L_ratio (L_same 7) F_add F_sub F_mul F_minus F_dv F_sign F_less F_floor F_ceil F_round F_cut L_next L_less F_least F_gr L_pick F_ratio F_isn
def c_118 : Mr Fl := b_law_118 L_draws L_big L_two L_ratio (L_same 7) F_add F_sub F_mul F_minus F_dv F_sign F_less F_floor F_ceil F_round F_cut L_next L_less F_least F_gr L_pick F_ratio F_isn
def c_119 : Mr Fl := b_law_119 L_draws L_big L_two L_ratio (L_same 7) F_add F_sub F_mul F_minus F_dv F_sign F_less F_floor F_ceil F_round F_cut L_next L_less F_least F_gr L_pick F_ratio F_isn
def c_120 : Mr Fl := b_law_120 L_draws L_big L_two L_ratio (L_same 7) F_add F_sub F_mul F_minus F_dv F_sign F_less F_floor F_ceil F_round F_cut L_next L_less F_least F_gr L_pick F_ratio F_isn
def c_122 : Mr Fl := b_law_122 L_draws L_big L_two L_ratio (L_same 7) F_add F_sub F_mul F_minus F_dv F_sign F_less F_floor F_ceil F_round F_cut L_next L_less F_least F_gr L_pick F_ratio F_isn
def c_124 : Mr Fl := b_law_124 L_draws L_big L_two L_ratio (L_same 7) F_add F_sub F_mul F_minus F_dv F_sign F_less F_floor F_ceil F_round F_cut L_next L_less F_least F_gr L_pick F_ratio F_isn
def c_126 : Mr Fl := b_law_126 L_draws L_big L_two L_ratio (L_same 7) F_add F_sub F_mul F_minus F_dv F_sign F_less F_floor F_ceil F_round F_cut L_next L_less F_least F_gr L_pick F_ratio F_isn
def c_127 : Mr Fl := b_law_127 L_draws L_big L_two L_ratio (L_same 7) F_add F_sub F_mul F_minus F_dv F_sign F_less F_floor F_ceil F_round F_cut L_next L_less F_least F_gr L_pick F_ratio F_isn
def c_128 : Mr Fl := b_law_128 L_draws L_big L_two L_ratio (L_same 7) F_add F_sub F_mul F_minus F_dv F_sign F_less F_floor F_ceil F_round F_cut L_next L_less F_least F_gr L_pick F_ratio F_isn
def c_129 : Mr Fl := b_law_129 L_draws L_big L_two L_ratio (L_same 7) F_add F_sub F_mul F_minus F_dv F_sign F_less F_floor F_ceil F_round F_cut L_next L_less F_least F_gr L_pick F_ratio F_isn
def c_131 : Mr Fl := b_law_131 L_draws L_big L_two L_ratio (L_same 7) F_add F_sub F_mul F_minus F_dv F_sign F_less F_floor F_ceil F_round F_cut L_next L_less F_least F_gr L_pick F_ratio F_isn
def c_132 : Mr Fl := b_law_132 L_draws L_big L_two L_ratio (L_same 7) F_add F_sub F_mul F_minus F_dv F_sign F_less F_floor F_ceil F_round F_cut L_next L_less F_least F_gr L_pick F_ratio F_isn
def c_133 : Mr Fl := b_law_133 L_draws L_big L_two L_ratio (L_same 7) F_add F_sub F_mul F_minus F_dv F_sign F_less F_floor F_ceil F_round F_cut L_next L_less F_least F_gr L_pick F_ratio F_isn
def c_136 : Mr Fl := b_law_136 L_draws L_big L_two L_ratio (L_same 7) F_add F_sub F_mul F_minus F_dv F_sign F_less F_floor F_ceil F_round F_cut L_next L_less F_least F_gr L_pick F_ratio F_isn
def c_138 : Mr Fl := b_law_138 L_draws L_big L_two L_ratio (L_same 7) F_add F_sub F_mul F_minus F_dv F_sign F_less F_floor F_ceil F_round F_cut L_next L_less F_least F_gr L_pick F_ratio F_isn
def c_139 : Mr Fl := b_law_139 L_draws L_big L_two L_ratio (L_same 7) F_add F_sub F_mul F_minus F_dv F_sign F_less F_floor F_ceil F_round F_cut L_next L_less F_least F_gr L_pick F_ratio F_isn
def c_141 : Mr Fl := b_law_141 L_draws L_big L_two L_ratio (L_same 7) F_add F_sub F_mul F_minus F_dv F_sign F_less F_floor F_ceil F_round F_cut L_next L_less F_least F_gr L_pick F_ratio F_isn
def c_142 : Mr Fl := b_law_142 L_draws L_big L_two L_ratio (L_same 7) F_add F_sub F_mul F_minus F_dv F_sign F_less F_floor F_ceil F_round F_cut L_next L_less F_least F_gr L_pick F_ratio F_isn
def c_143 : Mr Fl := b_law_143 L_draws L_big L_two L_ratio (L_same 7) F_add F_sub F_mul F_minus F_dv F_sign F_less F_floor F_ceil F_round F_cut L_next L_less F_least F_gr L_pick F_ratio F_isn
def c_144 : Mr Fl := b_law_144 L_draws L_big L_two L_ratio (L_same 7) F_add F_sub F_mul F_minus F_dv F_sign F_less F_floor F_ceil F_round F_cut L_next L_less F_least F_gr L_pick F_ratio F_isn
def c_146 : Mr Fl := b_law_146 L_draws L_big L_two L_ratio (L_same 7) F_add F_sub F_mul F_minus F_dv F_sign F_less F_floor F_ceil F_round F_cut L_next L_less F_least F_gr L_pick F_ratio F_isn
def c_148 : Mr Fl := b_law_148 L_draws L_big L_two L_ratio (L_same 7) F_add F_sub F_mul F_minus F_dv F_sign F_less F_floor F_ceil F_round F_cut L_next L_less F_least F_gr L_pick F_ratio F_isn
theorem same_w {x d : D} {Q : Rs D → Prop} (h : Dt 3 d) (e : x = d) (hq : Q (.ok (.bl true) [none, none])) : kR (L_same 7 [x, d]) Q := by
  subst e
  exact kR_of_eq (same7 h) hq
theorem Dt.l {n : Nat} {xs : List D} (h : xs.length ≤ 16777216) (h2 : ∀ x ∈ xs, Dt n x) : Dt (n + 1) (.lst xs) := .inr ⟨xs, .inl rfl, h, h2⟩
theorem Dt.t {n : Nat} {xs : List D} (h : xs.length ≤ 16777216) (h2 : ∀ x ∈ xs, Dt n x) : Dt (n + 1) (.tup xs) := .inr ⟨xs, .inr rfl, h, h2⟩
theorem sgn_eq (p : Int) : sgn p = (if 0 < p then 1 else 0) - if p < 0 then 1 else 0 := by
  unfold sgn PyProof.Rows.b2i
  simp only [decide_eq_true_eq]
/-- a drawn number -/
structure Bn (n : Int × Int) : Prop where
  ok : NumOk n
  a : n.1.natAbs ≤ 200000000000000000000000
  b : n.2 ≤ 30
theorem Bn.pos {n : Int × Int} (h : Bn n) : 0 < n.2 := h.ok.1.1
local macro_rules | `(tactic| walk_at "wq") => `(tactic| simp (disch := first | with_reducible assumption | omega | (simp only [List.length_cons, List.length_nil, List.length_map, List.length_append, List.length_range, List.length_replicate]; omega)) only [dMul_b, isShd_drk, two_p, wp_seq, wp_bnd, wp_ret, wp_lft, wp_var, wp_mov, wp_fz, wp_tk, wp_pair, wp_nil, wp_cons, wp_op, wp_un, wp_call, wp_rng, wp_scal, wp_scl1, wp_if, wp_not, wp_and, wp_or, wp_ifk, wp_andV, wp_orV, wp_notV, wp_chain, wp_skip, wp_asg, wp_par, wp_par3, wp_aug, wp_read, wp_readU, wp_len, wp_app, wp_appK, wp_disp, wp_pop, wp_for, wp_while, wp_lc, wp_cl0, wp_subK, kG_sub, kB_ok, kB_ex, kL_ok, kL_ex, kC_true, kC_false, kV_some, kG_some, kR_some, kO_some, kI_ok, kS_nx, kS_rt, kS_bk, kS_ct, kA_ok, kLst_some, kApp_ok, kU_ok, kCl_ok, kBk_ok, kBd_rt, kBd_nx, kF_nx, kF_ct, kF_bk, kF_rt, kW_ok, kT_ok, kE_ok, nat_eq_lit, Nat.reduceBEq, Nat.reduceBNe, Int.reduceBEq, Int.reduceLT, Int.reduceLE, Int.reduceEq, Int.reduceNeg, Nat.reduceLT, Nat.reduceEqDiff, Bool.true_and, Bool.and_true, Bool.false_and, Bool.and_false, dNeg, dNe_bl,  maskIo_0, dIx_ln, dIx_tn, List.getElem_map,  mSeq_ap, mVar_ap, mMov_ap, mTk_ap, mFz_ap, mRead_ap, mReadU_ap, mScal_ap, mOp_ap, mUn_ap, mPair_ap, bnd_ap, lft_ap, ret_ap, mCons_ap, mNil_ap, mCall_ap, mCl0_ap, backIo, mIf_ap, mAnd_ap, mOr_ap, mNot_ap, mAndV_ap, mOrV_ap, mNotV_ap, mChain_ap, mAsg_ap, gtName, gtScal, gtAny, gtSub, gtTup, gtCons, gtNil, mSkip_ap, mApp_ap, mPop_ap, popIx, mLen_ap, ixP, anyItems, shItems, getP, setP, kid, putKid, shOf, unsh_non, unsh_bl, unsh_int, unsh_str, unsh_lst, unsh_tup, unsh_frl, unsh_shd, ite_lim, isShd_non, isShd_bl, isShd_int, isShd_str, isShd_lst, isShd_tup, isShd_frl, isShd_shd, dLst_nil, dTup_nil, toNat_lit, dTup_1, dTup_2, dTup_3, dTup_4, dTup_5, dLst_1, dLst_2, dLst_3, dLst_4, dLst_5, Dl.scal, dTr, dBool, dIs, dIsNot, Dl.isNon, dItems, dPart, dSl, bLen, bInt, bList, bTuple, dMul_i, dFdiv_i, dMod_i, dAdd_i, dSub_i, dLt_i, dLe_i, dGt_i, dGe_i, dEq_i, dNe_i, dEq_bl, dTup_c, dLst_c, mRng_ap, dRng1, rgC_map, Int.toNat_natCast, maskIo_nil, bIsi_bool, bIsi_int, bIsi_str, bIsi_dict, bIsi_list, bIsi_tuple, isiD, wipeD, dAdd_l, dAdd_t, dIx_l, dIx_t, ixN_nat, ixN_of, nat_cast_div, nat_cast_mod, nat_cast_mul, nat_cast_add, nat_add_lit, lit_add_nat, nat_mul_lit, lit_mul_nat, nat_div_lit, nat_mod_lit, nat_sub_lit, nat_lt, nat_le, nat_eq, nat_lt_lit, lit_lt_nat, nat_le_lit, lit_le_nat, dRng_two, nat_cast_sub, dRng3, bMin_n, List.length_map, List.length_set, lim,
  Option.bind_some, Option.map_some, List.getElem?_cons_zero, List.getElem?_cons_succ, List.set_cons_zero, List.set_cons_succ, List.length_cons, List.length_nil, reduceIte, Bool.false_eq_true, decide_eq_true_eq, Nat.reduceAdd, List.map_cons, List.map_nil, List.cons_append, List.nil_append, Nat.reduceSub, Nat.reduceLeDiff, List.replicate_succ, List.replicate_zero, Nat.zero_add, Bool.not_true, Bool.not_false, Bool.or_false, Bool.false_or, Bool.or_true, Bool.true_or, reduceCtorEq, decide_false, decide_true, beq_self_eq_true, List.isEmpty_cons, List.isEmpty_nil])
theorem isn_nP {n : Int × Int} (h : Bn n) : F_isn [nP n] = some (.ok (.bl true) [none]) := by
  have h1 := h.ok.1
  unfold nP nD
  split
  · exact isn_int _
  · rw [isn_tup (by have := h.b; have := h.pos; unfold bigN; omega), h1.2]
    rw [decide_eq_true (by have := h1.1; omega)]
    rfl
theorem same_rt {p q : Int} (hq : 1 < q) : L_same 7 [ratD p q, .tup [.int p, .int q]] = some (.ok (.bl (Nat.gcd p.natAbs q.natAbs == 1)) [none, none]) := by
  have hg := gcd_pos (p := p) (q := q) (by omega)
  have hd := gdvd p q
  rw [ratD_pos (by omega)]
  generalize Nat.gcd p.natAbs q.natAbs = g at *
  obtain ⟨⟨k, hk⟩, ⟨l, hl⟩⟩ := hd
  have hg' : (0 : Int) < g := by omega
  have e1 : p / (g : Int) = k := by rw [hk, Int.mul_ediv_cancel_left _ (by omega)]
  have e2 : q / (g : Int) = l := by rw [hl, Int.mul_ediv_cancel_left _ (by omega)]
  unfold nD
  rw [e1, e2]
  by_cases hl1 : l = 1
  · rw [if_pos hl1, same_it 6]
    have : g ≠ 1 := by rintro rfl; subst hl1; omega
    rw [show (g == 1) = false by simpa using this]
  · rw [if_neg hl1, same_tt 5 [.int k, .int l] [.int p, .int q] (fun i => if i = 0 then k == p else l == q) rfl (by simp) fun i h1 h2 => by
      match i, h1 with
      | 0, _ => exact same_i _ _ _
      | 1, _ => exact same_i _ _ _
      | n + 2, h => exact absurd h (by simp only [List.length_cons, List.length_nil]; omega)]
    congr 3
    rw [Bool.eq_iff_iff]
    simp [List.range_succ]
    constructor
    · rintro ⟨h1, h2⟩
      have h3 : (g : Int) * l = 1 * l := by omega
      have h4 : l ≠ 0 := by rintro rfl; omega
      have := Int.eq_of_mul_eq_mul_right h4 h3
      omega
    · rintro rfl
      omega
theorem turn_f (p q : Int) (hp : p.natAbs < 1000) (hq' : q.natAbs < 1000) {x : D} (h : DrK x) (s z2 z3 z4 z5 z6 z7 z8 z9 z10 z11 z12 z13 z14 z15 z16 z17 z18 z19 z20 z22 : Option D) (Q : Rs Fl → Prop) (hq : ∀ (y : D) (zs : List (Option D)), DrK y → zs.length = 21 → Q (.ok .nx (s :: some y :: zs))) :
    Wp (mSeq c_143 (mSeq c_144 c_146)) [s, some x, z2, z3, z4, z5, z6, z7, z8, z9, z10, z11, z12, z13, z14, z15, z16, z17, z18, z19, z20, some (.tup [.int p, .int q]), z22] Q := by
  unfold c_143 b_law_143
  walk_at "wq"
  unfold c_144 b_law_144
  walk_at "wq"
  refine lcD (fun _ => .bl false) (by simp) (fun y hy => ?_) ?_
  · simp at hy
    rcases hy with rfl | rfl <;>
    · simp only [wipeD]
      walk_at "wq"
      and_intros <;> first | rfl | trivial
  simp only [wipeD]
  walk_at "wq"
  rw [show bAny [.lst [.bl false, .bl false]] = some (.bl false) from rfl]
  walk_at "wq"
  unfold b_law_145
  walk_at "wq"
  refine kC_if (fun e => ?_) fun e => ?_
  · walk_at "wq"
    rw [lratio_t (by omega) (by unfold bigN; omega)]
    walk_at "wq"
    rw [same_rt e]
    walk_at "wq"
    unfold c_146 b_law_146
    walk_at "wq"
    rw [isn_tup (by unfold bigN; omega), decide_eq_true e]
    walk_at "wq"
    exact hq _ _ h (by simp)
  · walk_at "wq"
    unfold c_146 b_law_146
    walk_at "wq"
    rw [isn_tup (by unfold bigN; omega), decide_eq_false e]
    walk_at "wq"
    exact hq _ _ h (by simp)
theorem turn_e {x : D} (h : DrK x) {n m : Int × Int} (hn : Bn n) (hm : Bn m) (s z2 z9 z10 z11 z12 z13 z14 z15 z16 z17 z18 z19 z20 z21 z22 : Option D) (Q : Rs Fl → Prop) (hq : ∀ (y : D) (zs : List (Option D)), DrK y → zs.length = 21 → Q (.ok .nx (s :: some y :: zs))) :
    Wp (mSeq c_141 (mSeq c_142 (mSeq c_143 (mSeq c_144 c_146)))) [s, some x, z2, some (nP n), some (nP m), some (.int n.1), some (.int n.2), some (.int m.1), some (.int m.2), z9, z10, z11, z12, z13, z14, z15, z16, z17, z18, z19, z20, z21, z22] Q := by
  unfold c_141 b_law_141
  walk_at "wq"
  refine next_w h (by decide) (by decide) fun x1 v h1 hv => ?_
  walk_at "wq"
  refine next_w h1 (by decide) (by decide) fun x2 w h2 hw => ?_
  walk_at "wq"
  unfold c_142 b_law_142
  walk_at "wq"
  refine pick_w h2 (by simp) (by simp) fun x3 k hk h3 => ?_
  walk_at "wq"
  have hv13 : ((v : Int) - 6).natAbs < 1000 := by omega
  have hw13 : ((w : Int) - 6).natAbs < 1000 := by omega
  match k, hk with
  | 0, _ => exact turn_f _ _ hv13 hw13 h3 _ _ _ _ _ _ _ _ _ _ _ _ _ _ _ _ _ _ _ _ _ Q hq
  | 1, _ => exact turn_f _ _ hv13 hw13 h3 _ _ _ _ _ _ _ _ _ _ _ _ _ _ _ _ _ _ _ _ _ Q hq
  | 10, _ => exact turn_f 1 0 (by decide) (by decide) h3 _ _ _ _ _ _ _ _ _ _ _ _ _ _ _ _ _ _ _ _ _ Q hq
  | 11, _ => exact turn_f 0 2 (by decide) (by decide) h3 _ _ _ _ _ _ _ _ _ _ _ _ _ _ _ _ _ _ _ _ _ Q hq
  | n + 13, h => exact absurd h (by simp only [List.length_cons, List.length_nil]; omega)
  | 2, _ =>
    simp only [List.getElem_cons_zero, List.getElem_cons_succ]
    unfold c_143 b_law_143
    walk_at "wq"
    unfold c_144 b_law_144
    walk_at "wq"
    unfold c_146 b_law_146
    walk_at "wq"
    rw [isn_bl]
    walk_at "wq"
    exact hq _ _ h3 (by simp)
  | 3, _ =>
    simp only [List.getElem_cons_zero, List.getElem_cons_succ]
    unfold c_143 b_law_143
    walk_at "wq"
    unfold c_144 b_law_144
    walk_at "wq"
    unfold c_146 b_law_146
    walk_at "wq"
    rw [isn_non]
    walk_at "wq"
    exact hq _ _ h3 (by simp)
  | 4, _ =>
    simp only [List.getElem_cons_zero, List.getElem_cons_succ]
    unfold c_143 b_law_143
    walk_at "wq"
    unfold c_144 b_law_144
    walk_at "wq"
    unfold c_146 b_law_146
    walk_at "wq"
    rw [isn_str]
    walk_at "wq"
    exact hq _ _ h3 (by simp)
  | 5, _ =>
    simp only [List.getElem_cons_zero, List.getElem_cons_succ]
    unfold c_143 b_law_143
    walk_at "wq"
    unfold c_144 b_law_144
    walk_at "wq"
    unfold c_146 b_law_146
    walk_at "wq"
    rw [isn_lst]
    walk_at "wq"
    exact hq _ _ h3 (by simp)
  | 6, _ =>
    simp only [List.getElem_cons_zero, List.getElem_cons_succ]
    unfold c_143 b_law_143
    walk_at "wq"
    unfold c_144 b_law_144
    walk_at "wq"
    unfold c_146 b_law_146
    walk_at "wq"
    rw [isn_odd1]
    walk_at "wq"
    exact hq _ _ h3 (by simp)
  | 7, _ =>
    simp only [List.getElem_cons_zero, List.getElem_cons_succ]
    unfold c_143 b_law_143
    walk_at "wq"
    unfold c_144 b_law_144
    walk_at "wq"
    unfold c_146 b_law_146
    walk_at "wq"
    rw [isn_odd2]
    walk_at "wq"
    exact hq _ _ h3 (by simp)
  | 8, _ =>
    simp only [List.getElem_cons_zero, List.getElem_cons_succ]
    unfold c_143 b_law_143
    walk_at "wq"
    unfold c_144 b_law_144
    walk_at "wq"
    refine lcD (fun d => match d with | .bl _ => .bl true | _ => .bl false) (by simp) (fun y hy => ?_) ?_
    · simp at hy
      rcases hy with rfl | rfl <;>
      · simp only [wipeD]
        walk_at "wq"
        and_intros <;> first | rfl | trivial
    simp only [wipeD]
    walk_at "wq"
    rw [show bAny [.lst [.bl true, .bl false]] = some (.bl true) from rfl]
    walk_at "wq"
    unfold c_146 b_law_146
    walk_at "wq"
    rw [isn_odd3]
    walk_at "wq"
    exact hq _ _ h3 (by simp)
  | 9, _ =>
    simp only [List.getElem_cons_zero, List.getElem_cons_succ]
    unfold c_143 b_law_143
    walk_at "wq"
    unfold c_144 b_law_144
    walk_at "wq"
    refine lcD (fun d => match d with | .bl _ => .bl true | _ => .bl false) (by simp) (fun y hy => ?_) ?_
    · simp at hy
      rcases hy with rfl | rfl <;>
      · simp only [wipeD]
        walk_at "wq"
        and_intros <;> first | rfl | trivial
    simp only [wipeD]
    walk_at "wq"
    rw [show bAny [.lst [.bl false, .bl true]] = some (.bl true) from rfl]
    walk_at "wq"
    unfold c_146 b_law_146
    walk_at "wq"
    rw [isn_odd4]
    walk_at "wq"
    exact hq _ _ h3 (by simp)
  | 12, _ =>
    simp only [List.getElem_cons_zero, List.getElem_cons_succ]
    unfold c_143 b_law_143
    walk_at "wq"
    unfold c_144 b_law_144
    walk_at "wq"
    unfold c_146 b_law_146
    walk_at "wq"
    rw [isn_int]
    walk_at "wq"
    exact hq _ _ h3 (by simp)
theorem turn_d {x : D} (h : DrK x) {n m : Int × Int} (hn : Bn n) (hm : Bn m) (s z2 z9 z10 z11 z12 z13 z14 z15 z16 z17 z18 z19 z20 z21 z22 : Option D) (Q : Rs Fl → Prop) (hq : ∀ (y : D) (zs : List (Option D)), DrK y → zs.length = 21 → Q (.ok .nx (s :: some y :: zs))) :
    Wp (mSeq c_138 (mSeq c_139 (mSeq c_141 (mSeq c_142 (mSeq c_143 (mSeq c_144 c_146)))))) [s, some x, z2, some (nP n), some (nP m), some (.int n.1), some (.int n.2), some (.int m.1), some (.int m.2), z9, z10, z11, z12, z13, z14, z15, z16, z17, z18, z19, z20, z21, z22] Q := by
  unfold c_138 b_law_138
  walk_at "wq"
  refine pick_w h (by decide) (by simp) fun x1 v hv h1 => ?_
  obtain ⟨w, hw0, hw1, ew⟩ : ∃ w : Int, w ≠ 0 ∧ w.natAbs ≤ 10 ∧ ([.int (-6), .int (-1), .int 1, .int 4, .int 9] : List D)[v] = .int w := by
    match v, hv with
    | 0, _ => exact ⟨_, by decide, by decide, rfl⟩
    | 1, _ => exact ⟨_, by decide, by decide, rfl⟩
    | 2, _ => exact ⟨_, by decide, by decide, rfl⟩
    | 3, _ => exact ⟨_, by decide, by decide, rfl⟩
    | 4, _ => exact ⟨_, by decide, by decide, rfl⟩
    | k + 5, hk => exact absurd hk (by simp only [List.length_cons, List.length_nil]; omega)
  rw [ew]
  walk_at "wq"
  unfold c_139 b_law_139
  walk_at "wq"
  rw [ratio_t hw0 (by unfold bigN; omega)]
  walk_at "wq"
  rw [lratio_t hw0 (by unfold bigN; omega)]
  walk_at "wq"
  refine same_w ((Dt.rat _ _).to (by decide)) rfl ?_
  walk_at "wq"
  rw [isn_nP hn]
  walk_at "wq"
  rw [← wp_seq]
  exact turn_e h1 hn hm _ _ _ _ _ _ _ _ _ _ _ _ _ _ _ _ _ hq
theorem turn_c {x : D} (h : DrK x) {n m : Int × Int} (hn : Bn n) (hm : Bn m) (s z2 z9 z10 z11 z12 z13 z14 z15 z16 z17 z18 z19 z20 z21 z22 : Option D) (Q : Rs Fl → Prop) (hq : ∀ (y : D) (zs : List (Option D)), DrK y → zs.length = 21 → Q (.ok .nx (s :: some y :: zs))) :
    Wp (mSeq c_131 (mSeq c_132 (mSeq c_133 (mSeq c_136 (mSeq c_138 (mSeq c_139 (mSeq c_141 (mSeq c_142 (mSeq c_143 (mSeq c_144 c_146)))))))))) [s, some x, z2, some (nP n), some (nP m), some (.int n.1), some (.int n.2), some (.int m.1), some (.int m.2), z9, z10, z11, z12, z13, z14, z15, z16, z17, z18, z19, z20, z21, z22] Q := by
  unfold c_131 b_law_131
  walk_at "wq"
  refine next_w h (by decide) (by decide) fun x1 v h1 hv => ?_
  walk_at "wq"
  refine lcI (fun ρ0 i acc ρ => ∃ (x : D) (ns : List (Int × Int)), DrK x ∧ (∀ n ∈ ns, Bn n) ∧ ns.length = i ∧ acc = ns.map nP ∧ ρ = ρ0.set 1 (some x)) (by simp; omega) ⟨x1, [], h1, by simp, rfl, rfl, rfl⟩ (fun i d acc ρ' hd ha ⟨x, ns, h2, h3, h4, h5, h6⟩ => ?_) fun acc ρ' ⟨x, ns, h2, h3, h4, h5, h6⟩ => ?_
  · subst h6
    simp only [wipeD]
    walk_at "wq"
    refine big_w h2 fun x3 k h7 hk hk1 hk2 => ?_
    walk_at "wq"
    refine ⟨x3, ns ++ [k], h7, fun j hj => ?_, by simp [h4], by simp [h5], rfl⟩
    rcases List.mem_append.mp hj with hj | hj
    · exact h3 j hj
    · rw [List.mem_singleton] at hj
      subst hj
      exact ⟨hk, hk1, hk2⟩
  subst h6
  subst h5
  simp at h4
  obtain ⟨n0, ns, rfl⟩ : ∃ n0 ns', ns = n0 :: ns' := by
    cases ns with
    | nil => simp at h4; omega
    | cons a b => exact ⟨a, b, rfl⟩
  simp only [wipeD]
  walk_at "wq"
  unfold c_132 b_law_132
  walk_at "wq"
  unfold c_133 b_law_133
  walk_at "wq"
  have hb0 : Bn n0 := h3 n0 List.mem_cons_self
  have hbs : ∀ k ∈ ns, Bn k := fun k hk => h3 k (List.mem_cons_of_mem _ hk)
  rw [← List.map_cons]
  refine forF (σ := (Int × Int) × (Int × Int)) (fun ρ0 lh ρ => NumOk lh.1 ∧ NumOk lh.2 ∧ ∃ z, ρ = ((ρ0.set 15 (some (nP lh.1))).set 16 (some (nP lh.2))).set 17 z) (fun lh x => (pickLow lh.1 x, pickHigh lh.2 x)) (n0, n0) ⟨hb0.ok, hb0.ok, _, rfl⟩ (fun lh k ρ' hk ⟨hl, hh, z, hr⟩ => ?_) fun ρ' ⟨hl, hh, z, hr⟩ => ?_
  · subst hr
    have hk := (h3 k hk).ok
    walk_at "wq"
    unfold b_law_134
    walk_at "wq"
    rw [lless_t hk hl]
    walk_at "wq"
    refine kC_if (fun e => ?_) fun e => ?_
    all_goals
      walk_at "wq"
      unfold b_law_135
      walk_at "wq"
      rw [lless_t hh hk]
      walk_at "wq"
      refine kC_if (fun e' => ?_) fun e' => ?_
    all_goals
      walk_at "wq"
    · rw [show pickLow lh.1 k = k from if_pos e, show pickHigh lh.2 k = k from if_pos e']
      exact ⟨hk, hk, _, rfl⟩
    · rw [show pickLow lh.1 k = k from if_pos e, show pickHigh lh.2 k = lh.2 from if_neg e']
      exact ⟨hk, hh, _, rfl⟩
    · rw [show pickLow lh.1 k = lh.1 from if_neg e, show pickHigh lh.2 k = k from if_pos e']
      exact ⟨hl, hk, _, rfl⟩
    · rw [show pickLow lh.1 k = lh.1 from if_neg e, show pickHigh lh.2 k = lh.2 from if_neg e']
      exact ⟨hl, hh, _, rfl⟩
  subst hr
  have ef : ∀ (ks : List (Int × Int)) (lh : (Int × Int) × (Int × Int)), ks.foldl (fun lh x => (pickLow lh.1 x, pickHigh lh.2 x)) lh = (ks.foldl pickLow lh.1, ks.foldl pickHigh lh.2) := fun ks => by
    induction ks with
    | nil => intro lh; rfl
    | cons a b ih => intro lh; rw [List.foldl_cons, ih]; rfl
  rw [ef] at hl hh ⊢
  have p1 : pickLow n0 n0 = n0 := by unfold pickLow; split <;> rfl
  have p2 : pickHigh n0 n0 = n0 := by unfold pickHigh; split <;> rfl
  simp only [List.foldl_cons, p1, p2] at hl hh ⊢
  have hsl : ns.length < 1000 := by simp at h4; omega
  unfold c_136 b_law_136
  walk_at "wq"
  rw [← List.map_cons, least_t hb0.ok (fun y hy => (hbs y hy).ok) hsl]
  walk_at "wq"
  rw [← List.map_cons, great_t hb0.ok (fun y hy => (hbs y hy).ok) hsl]
  walk_at "wq"
  refine same_w ((Dt.l2 (Dt.nD _ _) (Dt.nD _ _)).to (by decide)) rfl ?_
  walk_at "wq"
  rw [← wp_seq]
  exact turn_d h2 hn hm _ _ _ _ _ _ _ _ _ _ _ _ _ _ _ _ _ hq
theorem ceil_eq (a b : Int) (hb : 0 < b) : a / b + (if a / b * b < a then 1 else 0) = 0 - (0 - a) / b := by
  have h1 := Int.mul_ediv_add_emod a b
  have h2 := Int.emod_nonneg a (by omega : b ≠ 0)
  have h3 := Int.emod_lt_of_pos a hb
  have h4 := Int.mul_comm (a / b) b
  split
  · have : (0 - a) / b = -(a / b) - 1 := by
      refine Int.ediv_eq_iff_of_pos hb |>.mpr ?_
      constructor <;> grind
    omega
  · have : (0 - a) / b = -(a / b) := by
      refine Int.ediv_eq_iff_of_pos hb |>.mpr ?_
      constructor <;> grind
    omega
theorem turn_b {x : D} (h : DrK x) {n m : Int × Int} (hn : Bn n) (hm : Bn m) (s z2 z9 z10 z11 z12 z13 z14 z15 z16 z17 z18 z19 z20 z21 z22 : Option D) (Q : Rs Fl → Prop) (hq : ∀ (y : D) (zs : List (Option D)), DrK y → zs.length = 21 → Q (.ok .nx (s :: some y :: zs))) :
    Wp (mSeq c_124 (mSeq c_126 (mSeq c_127 (mSeq c_128 (mSeq c_129 (mSeq c_131 (mSeq c_132 (mSeq c_133 (mSeq c_136 (mSeq c_138 (mSeq c_139 (mSeq c_141 (mSeq c_142 (mSeq c_143 (mSeq c_144 c_146))))))))))))))) [s, some x, z2, some (nP n), some (nP m), some (.int n.1), some (.int n.2), some (.int m.1), some (.int m.2), z9, z10, z11, z12, z13, z14, z15, z16, z17, z18, z19, z20, z21, z22] Q := by
  have hpn := hn.pos
  have hpm := hm.pos
  have k1 := hn.ok.2.1.big
  have k2 := hn.ok.2.2.big
  have k3 := hm.ok.2.1.big
  have k4 := hm.ok.2.2.big
  have k5 := hn.a
  have k6 := hn.b
  unfold c_124 b_law_124
  walk_at "wq"
  unfold nP
  rw [sign_t]
  walk_at "wq"
  rw [less_t hpn hm.ok.1 hn.ok.2.1 hn.ok.2.2 hm.ok.2.1 hm.ok.2.2]
  walk_at "wq"
  refine same_w ((Dt.l2 (Dt.int 0 _) (Dt.bl 0 _)).to (by decide)) (by rw [sgn_eq]) ?_
  walk_at "wq"
  unfold c_126 b_law_126
  walk_at "wq"
  unfold c_127 b_law_127
  walk_at "wq"
  unfold c_128 b_law_128
  walk_at "wq"
  unfold c_129 b_law_129
  walk_at "wq"
  rw [floor_t hpn hn.ok.2.2]
  walk_at "wq"
  rw [ceil_t hpn hn.ok.2.2]
  walk_at "wq"
  rw [round_t hpn hn.ok.2.1 (by omega)]
  walk_at "wq"
  rw [cut_t hpn hn.ok.2.2]
  walk_at "wq"
  refine kC_by (fun e => ?_) fun e => ?_
  all_goals
    walk_at "wq"
    refine same_w ((Dt.l4 (Dt.int 0 _) (Dt.int 0 _) (Dt.int 0 _) (Dt.int 0 _)).to (by decide)) ?_ ?_
    · have e0 : ∀ (p : Prop) [Decidable p] (a b : Int), (if p then a else b) = if decide p = true then a else b := fun p _ a b => by simp
      simp only [decide_eq_true_eq, decide_eq_false_iff_not] at e
      simp only [e, if_true, if_false, ceil_eq n.1 n.2 hpn]
      congr 4
      rw [show n.1 * 2 + 1 * n.2 = 2 * n.1 + n.2 by omega, Int.mul_comm n.2 2]
    walk_at "wq"
    rw [← wp_seq]
    exact turn_c h hn hm _ _ _ _ _ _ _ _ _ _ _ _ _ _ _ _ _ hq
theorem turn_a {x : D} (h : DrK x) (s z2 z3 z4 z5 z6 z7 z8 z9 z10 z11 z12 z13 z14 z15 z16 z17 z18 z19 z20 z21 z22 : Option D) (Q : Rs Fl → Prop) (hq : ∀ (y : D) (zs : List (Option D)), DrK y → zs.length = 21 → Q (.ok .nx (s :: some y :: zs))) :
    Wp (mSeq c_116 (mSeq c_117 (mSeq c_118 (mSeq c_119 (mSeq c_120 (mSeq c_122 (mSeq c_124 (mSeq c_126 (mSeq c_127 (mSeq c_128 (mSeq c_129 (mSeq c_131 (mSeq c_132 (mSeq c_133 (mSeq c_136 (mSeq c_138 (mSeq c_139 (mSeq c_141 (mSeq c_142 (mSeq c_143 (mSeq c_144 c_146))))))))))))))))))))) [s, some x, z2, z3, z4, z5, z6, z7, z8, z9, z10, z11, z12, z13, z14, z15, z16, z17, z18, z19, z20, z21, z22] Q := by
  unfold c_116 b_law_116
  walk_at "wq"
  refine big_w h fun x1 n h1 hn hn1 hn2 => ?_
  walk_at "wq"
  refine big_w h1 fun x2 m h2 hm hm1 hm2 => ?_
  walk_at "wq"
  unfold c_117 b_law_117
  walk_at "wq"
  unfold c_118 b_law_118
  walk_at "wq"
  have hpn := hn.1.1
  have hpm := hm.1.1
  have k1 := hn.2.1.big
  have k2 := hn.2.2.big
  have k3 := hm.2.1.big
  have k4 := hm.2.2.big
  have k5 := hn.2.2.mul hm.2.2
  have k6 : n.2 * m.2 ≠ 0 := Int.ne_of_gt (Int.mul_pos hpn hpm)
  have k7 := hn.2.2.mul hm.2.1
  unfold c_119 b_law_119
  walk_at "wq"
  rw [lratio_t k6 (by unfold bigN; exact k5)]
  walk_at "wq"
  rw [lratio_t k6 (by unfold bigN; exact k5)]
  walk_at "wq"
  rw [lratio_t k6 (by unfold bigN; exact k5)]
  walk_at "wq"
  rw [lratio_t (Int.ne_of_gt hpn) (by unfold bigN; exact k2)]
  walk_at "wq"
  unfold c_120 b_law_120
  walk_at "wq"
  conv => { arg 1; unfold nP }
  rw [add_t hpn hpm hn.2.1 hn.2.2 hm.2.1 hm.2.2]
  walk_at "wq"
  rw [show F_sub [nP n, nP m] = _ from sub_t hpn hm.1 hn.2.1 hn.2.2 hm.2.1 hm.2.2]
  walk_at "wq"
  rw [show F_mul [nP n, nP m] = _ from mul_t hpn hpm hn.2.1 hn.2.2 hm.2.1 hm.2.2]
  walk_at "wq"
  rw [show F_minus [nP n] = _ from minus_t hn.1 hn.2.2, ← nD_rat hn.1.neg]
  walk_at "wq"
  rw [same7 (Dt.l4 (Dt.rat _ _).up (Dt.rat _ _).up (Dt.rat _ _).up (Dt.rat _ _).up)]
  walk_at "wq"
  unfold c_122 b_law_122
  walk_at "wq"
  refine kC_by (fun e => ?_) fun e => ?_
  · have hc : m.1 ≠ 0 := by simpa using e
    walk_at "wq"
    rw [show F_dv [nP n, nP m] = _ from dv_t hpn hc hn.2.1 hn.2.2 hm.2.1 hm.2.2]
    walk_at "wq"
    rw [lratio_t (Int.mul_ne_zero (Int.ne_of_gt hpn) hc) (by unfold bigN; exact k7)]
    walk_at "wq"
    rw [same7 ((Dt.rat _ _).to (by decide))]
    walk_at "wq"
    rw [← wp_seq]
    exact turn_b h2 ⟨hn, hn1, hn2⟩ ⟨hm, hm1, hm2⟩ _ _ _ _ _ _ _ _ _ _ _ _ _ _ _ _ _ hq
  · walk_at "wq"
    rw [← wp_seq]
    exact turn_b h2 ⟨hn, hn1, hn2⟩ ⟨hm, hm1, hm2⟩ _ _ _ _ _ _ _ _ _ _ _ _ _ _ _ _ _ hq
end P00
namespace P00
open PySem L2 Dl Wk
local macro_rules | `(tactic| walk_at "wq") => `(tactic| simp (disch := first | with_reducible assumption | omega | (simp only [List.length_cons, List.length_nil, List.length_map, List.length_append, List.length_range, List.length_replicate]; omega)) only [dMul_b, isShd_drk, two_p, wp_seq, wp_bnd, wp_ret, wp_lft, wp_var, wp_mov, wp_fz, wp_tk, wp_pair, wp_nil, wp_cons, wp_op, wp_un, wp_call, wp_rng, wp_scal, wp_scl1, wp_if, wp_not, wp_and, wp_or, wp_ifk, wp_andV, wp_orV, wp_notV, wp_chain, wp_skip, wp_asg, wp_par, wp_par3, wp_aug, wp_read, wp_readU, wp_len, wp_app, wp_appK, wp_disp, wp_pop, wp_for, wp_while, wp_lc, wp_cl0, wp_subK, kG_sub, kB_ok, kB_ex, kL_ok, kL_ex, kC_true, kC_false, kV_some, kG_some, kR_some, kO_some, kI_ok, kS_nx, kS_rt, kS_bk, kS_ct, kA_ok, kLst_some, kApp_ok, kU_ok, kCl_ok, kBk_ok, kBd_rt, kBd_nx, kF_nx, kF_ct, kF_bk, kF_rt, kW_ok, kT_ok, kE_ok, nat_eq_lit, Nat.reduceBEq, Nat.reduceBNe, Int.reduceBEq, Int.reduceLT, Int.reduceLE, Int.reduceEq, Int.reduceNeg, Nat.reduceLT, Nat.reduceEqDiff, Bool.true_and, Bool.and_true, Bool.false_and, Bool.and_false, dNeg, dNe_bl,  maskIo_0, dIx_ln, dIx_tn, List.getElem_map,  mSeq_ap, mVar_ap, mMov_ap, mTk_ap, mFz_ap, mRead_ap, mReadU_ap, mScal_ap, mOp_ap, mUn_ap, mPair_ap, bnd_ap, lft_ap, ret_ap, mCons_ap, mNil_ap, mCall_ap, mCl0_ap, backIo, mIf_ap, mAnd_ap, mOr_ap, mNot_ap, mAndV_ap, mOrV_ap, mNotV_ap, mChain_ap, mAsg_ap, gtName, gtScal, gtAny, gtSub, gtTup, gtCons, gtNil, mSkip_ap, mApp_ap, mPop_ap, popIx, mLen_ap, ixP, anyItems, shItems, getP, setP, kid, putKid, shOf, unsh_non, unsh_bl, unsh_int, unsh_str, unsh_lst, unsh_tup, unsh_frl, unsh_shd, ite_lim, isShd_non, isShd_bl, isShd_int, isShd_str, isShd_lst, isShd_tup, isShd_frl, isShd_shd, dLst_nil, dTup_nil, toNat_lit, dTup_1, dTup_2, dTup_3, dTup_4, dTup_5, dLst_1, dLst_2, dLst_3, dLst_4, dLst_5, Dl.scal, dTr, dBool, dIs, dIsNot, Dl.isNon, dItems, dPart, dSl, bLen, bInt, bList, bTuple, dMul_i, dFdiv_i, dMod_i, dAdd_i, dSub_i, dLt_i, dLe_i, dGt_i, dGe_i, dEq_i, dNe_i, dEq_bl, dTup_c, dLst_c, mRng_ap, dRng1, rgC_map, Int.toNat_natCast, maskIo_nil, bIsi_bool, bIsi_int, bIsi_str, bIsi_dict, bIsi_list, bIsi_tuple, isiD, wipeD, dAdd_l, dAdd_t, dIx_l, dIx_t, ixN_nat, ixN_of, nat_cast_div, nat_cast_mod, nat_cast_mul, nat_cast_add, nat_add_lit, lit_add_nat, nat_mul_lit, lit_mul_nat, nat_div_lit, nat_mod_lit, nat_sub_lit, nat_lt, nat_le, nat_eq, nat_lt_lit, lit_lt_nat, nat_le_lit, lit_le_nat, dRng_two, nat_cast_sub, dRng3, bMin_n, List.length_map, List.length_set, lim,
  Option.bind_some, Option.map_some, List.getElem?_cons_zero, List.getElem?_cons_succ, List.set_cons_zero, List.set_cons_succ, List.length_cons, List.length_nil, reduceIte, Bool.false_eq_true, decide_eq_true_eq, Nat.reduceAdd, List.map_cons, List.map_nil, List.cons_append, List.nil_append, Nat.reduceSub, Nat.reduceLeDiff, List.replicate_succ, List.replicate_zero, Nat.zero_add, Bool.not_true, Bool.not_false, Bool.or_false, Bool.false_or, Bool.or_true, Bool.true_or, reduceCtorEq, decide_false, decide_true, beq_self_eq_true, List.isEmpty_cons, List.isEmpty_nil])

def F_law := bodyF0 23 [] (b_law L_draws L_big L_two L_ratio (L_same 7) F_add F_sub F_mul F_minus F_dv F_sign F_less F_floor F_ceil F_round F_cut L_next L_less F_least F_gr L_pick F_ratio F_isn)
theorem law_true (ns : List Int) (h : ns.length ≤ 63) : ∃ fs, F_law [.frl (ns.map .int)] = some (.ok (.bl true) fs) := by
  obtain ⟨L, h1, h2, h3, e⟩ := draws_t ns
  refine ⟨_, eq_of_kR (r := .ok (D.bl true) [none]) ?_⟩
  unfold F_law
  refine kR_fn (n := 23) (ds := [.frl (ns.map .int)]) _ rfl ?_
  unfold b_law
  simp only [List.map_cons, List.map_nil, List.length_cons, List.length_nil, Nat.reduceAdd, Nat.reduceSub, List.replicate_succ, List.replicate_zero, List.cons_append, List.nil_append]
  walk_at "wq"
  unfold b_law_114
  walk_at "wq"
  rw [e]
  walk_at "wq"
  unfold b_law_115
  walk_at "wq"
  refine forI (fun ρ0 i ρ => ∃ (y : D) (zs : List (Option D)), DrK y ∧ zs.length = 21 ∧ ρ = some (.frl (ns.map .int)) :: some y :: zs) ⟨drK L 0, _, ⟨L, 0, rfl, List.length_pos_iff.mp h2, by omega, h1⟩, rfl, rfl⟩ (fun i d ρ' hd ⟨y, zs, hy, hz, hr⟩ => ?_) fun ρ' ⟨y, zs, hy, hz, hr⟩ => ?_
  · match zs, hz with
    | [z2, z3, z4, z5, z6, z7, z8, z9, z10, z11, z12, z13, z14, z15, z16, z17, z18, z19, z20, z21, z22], _ =>
      subst hr
      walk_at "wq"
      rw [← wp_seq]
      refine turn_a hy _ _ _ _ _ _ _ _ _ _ _ _ _ _ _ _ _ _ _ _ _ _ _ fun y2 zs2 h4 h5 => ?_
      exact ⟨y2, zs2, h4, h5, rfl⟩
  · subst hr
    unfold b_law_148
    walk_at "wq"
end P00
namespace P00
open PySem L2 Dl Wk
theorem all_mk {l : PySem.W.OpenLaw} {w : World} {K : PySem.W.Frag} {h : Heap} {mg : Str → Option Value} {fa : Addr} (X : K.In h) (G : h.Ns mainGlobals mg) (hfa : mg "law" = some (.ref fa))
    {od0 an0 : Option Addr} {sl0 : Array (Option Value)} {oc0 kV0 dc0 pm0 cd0 ct0 : Value} {f0 : Addr} (a0 : PySem.W.nsIn K mainGlobals "divisor" = some (some (.ref f0))) (l0 : K.lookup f0 = some ⟨oc0, od0, .func (PySem.W.fnOf "divisor" "divisor" (defArgs s_divisor) (defBody s_divisor) (defScope s_divisor) .none kV0 dc0 pm0 an0 cd0 ct0), sl0⟩) (c0 : PySem.W.codeIn K cd0 "divisor" = true) (k0 : PySem.W.keepIn K (.ref f0) = true)
    {od1 an1 : Option Addr} {sl1 : Array (Option Value)} {oc1 kV1 dc1 pm1 cd1 ct1 : Value} {f1 : Addr} (a1 : PySem.W.nsIn K mainGlobals "ratio" = some (some (.ref f1))) (l1 : K.lookup f1 = some ⟨oc1, od1, .func (PySem.W.fnOf "ratio" "ratio" (defArgs s_ratio) (defBody s_ratio) (defScope s_ratio) .none kV1 dc1 pm1 an1 cd1 ct1), sl1⟩) (c1 : PySem.W.codeIn K cd1 "ratio" = true) (k1 : PySem.W.keepIn K (.ref f1) = true)
    {od2 an2 : Option Addr} {sl2 : Array (Option Value)} {oc2 kV2 dc2 pm2 cd2 ct2 : Value} {f2 : Addr} (a2 : PySem.W.nsIn K mainGlobals "parts" = some (some (.ref f2))) (l2 : K.lookup f2 = some ⟨oc2, od2, .func (PySem.W.fnOf "parts" "parts" (defArgs s_parts) (defBody s_parts) (defScope s_parts) .none kV2 dc2 pm2 an2 cd2 ct2), sl2⟩) (c2 : PySem.W.codeIn K cd2 "parts" = true) (k2 : PySem.W.keepIn K (.ref f2) = true)
    {od3 an3 : Option Addr} {sl3 : Array (Option Value)} {oc3 kV3 dc3 pm3 cd3 ct3 : Value} {f3 : Addr} (a3 : PySem.W.nsIn K mainGlobals "add" = some (some (.ref f3))) (l3 : K.lookup f3 = some ⟨oc3, od3, .func (PySem.W.fnOf "add" "add" (defArgs s_add) (defBody s_add) (defScope s_add) .none kV3 dc3 pm3 an3 cd3 ct3), sl3⟩) (c3 : PySem.W.codeIn K cd3 "add" = true) (k3 : PySem.W.keepIn K (.ref f3) = true)
    {od4 an4 : Option Addr} {sl4 : Array (Option Value)} {oc4 kV4 dc4 pm4 cd4 ct4 : Value} {f4 : Addr} (a4 : PySem.W.nsIn K mainGlobals "minus" = some (some (.ref f4))) (l4 : K.lookup f4 = some ⟨oc4, od4, .func (PySem.W.fnOf "minus" "minus" (defArgs s_minus) (defBody s_minus) (defScope s_minus) .none kV4 dc4 pm4 an4 cd4 ct4), sl4⟩) (c4 : PySem.W.codeIn K cd4 "minus" = true) (k4 : PySem.W.keepIn K (.ref f4) = true)
    {od5 an5 : Option Addr} {sl5 : Array (Option Value)} {oc5 kV5 dc5 pm5 cd5 ct5 : Value} {f5 : Addr} (a5 : PySem.W.nsIn K mainGlobals "sub" = some (some (.ref f5))) (l5 : K.lookup f5 = some ⟨oc5, od5, .func (PySem.W.fnOf "sub" "sub" (defArgs s_sub) (defBody s_sub) (defScope s_sub) .none kV5 dc5 pm5 an5 cd5 ct5), sl5⟩) (c5 : PySem.W.codeIn K cd5 "sub" = true) (k5 : PySem.W.keepIn K (.ref f5) = true)
    {od6 an6 : Option Addr} {sl6 : Array (Option Value)} {oc6 kV6 dc6 pm6 cd6 ct6 : Value} {f6 : Addr} (a6 : PySem.W.nsIn K mainGlobals "mul" = some (some (.ref f6))) (l6 : K.lookup f6 = some ⟨oc6, od6, .func (PySem.W.fnOf "mul" "mul" (defArgs s_mul) (defBody s_mul) (defScope s_mul) .none kV6 dc6 pm6 an6 cd6 ct6), sl6⟩) (c6 : PySem.W.codeIn K cd6 "mul" = true) (k6 : PySem.W.keepIn K (.ref f6) = true)
    {od7 an7 : Option Addr} {sl7 : Array (Option Value)} {oc7 kV7 dc7 pm7 cd7 ct7 : Value} {f7 : Addr} (a7 : PySem.W.nsIn K mainGlobals "div" = some (some (.ref f7))) (l7 : K.lookup f7 = some ⟨oc7, od7, .func (PySem.W.fnOf "div" "div" (defArgs s_div) (defBody s_div) (defScope s_div) .none kV7 dc7 pm7 an7 cd7 ct7), sl7⟩) (c7 : PySem.W.codeIn K cd7 "div" = true) (k7 : PySem.W.keepIn K (.ref f7) = true)
    {od8 an8 : Option Addr} {sl8 : Array (Option Value)} {oc8 kV8 dc8 pm8 cd8 ct8 : Value} {f8 : Addr} (a8 : PySem.W.nsIn K mainGlobals "sign" = some (some (.ref f8))) (l8 : K.lookup f8 = some ⟨oc8, od8, .func (PySem.W.fnOf "sign" "sign" (defArgs s_sign) (defBody s_sign) (defScope s_sign) .none kV8 dc8 pm8 an8 cd8 ct8), sl8⟩) (c8 : PySem.W.codeIn K cd8 "sign" = true) (k8 : PySem.W.keepIn K (.ref f8) = true)
    {od9 an9 : Option Addr} {sl9 : Array (Option Value)} {oc9 kV9 dc9 pm9 cd9 ct9 : Value} {f9 : Addr} (a9 : PySem.W.nsIn K mainGlobals "less" = some (some (.ref f9))) (l9 : K.lookup f9 = some ⟨oc9, od9, .func (PySem.W.fnOf "less" "less" (defArgs s_less) (defBody s_less) (defScope s_less) .none kV9 dc9 pm9 an9 cd9 ct9), sl9⟩) (c9 : PySem.W.codeIn K cd9 "less" = true) (k9 : PySem.W.keepIn K (.ref f9) = true)
    {od10 an10 : Option Addr} {sl10 : Array (Option Value)} {oc10 kV10 dc10 pm10 cd10 ct10 : Value} {f10 : Addr} (a10 : PySem.W.nsIn K mainGlobals "floor" = some (some (.ref f10))) (l10 : K.lookup f10 = some ⟨oc10, od10, .func (PySem.W.fnOf "floor" "floor" (defArgs s_floor) (defBody s_floor) (defScope s_floor) .none kV10 dc10 pm10 an10 cd10 ct10), sl10⟩) (c10 : PySem.W.codeIn K cd10 "floor" = true) (k10 : PySem.W.keepIn K (.ref f10) = true)
    {od11 an11 : Option Addr} {sl11 : Array (Option Value)} {oc11 kV11 dc11 pm11 cd11 ct11 : Value} {f11 : Addr} (a11 : PySem.W.nsIn K mainGlobals "ceiling" = some (some (.ref f11))) (l11 : K.lookup f11 = some ⟨oc11, od11, .func (PySem.W.fnOf "ceiling" "ceiling" (defArgs s_ceiling) (defBody s_ceiling) (defScope s_ceiling) .none kV11 dc11 pm11 an11 cd11 ct11), sl11⟩) (c11 : PySem.W.codeIn K cd11 "ceiling" = true) (k11 : PySem.W.keepIn K (.ref f11) = true)
    {od12 an12 : Option Addr} {sl12 : Array (Option Value)} {oc12 kV12 dc12 pm12 cd12 ct12 : Value} {f12 : Addr} (a12 : PySem.W.nsIn K mainGlobals "rounded" = some (some (.ref f12))) (l12 : K.lookup f12 = some ⟨oc12, od12, .func (PySem.W.fnOf "rounded" "rounded" (defArgs s_rounded) (defBody s_rounded) (defScope s_rounded) .none kV12 dc12 pm12 an12 cd12 ct12), sl12⟩) (c12 : PySem.W.codeIn K cd12 "rounded" = true) (k12 : PySem.W.keepIn K (.ref f12) = true)
    {od13 an13 : Option Addr} {sl13 : Array (Option Value)} {oc13 kV13 dc13 pm13 cd13 ct13 : Value} {f13 : Addr} (a13 : PySem.W.nsIn K mainGlobals "cut" = some (some (.ref f13))) (l13 : K.lookup f13 = some ⟨oc13, od13, .func (PySem.W.fnOf "cut" "cut" (defArgs s_cut) (defBody s_cut) (defScope s_cut) .none kV13 dc13 pm13 an13 cd13 ct13), sl13⟩) (c13 : PySem.W.codeIn K cd13 "cut" = true) (k13 : PySem.W.keepIn K (.ref f13) = true)
    {od14 an14 : Option Addr} {sl14 : Array (Option Value)} {oc14 kV14 dc14 pm14 cd14 ct14 : Value} {f14 : Addr} (a14 : PySem.W.nsIn K mainGlobals "is_number" = some (some (.ref f14))) (l14 : K.lookup f14 = some ⟨oc14, od14, .func (PySem.W.fnOf "is_number" "is_number" (defArgs s_is_number) (defBody s_is_number) (defScope s_is_number) .none kV14 dc14 pm14 an14 cd14 ct14), sl14⟩) (c14 : PySem.W.codeIn K cd14 "is_number" = true) (k14 : PySem.W.keepIn K (.ref f14) = true)
    {od15 an15 : Option Addr} {sl15 : Array (Option Value)} {oc15 kV15 dc15 pm15 cd15 ct15 : Value} {f15 : Addr} (a15 : PySem.W.nsIn K mainGlobals "least" = some (some (.ref f15))) (l15 : K.lookup f15 = some ⟨oc15, od15, .func (PySem.W.fnOf "least" "least" (defArgs s_least) (defBody s_least) (defScope s_least) .none kV15 dc15 pm15 an15 cd15 ct15), sl15⟩) (c15 : PySem.W.codeIn K cd15 "least" = true) (k15 : PySem.W.keepIn K (.ref f15) = true)
    {od16 an16 : Option Addr} {sl16 : Array (Option Value)} {oc16 kV16 dc16 pm16 cd16 ct16 : Value} {f16 : Addr} (a16 : PySem.W.nsIn K mainGlobals "greatest" = some (some (.ref f16))) (l16 : K.lookup f16 = some ⟨oc16, od16, .func (PySem.W.fnOf "greatest" "greatest" (defArgs s_greatest) (defBody s_greatest) (defScope s_greatest) .none kV16 dc16 pm16 an16 cd16 ct16), sl16⟩) (c16 : PySem.W.codeIn K cd16 "greatest" = true) (k16 : PySem.W.keepIn K (.ref f16) = true)
    {od17 an17 : Option Addr} {sl17 : Array (Option Value)} {oc17 kV17 dc17 pm17 cd17 ct17 : Value} {f17 : Addr} (a17 : PySem.W.nsIn K mainGlobals "_law_draws" = some (some (.ref f17))) (l17 : K.lookup f17 = some ⟨oc17, od17, .func (PySem.W.fnOf "_law_draws" "_law_draws" (defArgs s__law_draws) (defBody s__law_draws) (defScope s__law_draws) .none kV17 dc17 pm17 an17 cd17 ct17), sl17⟩) (c17 : PySem.W.codeIn K cd17 "_law_draws" = true) (k17 : PySem.W.keepIn K (.ref f17) = true)
    {od18 an18 : Option Addr} {sl18 : Array (Option Value)} {oc18 kV18 dc18 pm18 cd18 ct18 : Value} {f18 : Addr} (a18 : PySem.W.nsIn K mainGlobals "_law_next" = some (some (.ref f18))) (l18 : K.lookup f18 = some ⟨oc18, od18, .func (PySem.W.fnOf "_law_next" "_law_next" (defArgs s__law_next) (defBody s__law_next) (defScope s__law_next) .none kV18 dc18 pm18 an18 cd18 ct18), sl18⟩) (c18 : PySem.W.codeIn K cd18 "_law_next" = true) (k18 : PySem.W.keepIn K (.ref f18) = true)
    {od19 an19 : Option Addr} {sl19 : Array (Option Value)} {oc19 kV19 dc19 pm19 cd19 ct19 : Value} {f19 : Addr} (a19 : PySem.W.nsIn K mainGlobals "_law_pick" = some (some (.ref f19))) (l19 : K.lookup f19 = some ⟨oc19, od19, .func (PySem.W.fnOf "_law_pick" "_law_pick" (defArgs s__law_pick) (defBody s__law_pick) (defScope s__law_pick) .none kV19 dc19 pm19 an19 cd19 ct19), sl19⟩) (c19 : PySem.W.codeIn K cd19 "_law_pick" = true) (k19 : PySem.W.keepIn K (.ref f19) = true)
    {od20 an20 : Option Addr} {sl20 : Array (Option Value)} {oc20 kV20 dc20 pm20 cd20 ct20 : Value} {f20 : Addr} (a20 : PySem.W.nsIn K mainGlobals "_law_same" = some (some (.ref f20))) (l20 : K.lookup f20 = some ⟨oc20, od20, .func (PySem.W.fnOf "_law_same" "_law_same" (defArgs s__law_same) (defBody s__law_same) (defScope s__law_same) .none kV20 dc20 pm20 an20 cd20 ct20), sl20⟩) (c20 : PySem.W.codeIn K cd20 "_law_same" = true) (k20 : PySem.W.keepIn K (.ref f20) = true)
    {od21 an21 : Option Addr} {sl21 : Array (Option Value)} {oc21 kV21 dc21 pm21 cd21 ct21 : Value} {f21 : Addr} (a21 : PySem.W.nsIn K mainGlobals "_law_ratio" = some (some (.ref f21))) (l21 : K.lookup f21 = some ⟨oc21, od21, .func (PySem.W.fnOf "_law_ratio" "_law_ratio" (defArgs s__law_ratio) (defBody s__law_ratio) (defScope s__law_ratio) .none kV21 dc21 pm21 an21 cd21 ct21), sl21⟩) (c21 : PySem.W.codeIn K cd21 "_law_ratio" = true) (k21 : PySem.W.keepIn K (.ref f21) = true)
    {od22 an22 : Option Addr} {sl22 : Array (Option Value)} {oc22 kV22 dc22 pm22 cd22 ct22 : Value} {f22 : Addr} (a22 : PySem.W.nsIn K mainGlobals "_law_two" = some (some (.ref f22))) (l22 : K.lookup f22 = some ⟨oc22, od22, .func (PySem.W.fnOf "_law_two" "_law_two" (defArgs s__law_two) (defBody s__law_two) (defScope s__law_two) .none kV22 dc22 pm22 an22 cd22 ct22), sl22⟩) (c22 : PySem.W.codeIn K cd22 "_law_two" = true) (k22 : PySem.W.keepIn K (.ref f22) = true)
    {od23 an23 : Option Addr} {sl23 : Array (Option Value)} {oc23 kV23 dc23 pm23 cd23 ct23 : Value} {f23 : Addr} (a23 : PySem.W.nsIn K mainGlobals "_law_less" = some (some (.ref f23))) (l23 : K.lookup f23 = some ⟨oc23, od23, .func (PySem.W.fnOf "_law_less" "_law_less" (defArgs s__law_less) (defBody s__law_less) (defScope s__law_less) .none kV23 dc23 pm23 an23 cd23 ct23), sl23⟩) (c23 : PySem.W.codeIn K cd23 "_law_less" = true) (k23 : PySem.W.keepIn K (.ref f23) = true)
    {od24 an24 : Option Addr} {sl24 : Array (Option Value)} {oc24 kV24 dc24 pm24 cd24 ct24 : Value} {f24 : Addr} (a24 : PySem.W.nsIn K mainGlobals "_law_big" = some (some (.ref f24))) (l24 : K.lookup f24 = some ⟨oc24, od24, .func (PySem.W.fnOf "_law_big" "_law_big" (defArgs s__law_big) (defBody s__law_big) (defScope s__law_big) .none kV24 dc24 pm24 an24 cd24 ct24), sl24⟩) (c24 : PySem.W.codeIn K cd24 "_law_big" = true) (k24 : PySem.W.keepIn K (.ref f24) = true)
    {od25 an25 : Option Addr} {sl25 : Array (Option Value)} {oc25 kV25 dc25 pm25 cd25 ct25 : Value} {f25 : Addr} (a25 : PySem.W.nsIn K mainGlobals "law" = some (some (.ref f25))) (l25 : K.lookup f25 = some ⟨oc25, od25, .func (PySem.W.fnOf "law" "law" (defArgs s_law) (defBody s_law) (defScope s_law) .none kV25 dc25 pm25 an25 cd25 ct25), sl25⟩) (c25 : PySem.W.codeIn K cd25 "law" = true) (k25 : PySem.W.keepIn K (.ref f25) = true)
    (z_abs : PySem.W.nsIn K mainGlobals "abs" = some none) (z_isinstance : PySem.W.nsIn K mainGlobals "isinstance" = some none) (z_tuple : PySem.W.nsIn K mainGlobals "tuple" = some none) (z_len : PySem.W.nsIn K mainGlobals "len" = some none) (z_int : PySem.W.nsIn K mainGlobals "int" = some none) (z_bool : PySem.W.nsIn K mainGlobals "bool" = some none) (z_all : PySem.W.nsIn K mainGlobals "all" = some none) (z_list : PySem.W.nsIn K mainGlobals "list" = some none) (z_range : PySem.W.nsIn K mainGlobals "range" = some none) (z_str : PySem.W.nsIn K mainGlobals "str" = some none) (z_dict : PySem.W.nsIn K mainGlobals "dict" = some none) (z_any : PySem.W.nsIn K mainGlobals "any" = some none) :
    ∃ fd : FuncData, (∀ (s : Shared) (v : Value), BindsTo s fd ⟨[v], []⟩ [("script", v)]) ∧ ∀ base : Heap, K.In base → base.Ns mainGlobals mg → FnOk l.prog w K mg base CX0 9 fa fd ["script"] (spD K [.sh] .sh (F_law)) := by
  have e := hfa.symm.trans (PySem.W.mg_of X G a25)
  cases e
  have m_abs := PySem.W.mg_none_of X G z_abs
  have m_isinstance := PySem.W.mg_none_of X G z_isinstance
  have m_tuple := PySem.W.mg_none_of X G z_tuple
  have m_len := PySem.W.mg_none_of X G z_len
  have m_int := PySem.W.mg_none_of X G z_int
  have m_bool := PySem.W.mg_none_of X G z_bool
  have m_all := PySem.W.mg_none_of X G z_all
  have m_list := PySem.W.mg_none_of X G z_list
  have m_range := PySem.W.mg_none_of X G z_range
  have m_str := PySem.W.mg_none_of X G z_str
  have m_dict := PySem.W.mg_none_of X G z_dict
  have m_any := PySem.W.mg_none_of X G z_any
  have F0 := fun_mk (st := s_divisor) l0 c0 k0
  have b0 := F0.binds (ps := ["a", "b"]) fun _ _ _ _ _ _ us hl => match us, hl with | [_, _], _ => rfl
  have F1 := fun_mk (st := s_ratio) l1 c1 k1
  have b1 := F1.binds (ps := ["above", "below"]) fun _ _ _ _ _ _ us hl => match us, hl with | [_, _], _ => rfl
  have F2 := fun_mk (st := s_parts) l2 c2 k2
  have b2 := F2.binds (ps := ["number"]) fun _ _ _ _ _ _ us hl => match us, hl with | [_], _ => rfl
  have F3 := fun_mk (st := s_add) l3 c3 k3
  have b3 := F3.binds (ps := ["one", "other"]) fun _ _ _ _ _ _ us hl => match us, hl with | [_, _], _ => rfl
  have F4 := fun_mk (st := s_minus) l4 c4 k4
  have b4 := F4.binds (ps := ["number"]) fun _ _ _ _ _ _ us hl => match us, hl with | [_], _ => rfl
  have F5 := fun_mk (st := s_sub) l5 c5 k5
  have b5 := F5.binds (ps := ["one", "other"]) fun _ _ _ _ _ _ us hl => match us, hl with | [_, _], _ => rfl
  have F6 := fun_mk (st := s_mul) l6 c6 k6
  have b6 := F6.binds (ps := ["one", "other"]) fun _ _ _ _ _ _ us hl => match us, hl with | [_, _], _ => rfl
  have F7 := fun_mk (st := s_div) l7 c7 k7
  have b7 := F7.binds (ps := ["one", "other"]) fun _ _ _ _ _ _ us hl => match us, hl with | [_, _], _ => rfl
  have F8 := fun_mk (st := s_sign) l8 c8 k8
  have b8 := F8.binds (ps := ["number"]) fun _ _ _ _ _ _ us hl => match us, hl with | [_], _ => rfl
  have F9 := fun_mk (st := s_less) l9 c9 k9
  have b9 := F9.binds (ps := ["one", "other"]) fun _ _ _ _ _ _ us hl => match us, hl with | [_, _], _ => rfl
  have F10 := fun_mk (st := s_floor) l10 c10 k10
  have b10 := F10.binds (ps := ["number"]) fun _ _ _ _ _ _ us hl => match us, hl with | [_], _ => rfl
  have F11 := fun_mk (st := s_ceiling) l11 c11 k11
  have b11 := F11.binds (ps := ["number"]) fun _ _ _ _ _ _ us hl => match us, hl with | [_], _ => rfl
  have F12 := fun_mk (st := s_rounded) l12 c12 k12
  have b12 := F12.binds (ps := ["number"]) fun _ _ _ _ _ _ us hl => match us, hl with | [_], _ => rfl
  have F13 := fun_mk (st := s_cut) l13 c13 k13
  have b13 := F13.binds (ps := ["number"]) fun _ _ _ _ _ _ us hl => match us, hl with | [_], _ => rfl
  have F14 := fun_mk (st := s_is_number) l14 c14 k14
  have b14 := F14.binds (ps := ["value"]) fun _ _ _ _ _ _ us hl => match us, hl with | [_], _ => rfl
  have F15 := fun_mk (st := s_least) l15 c15 k15
  have b15 := F15.binds (ps := ["numbers"]) fun _ _ _ _ _ _ us hl => match us, hl with | [_], _ => rfl
  have F16 := fun_mk (st := s_greatest) l16 c16 k16
  have b16 := F16.binds (ps := ["numbers"]) fun _ _ _ _ _ _ us hl => match us, hl with | [_], _ => rfl
  have F17 := fun_mk (st := s__law_draws) l17 c17 k17
  have b17 := F17.binds (ps := ["script"]) fun _ _ _ _ _ _ us hl => match us, hl with | [_], _ => rfl
  have F18 := fun_mk (st := s__law_next) l18 c18 k18
  have b18 := F18.binds (ps := ["draws", "bound"]) fun _ _ _ _ _ _ us hl => match us, hl with | [_, _], _ => rfl
  have F19 := fun_mk (st := s__law_pick) l19 c19 k19
  have b19 := F19.binds (ps := ["draws", "things"]) fun _ _ _ _ _ _ us hl => match us, hl with | [_, _], _ => rfl
  have F20 := fun_mk (st := s__law_same) l20 c20 k20
  have b20 := F20.binds (ps := ["x", "due"]) fun _ _ _ _ _ _ us hl => match us, hl with | [_, _], _ => rfl
  have F21 := fun_mk (st := s__law_ratio) l21 c21 k21
  have b21 := F21.binds (ps := ["above", "below"]) fun _ _ _ _ _ _ us hl => match us, hl with | [_, _], _ => rfl
  have F22 := fun_mk (st := s__law_two) l22 c22 k22
  have b22 := F22.binds (ps := ["number"]) fun _ _ _ _ _ _ us hl => match us, hl with | [_], _ => rfl
  have F23 := fun_mk (st := s__law_less) l23 c23 k23
  have b23 := F23.binds (ps := ["one", "other"]) fun _ _ _ _ _ _ us hl => match us, hl with | [_, _], _ => rfl
  have F24 := fun_mk (st := s__law_big) l24 c24 k24
  have b24 := F24.binds (ps := ["draws"]) fun _ _ _ _ _ _ us hl => match us, hl with | [_], _ => rfl
  have F25 := fun_mk (st := s_law) l25 c25 k25
  refine ⟨PySem.W.fnOf "law" "law" (defArgs s_law) (defBody s_law) (defScope s_law) .none kV25 dc25 pm25 an25 cd25 ct25, fun s v => .of_eq rfl, fun base _ _ => ?_⟩
  have cl_divisor : Cl l.prog w K mg base CX0 1 "divisor" [.sh, .sh] .sh (F_div) := ⟨f0, _, _, ok_divisor (k := 0) F0  , PySem.W.mg_of X G a0, k0, b0⟩
  have cl_ratio : Cl l.prog w K mg base CX0 2 "ratio" [.sh, .sh] .sh (F_ratio) := ⟨f1, _, _, ok_ratio (k := 1) F1 (cl_divisor.le (by decide)) m_abs, PySem.W.mg_of X G a1, k1, b1⟩
  have cl_parts : Cl l.prog w K mg base CX0 1 "parts" [.sh] .sh (F_parts) := ⟨f2, _, _, ok_parts (k := 0) F2  m_isinstance m_tuple, PySem.W.mg_of X G a2, k2, b2⟩
  have cl_add : Cl l.prog w K mg base CX0 3 "add" [.sh, .sh] .sh (F_add) := ⟨f3, _, _, ok_add (k := 2) F3 (cl_parts.le (by decide)) (cl_ratio.le (by decide)) , PySem.W.mg_of X G a3, k3, b3⟩
  have cl_minus : Cl l.prog w K mg base CX0 3 "minus" [.sh] .sh (F_minus) := ⟨f4, _, _, ok_minus (k := 2) F4 (cl_parts.le (by decide)) (cl_ratio.le (by decide)) , PySem.W.mg_of X G a4, k4, b4⟩
  have cl_sub : Cl l.prog w K mg base CX0 4 "sub" [.sh, .sh] .sh (F_sub) := ⟨f5, _, _, ok_sub (k := 3) F5 (cl_add.le (by decide)) (cl_minus.le (by decide)) , PySem.W.mg_of X G a5, k5, b5⟩
  have cl_mul : Cl l.prog w K mg base CX0 3 "mul" [.sh, .sh] .sh (F_mul) := ⟨f6, _, _, ok_mul (k := 2) F6 (cl_parts.le (by decide)) (cl_ratio.le (by decide)) , PySem.W.mg_of X G a6, k6, b6⟩
  have cl_div : Cl l.prog w K mg base CX0 3 "div" [.sh, .sh] .sh (F_dv) := ⟨f7, _, _, ok_div (k := 2) F7 (cl_parts.le (by decide)) (cl_ratio.le (by decide)) , PySem.W.mg_of X G a7, k7, b7⟩
  have cl_sign : Cl l.prog w K mg base CX0 2 "sign" [.sh] .sh (F_sign) := ⟨f8, _, _, ok_sign (k := 1) F8 (cl_parts.le (by decide)) , PySem.W.mg_of X G a8, k8, b8⟩
  have cl_less : Cl l.prog w K mg base CX0 5 "less" [.sh, .sh] .sh (F_less) := ⟨f9, _, _, ok_less (k := 4) F9 (cl_sign.le (by decide)) (cl_sub.le (by decide)) , PySem.W.mg_of X G a9, k9, b9⟩
  have cl_floor : Cl l.prog w K mg base CX0 2 "floor" [.sh] .sh (F_floor) := ⟨f10, _, _, ok_floor (k := 1) F10 (cl_parts.le (by decide)) , PySem.W.mg_of X G a10, k10, b10⟩
  have cl_ceiling : Cl l.prog w K mg base CX0 2 "ceiling" [.sh] .sh (F_ceil) := ⟨f11, _, _, ok_ceiling (k := 1) F11 (cl_parts.le (by decide)) , PySem.W.mg_of X G a11, k11, b11⟩
  have cl_rounded : Cl l.prog w K mg base CX0 4 "rounded" [.sh] .sh (F_round) := ⟨f12, _, _, ok_rounded (k := 3) F12 (cl_floor.le (by decide)) (cl_add.le (by decide)) , PySem.W.mg_of X G a12, k12, b12⟩
  have cl_cut : Cl l.prog w K mg base CX0 3 "cut" [.sh] .sh (F_cut) := ⟨f13, _, _, ok_cut (k := 2) F13 (cl_sign.le (by decide)) (cl_floor.le (by decide)) (cl_ceiling.le (by decide)) , PySem.W.mg_of X G a13, k13, b13⟩
  have cl_is_number : Cl l.prog w K mg base CX0 2 "is_number" [.sh] .sh (F_isn) := ⟨f14, _, _, ok_is_number (k := 1) F14 (cl_divisor.le (by decide)) m_isinstance m_tuple m_len m_int m_bool m_all m_abs, PySem.W.mg_of X G a14, k14, b14⟩
  have cl_least : Cl l.prog w K mg base CX0 6 "least" [.sh] .sh (F_least) := ⟨f15, _, _, ok_least (k := 5) F15 (cl_less.le (by decide)) , PySem.W.mg_of X G a15, k15, b15⟩
  have cl_greatest : Cl l.prog w K mg base CX0 7 "greatest" [.sh] .sh (F_gr) := ⟨f16, _, _, ok_greatest (k := 6) F16 (cl_minus.le (by decide)) (cl_least.le (by decide)) , PySem.W.mg_of X G a16, k16, b16⟩
  have cl__law_draws : Cl l.prog w K mg base CX0 1 "_law_draws" [.sh] (.own .sh) (L_draws) := ⟨f17, _, _, ok__law_draws (k := 0) F17  m_list m_int m_abs m_range, PySem.W.mg_of X G a17, k17, b17⟩
  have cl__law_next : Cl l.prog w K mg base CX0 1 "_law_next" [(.own .sh), .sh] .sh (L_next) := ⟨f18, _, _, ok__law_next (k := 0) F18  m_int m_len, PySem.W.mg_of X G a18, k18, b18⟩
  have cl__law_pick : Cl l.prog w K mg base CX0 2 "_law_pick" [(.own .sh), .sh] .sh (L_pick) := ⟨f19, _, _, ok__law_pick (k := 1) F19 (cl__law_next.le (by decide)) m_len, PySem.W.mg_of X G a19, k19, b19⟩
  have rc__law_same : ∀ n : Nat, Cl l.prog w K mg base CX0 (1 + n) "_law_same" [.sh, .sh] .sh (L_same n) := fun n => by
    induction n with
    | zero => exact ⟨f20, _, _, fn_none, PySem.W.mg_of X G a20, k20, b20⟩
    | succ n ih => exact ⟨f20, _, _, ok__law_same F20 ih m_isinstance m_bool m_int m_str m_dict m_len m_all m_list m_range m_tuple, PySem.W.mg_of X G a20, k20, b20⟩
  have cl__law_same := rc__law_same 7
  have cl__law_ratio : Cl l.prog w K mg base CX0 1 "_law_ratio" [.sh, .sh] .sh (L_ratio) := ⟨f21, _, _, ok__law_ratio (k := 0) F21  m_abs m_int, PySem.W.mg_of X G a21, k21, b21⟩
  have cl__law_two : Cl l.prog w K mg base CX0 1 "_law_two" [.sh] .sh (L_two) := ⟨f22, _, _, ok__law_two (k := 0) F22  m_isinstance m_tuple, PySem.W.mg_of X G a22, k22, b22⟩
  have cl__law_less : Cl l.prog w K mg base CX0 2 "_law_less" [.sh, .sh] .sh (L_less) := ⟨f23, _, _, ok__law_less (k := 1) F23 (cl__law_two.le (by decide)) , PySem.W.mg_of X G a23, k23, b23⟩
  have cl__law_big : Cl l.prog w K mg base CX0 3 "_law_big" [(.own .sh)] .sh (L_big) := ⟨f24, _, _, ok__law_big (k := 2) F24 (cl__law_next.le (by decide)) (cl__law_pick.le (by decide)) (cl__law_ratio.le (by decide)) , PySem.W.mg_of X G a24, k24, b24⟩
  exact ok_law (k := 8) F25 (cl__law_draws.le (by decide)) (cl__law_big.le (by decide)) (cl__law_two.le (by decide)) (cl__law_ratio.le (by decide)) (cl__law_same.le (by decide)) (cl_add.le (by decide)) (cl_sub.le (by decide)) (cl_mul.le (by decide)) (cl_minus.le (by decide)) (cl_div.le (by decide)) (cl_sign.le (by decide)) (cl_less.le (by decide)) (cl_floor.le (by decide)) (cl_ceiling.le (by decide)) (cl_rounded.le (by decide)) (cl_cut.le (by decide)) (cl__law_next.le (by decide)) (cl__law_less.le (by decide)) (cl_least.le (by decide)) (cl_greatest.le (by decide)) (cl__law_pick.le (by decide)) (cl_ratio.le (by decide)) (cl_is_number.le (by decide)) m_range m_int m_isinstance m_bool m_tuple m_len m_any
theorem walk {l : PySem.W.OpenLaw} {q : Program} {loose : List Str} {XP : (Str → Option Value) → Heap → Prop} {YP : World → Heap → Prop} {d : DefRec} {K : Params → PySem.W.Frag} (hn : l.most = some 63) (hdf : d.params.defaults = [])
    (hY : ∀ (w : World) (h : Heap), YP w h → (K w.params).In h)
    (F : ∀ (w : World) (mg : Str → Option Value) (fa : Addr) (h : Heap), (K w.params).In h → h.Ns mainGlobals mg → mg d.name = some (.ref fa) →
      ∃ fd : FuncData, (∀ (s : Shared) (u : Value), BindsTo s fd ⟨[u], []⟩ [("script", u)]) ∧ ∀ base : Heap, (K w.params).In base → base.Ns mainGlobals mg → FnOk l.prog w (K w.params) mg base CX0 9 fa fd ["script"] (spD (K w.params) [.sh] .sh (F_law))) :
    PySem.W.WalkO q loose XP YP l.row.toRowW d [] (fun f vs => PySem.call f vs) :=
  L2.walk_of (n := 63) (k := 9) (x := "script") (CX := fun _ => CX0) (sp := fun w => spD (K w.params) [.sh] .sh (F_law)) hn (by decide) hdf ⟨rfl, by decide, by decide⟩ hY F (fun w H a ns hl _ hS => law_sp hS (law_true ns hl)) fun _ _ _ _ _ z => z
end P00
open PySem PySem.W PyProof.Rows in
set_option maxRecDepth 100000 in
set_option maxHeartbeats 0 in
theorem PySem.Challenge.cw_pagewright_k00_whole_numbers_holds : PySem.Challenge.rw_pagewright_k00_whole_numbers.Holds := by
  w_on; o_law; k_head; (case hw => w_witness2)
  k_fill
  refine P00.walk (l := PySem.Challenge.rw_pagewright_k00_whole_numbers) rfl rfl (fun w h Y => PySem.W.kIn_of Y) ?F
  case F =>
    intro w mg fa h KX G hmg
    refine' P00.all_mk KX G hmg ?a0 ?l0 ?c0 ?k0 ?a1 ?l1 ?c1 ?k1 ?a2 ?l2 ?c2 ?k2 ?a3 ?l3 ?c3 ?k3 ?a4 ?l4 ?c4 ?k4 ?a5 ?l5 ?c5 ?k5 ?a6 ?l6 ?c6 ?k6 ?a7 ?l7 ?c7 ?k7 ?a8 ?l8 ?c8 ?k8 ?a9 ?l9 ?c9 ?k9 ?a10 ?l10 ?c10 ?k10 ?a11 ?l11 ?c11 ?k11 ?a12 ?l12 ?c12 ?k12 ?a13 ?l13 ?c13 ?k13 ?a14 ?l14 ?c14 ?k14 ?a15 ?l15 ?c15 ?k15 ?a16 ?l16 ?c16 ?k16 ?a17 ?l17 ?c17 ?k17 ?a18 ?l18 ?c18 ?k18 ?a19 ?l19 ?c19 ?k19 ?a20 ?l20 ?c20 ?k20 ?a21 ?l21 ?c21 ?k21 ?a22 ?l22 ?c22 ?k22 ?a23 ?l23 ?c23 ?k23 ?a24 ?l24 ?c24 ?k24 ?a25 ?l25 ?c25 ?k25 ?z_abs ?z_isinstance ?z_tuple ?z_len ?z_int ?z_bool ?z_all ?z_list ?z_range ?z_str ?z_dict ?z_any
    (case a0 => k_is)
    (case l0 => k_is)
    (case c0 => k_is)
    (case k0 => k_is)
    (case a1 => k_is)
    (case l1 => k_is)
    (case c1 => k_is)
    (case k1 => k_is)
    (case a2 => k_is)
    (case l2 => k_is)
    (case c2 => k_is)
    (case k2 => k_is)
    (case a3 => k_is)
    (case l3 => k_is)
    (case c3 => k_is)
    (case k3 => k_is)
    (case a4 => k_is)
    (case l4 => k_is)
    (case c4 => k_is)
    (case k4 => k_is)
    (case a5 => k_is)
    (case l5 => k_is)
    (case c5 => k_is)
    (case k5 => k_is)
    (case a6 => k_is)
    (case l6 => k_is)
    (case c6 => k_is)
    (case k6 => k_is)
    (case a7 => k_is)
    (case l7 => k_is)
    (case c7 => k_is)
    (case k7 => k_is)
    (case a8 => k_is)
    (case l8 => k_is)
    (case c8 => k_is)
    (case k8 => k_is)
    (case a9 => k_is)
    (case l9 => k_is)
    (case c9 => k_is)
    (case k9 => k_is)
    (case a10 => k_is)
    (case l10 => k_is)
    (case c10 => k_is)
    (case k10 => k_is)
    (case a11 => k_is)
    (case l11 => k_is)
    (case c11 => k_is)
    (case k11 => k_is)
    (case a12 => k_is)
    (case l12 => k_is)
    (case c12 => k_is)
    (case k12 => k_is)
    (case a13 => k_is)
    (case l13 => k_is)
    (case c13 => k_is)
    (case k13 => k_is)
    (case a14 => k_is)
    (case l14 => k_is)
    (case c14 => k_is)
    (case k14 => k_is)
    (case a15 => k_is)
    (case l15 => k_is)
    (case c15 => k_is)
    (case k15 => k_is)
    (case a16 => k_is)
    (case l16 => k_is)
    (case c16 => k_is)
    (case k16 => k_is)
    (case a17 => k_is)
    (case l17 => k_is)
    (case c17 => k_is)
    (case k17 => k_is)
    (case a18 => k_is)
    (case l18 => k_is)
    (case c18 => k_is)
    (case k18 => k_is)
    (case a19 => k_is)
    (case l19 => k_is)
    (case c19 => k_is)
    (case k19 => k_is)
    (case a20 => k_is)
    (case l20 => k_is)
    (case c20 => k_is)
    (case k20 => k_is)
    (case a21 => k_is)
    (case l21 => k_is)
    (case c21 => k_is)
    (case k21 => k_is)
    (case a22 => k_is)
    (case l22 => k_is)
    (case c22 => k_is)
    (case k22 => k_is)
    (case a23 => k_is)
    (case l23 => k_is)
    (case c23 => k_is)
    (case k23 => k_is)
    (case a24 => k_is)
    (case l24 => k_is)
    (case c24 => k_is)
    (case k24 => k_is)
    (case a25 => k_is)
    (case l25 => k_is)
    (case c25 => k_is)
    (case k25 => k_is)
    (case z_abs => k_is)
    (case z_isinstance => k_is)
    (case z_tuple => k_is)
    (case z_len => k_is)
    (case z_int => k_is)
    (case z_bool => k_is)
    (case z_all => k_is)
    (case z_list => k_is)
    (case z_range => k_is)
    (case z_str => k_is)
    (case z_dict => k_is)
    (case z_any => k_is)
