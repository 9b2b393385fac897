import PyProof.Rows.All
import HandS.Exc
import Wide.All
import OpenK.AllK
import Wide.FinOn
import HandS.ForMost
import HandS.Deep
import HandS.TupAny
import HandS.Flow
import HandS.IsInst
import HandS.More
import HandS.Wide
import HandS.TupLe
import HandS.Style
import HandS.SortInts
import HandS.Text
import HandS.TupMul
import HandS.WideMore
import HandS.WideBits
import HandS.Zip
import HandS.NoneIn
import HandS.SortRule
import HandS.ExcInit
import KE.KSuper
import KE.KExcSuper
import HandS.ExcSuper
import HandS.WordsExc
import HandS.ExcField
import HandS.SetFor
import HandS.Strs
import PySem.Challenge.RW_pagewright_k87_whole_colours_and_curves
set_option Elab.async false
set_option linter.all false
set_option maxRecDepth 100000
set_option maxHeartbeats 8000000
/-! Dl: a layer of plain data over HandS. D: a value as a tree; Sh: shared, never written; R: by a mode, owned nodes listed. -/
namespace Dl
open PySem L2

inductive D where
  | non | bl (b : Bool) | int (i : Int) | str (x : Str)
  | lst (xs : List D) | frl (xs : List D) | tup (xs : List D) | ctu (xs : List D)
  | dK (ks : List Key) (xs : List D) | dT (ks : List (List Key)) (xs : List D)
  | val (v : V)
  /-- a slot's thing that was owned and is shared now -/
  | shd (d : D)

/-- a mode: shared, or owned with children of a mode -/
inductive Md where
  | sh | own (c : Md)
  deriving DecidableEq

abbrev Fg := List (Addr × HO)
def GLe (G G' : Hp) : Prop := ∀ a u, G a = some u → G' a = some u
theorem GLe.refl (G : Hp) : GLe G G := fun _ _ h => h
theorem GLe.trans {G1 G2 G3 : Hp} (a : GLe G1 G2) (b : GLe G2 G3) : GLe G1 G3 := fun c o h => b c o (a c o h)
theorem GLe.rd {G G' : Hp} (h : GLe G G') {a : Addr} {u : HO} (r : Rd G a u) : Rd G' a u := by
  rcases r with r | ⟨o, r⟩
  · exact .inl (h _ _ r)
  · exact .inr ⟨o, h _ _ r⟩
theorem GLe.sqL {K : PySem.W.Frag} {G G' : Hp} (h : GLe G G') {a : Addr} {xs : List V} (r : SqL K G a xs) : SqL K G' a xs := r.imp h.rd id
theorem GLe.sqTT {K : PySem.W.Frag} {G G' : Hp} (h : GLe G G') {a : Addr} {xs : List V} (r : SqT K G a xs) : SqT K G' a xs := r.imp h.rd id
theorem GLe.sqT {K : PySem.W.Frag} {G G' : Hp} (h : GLe G G') {a : Addr} {xs : List V} (r : G a = some (.tup xs)) : SqT K G' a xs := .inl (.inl (h _ _ r))

mutual
def Sh (K : PySem.W.Frag) (G : Hp) : D → V → Prop
  | .non, v => v = .non
  | .bl b, v => v = .bl b
  | .int i, v => v = .int i
  | .str x, v => v = .str x
  | .lst ds, v => ∃ a vs, v = .ref a ∧ G a = some (.lst vs) ∧ ShL K G ds vs
  | .frl ds, v => ∃ a vs, v = .ref a ∧ SqL K G a vs ∧ ShL K G ds vs
  | .ctu ds, v => ∃ a vs, v = .ref a ∧ SqT K G a vs ∧ ShL K G ds vs
  | .tup ds, v => ∃ a vs, v = .ref a ∧ G a = some (.tup vs) ∧ ShL K G ds vs
  | .dK ks ds, v => ∃ a vs, v = .ref a ∧ G a = some (.dK (ks.zip vs)) ∧ vs.length = ks.length ∧ ShL K G ds vs
  | .dT ks ds, v => ∃ a vs, v = .ref a ∧ G a = some (.dT (ks.zip vs)) ∧ vs.length = ks.length ∧ ShL K G ds vs
  | .val w, v => v = w
  | .shd d, v => Sh K G d v
def ShL (K : PySem.W.Frag) (G : Hp) : List D → List V → Prop
  | [], vs => vs = []
  | d :: ds, vs => ∃ v r, vs = v :: r ∧ Sh K G d v ∧ ShL K G ds r
end

mutual
def R (K : PySem.W.Frag) (G : Hp) : D → Md → V → Fg → Prop
  | .non, _, v, o => o = [] ∧ v = .non
  | .bl b, _, v, o => o = [] ∧ v = .bl b
  | .int i, _, v, o => o = [] ∧ v = .int i
  | .str x, _, v, o => o = [] ∧ v = .str x
  | .lst ds, .sh, v, o => o = [] ∧ ∃ a vs, v = .ref a ∧ G a = some (.lst vs) ∧ ShL K G ds vs
  | .frl ds, _, v, o => o = [] ∧ ∃ a vs, v = .ref a ∧ SqL K G a vs ∧ ShL K G ds vs
  | .ctu ds, _, v, o => o = [] ∧ ∃ a vs, v = .ref a ∧ SqT K G a vs ∧ ShL K G ds vs
  | .lst ds, .own c, v, o => ∃ a vs o', v = .ref a ∧ o = (a, .lst vs) :: o' ∧ RL K G ds c vs o'
  | .tup ds, .sh, v, o => o = [] ∧ ∃ a vs, v = .ref a ∧ G a = some (.tup vs) ∧ ShL K G ds vs
  | .tup ds, .own c, v, o => ∃ a vs, v = .ref a ∧ G a = some (.tup vs) ∧ RL K G ds c vs o
  | .dK ks ds, .sh, v, o => o = [] ∧ ∃ a vs, v = .ref a ∧ G a = some (.dK (ks.zip vs)) ∧ vs.length = ks.length ∧ ShL K G ds vs
  | .dK ks ds, .own c, v, o => ∃ a vs o', v = .ref a ∧ o = (a, .dK (ks.zip vs)) :: o' ∧ vs.length = ks.length ∧ RL K G ds c vs o'
  | .dT ks ds, .sh, v, o => o = [] ∧ ∃ a vs, v = .ref a ∧ G a = some (.dT (ks.zip vs)) ∧ vs.length = ks.length ∧ ShL K G ds vs
  | .dT ks ds, .own c, v, o => ∃ a vs o', v = .ref a ∧ o = (a, .dT (ks.zip vs)) :: o' ∧ vs.length = ks.length ∧ RL K G ds c vs o'
  | .val w, _, v, o => o = [] ∧ v = w
  | .shd d, _, v, o => o = [] ∧ Sh K G d v
def RL (K : PySem.W.Frag) (G : Hp) : List D → Md → List V → Fg → Prop
  | [], _, vs, o => vs = [] ∧ o = []
  | d :: ds, m, vs, o => ∃ v r o1 o2, vs = v :: r ∧ o = o1 ++ o2 ∧ R K G d m v o1 ∧ RL K G ds m r o2
end

section
variable {K : PySem.W.Frag} {G G' H H' : Hp}
mutual
theorem Sh.mono (h : GLe G G') : ∀ (d : D) {v : V}, Sh K G d v → Sh K G' d v
  | .non, _, r => r
  | .bl _, _, r => r
  | .int _, _, r => r
  | .str _, _, r => r
  | .lst ds, _, ⟨a, vs, e, q, r⟩ => ⟨a, vs, e, h _ _ q, ShL.mono h ds r⟩
  | .frl ds, _, ⟨a, vs, e, q, r⟩ => ⟨a, vs, e, h.sqL q, ShL.mono h ds r⟩
  | .ctu ds, _, ⟨a, vs, e, q, r⟩ => ⟨a, vs, e, h.sqTT q, ShL.mono h ds r⟩
  | .tup ds, _, ⟨a, vs, e, q, r⟩ => ⟨a, vs, e, h _ _ q, ShL.mono h ds r⟩
  | .dK _ ds, _, ⟨a, vs, e, q, l, r⟩ => ⟨a, vs, e, h _ _ q, l, ShL.mono h ds r⟩
  | .dT _ ds, _, ⟨a, vs, e, q, l, r⟩ => ⟨a, vs, e, h _ _ q, l, ShL.mono h ds r⟩
  | .val _, _, r => r
  | .shd d, _, r => Sh.mono h d r
theorem ShL.mono (h : GLe G G') : ∀ (ds : List D) {vs : List V}, ShL K G ds vs → ShL K G' ds vs
  | [], _, r => r
  | d :: ds, _, ⟨v, r, e, q, t⟩ => ⟨v, r, e, Sh.mono h d q, ShL.mono h ds t⟩
end
mutual
theorem R.mono (h : GLe G G') : ∀ (d : D) {m : Md} {v : V} {o : Fg}, R K G d m v o → R K G' d m v o
  | .non, _, _, _, r => r
  | .bl _, _, _, _, r => r
  | .int _, _, _, _, r => r
  | .str _, _, _, _, r => r
  | .lst ds, .sh, _, _, ⟨z, a, vs, e, q, r⟩ => ⟨z, a, vs, e, h _ _ q, ShL.mono h ds r⟩
  | .frl ds, _, _, _, ⟨z, a, vs, e, q, r⟩ => ⟨z, a, vs, e, h.sqL q, ShL.mono h ds r⟩
  | .ctu ds, _, _, _, ⟨z, a, vs, e, q, r⟩ => ⟨z, a, vs, e, h.sqTT q, ShL.mono h ds r⟩
  | .lst ds, .own _, _, _, ⟨a, vs, o', e, q, r⟩ => ⟨a, vs, o', e, q, RL.mono h ds r⟩
  | .tup ds, .sh, _, _, ⟨z, a, vs, e, q, r⟩ => ⟨z, a, vs, e, h _ _ q, ShL.mono h ds r⟩
  | .tup ds, .own _, _, _, ⟨a, vs, e, q, r⟩ => ⟨a, vs, e, h _ _ q, RL.mono h ds r⟩
  | .dK _ ds, .sh, _, _, ⟨z, a, vs, e, q, l, r⟩ => ⟨z, a, vs, e, h _ _ q, l, ShL.mono h ds r⟩
  | .dK _ ds, .own _, _, _, ⟨a, vs, o', e, q, l, r⟩ => ⟨a, vs, o', e, q, l, RL.mono h ds r⟩
  | .dT _ ds, .sh, _, _, ⟨z, a, vs, e, q, l, r⟩ => ⟨z, a, vs, e, h _ _ q, l, ShL.mono h ds r⟩
  | .dT _ ds, .own _, _, _, ⟨a, vs, o', e, q, l, r⟩ => ⟨a, vs, o', e, q, l, RL.mono h ds r⟩
  | .val _, _, _, _, r => r
  | .shd d, _, _, _, ⟨z, r⟩ => ⟨z, Sh.mono h d r⟩
theorem RL.mono (h : GLe G G') : ∀ (ds : List D) {m : Md} {vs : List V} {o : Fg}, RL K G ds m vs o → RL K G' ds m vs o
  | [], _, _, _, r => r
  | d :: ds, _, _, _, ⟨v, r, o1, o2, e, e2, q, t⟩ => ⟨v, r, o1, o2, e, e2, R.mono h d q, RL.mono h ds t⟩
end

theorem R.sh_iff : ∀ (d : D) {v : V} {o : Fg}, R K G d .sh v o ↔ o = [] ∧ Sh K G d v
  | .non, _, _ => Iff.rfl
  | .bl _, _, _ => Iff.rfl
  | .int _, _, _ => Iff.rfl
  | .str _, _, _ => Iff.rfl
  | .lst _, _, _ => Iff.rfl
  | .frl _, _, _ => Iff.rfl
  | .ctu _, _, _ => Iff.rfl
  | .tup _, _, _ => Iff.rfl
  | .dK _ _, _, _ => Iff.rfl
  | .dT _ _, _, _ => Iff.rfl
  | .val _, _, _ => Iff.rfl
  | .shd _, _, _ => Iff.rfl
theorem R.of_sh {d : D} {v : V} (h : Sh K G d v) : R K G d .sh v [] := (R.sh_iff d).mpr ⟨rfl, h⟩
theorem RL.sh_iff : ∀ (ds : List D) {vs : List V} {o : Fg}, RL K G ds .sh vs o ↔ o = [] ∧ ShL K G ds vs
  | [], _, _ => ⟨fun ⟨a, b⟩ => ⟨b, a⟩, fun ⟨a, b⟩ => ⟨b, a⟩⟩
  | d :: ds, vs, o => by
    constructor
    · rintro ⟨v, r, o1, o2, e, e2, q, t⟩
      obtain ⟨z1, q'⟩ := (R.sh_iff d).mp q
      obtain ⟨z2, t'⟩ := (RL.sh_iff ds).mp t
      subst z1; subst z2
      exact ⟨e2, v, r, e, q', t'⟩
    · rintro ⟨rfl, v, r, e, q, t⟩
      exact ⟨v, r, [], [], e, rfl, R.of_sh q, (RL.sh_iff ds).mpr ⟨rfl, t⟩⟩

/-- a value that is no object -/
def scal : D → Bool
  | .non => true
  | .bl _ => true
  | .int _ => true
  | .str _ => true
  | .val _ => true
  | _ => false
theorem R.scal : ∀ {d : D} {m m' : Md} {v : V} {o : Fg}, scal d = true → R K G d m v o → R K G d m' v o
  | .non, _, _, _, _, _, r => r
  | .bl _, _, _, _, _, _, r => r
  | .int _, _, _, _, _, _, r => r
  | .str _, _, _, _, _, _, r => r
  | .val _, _, _, _, _, _, r => r
theorem RL.scal : ∀ {ds : List D} {m m' : Md} {vs : List V} {o : Fg}, ds.all scal = true → RL K G ds m vs o → RL K G ds m' vs o
  | [], _, _, _, _, _, r => r
  | d :: ds, m, m', _, _, h, ⟨v, r, o1, o2, e, e2, q, t⟩ => by
    rw [List.all_cons, Bool.and_eq_true] at h
    exact ⟨v, r, o1, o2, e, e2, R.scal h.1 q, RL.scal h.2 t⟩
theorem RL.len : ∀ {ds : List D} {m : Md} {vs : List V} {o : Fg}, RL K G ds m vs o → vs.length = ds.length
  | [], _, _, _, ⟨e, _⟩ => by rw [e]; rfl
  | d :: ds, m, _, _, ⟨v, r, o1, o2, e, e2, q, t⟩ => by rw [e]; simp [RL.len t]
theorem ShL.len : ∀ {ds : List D} {vs : List V}, ShL K G ds vs → vs.length = ds.length
  | [], _, e => by rw [show _ = _ from e]; rfl
  | d :: ds, _, ⟨v, r, e, q, t⟩ => by rw [e]; simp [ShL.len t]
theorem ShL.get : ∀ {ds : List D} {vs : List V} {i : Nat} {d : D}, ShL K G ds vs → ds[i]? = some d → ∃ v, vs[i]? = some v ∧ Sh K G d v
  | [], _, _, _, _, e => by simp at e
  | d :: ds, _, 0, _, ⟨v, r, e, q, t⟩, h => by
    simp at h; subst h; subst e
    exact ⟨v, rfl, q⟩
  | d :: ds, _, i + 1, d', ⟨v, r, e, q, t⟩, h => by
    subst e
    obtain ⟨v', a, b⟩ := ShL.get (i := i) t (by simpa using h)
    exact ⟨v', by simpa using a, b⟩
theorem ShL.append : ∀ {ds es : List D} {vs us : List V}, ShL K G ds vs → ShL K G es us → ShL K G (ds ++ es) (vs ++ us)
  | [], _, _, _, e, h => by rw [show _ = _ from e]; exact h
  | d :: ds, _, _, _, ⟨v, r, e, q, t⟩, h => by subst e; exact ⟨v, r ++ _, rfl, q, ShL.append t h⟩
theorem RL.append : ∀ {ds es : List D} {m : Md} {vs us : List V} {o o' : Fg}, RL K G ds m vs o → RL K G es m us o' → RL K G (ds ++ es) m (vs ++ us) (o ++ o')
  | [], _, _, _, _, _, _, ⟨e, e'⟩, h => by subst e; subst e'; exact h
  | d :: ds, _, _, _, _, _, _, ⟨v, r, o1, o2, e, e2, q, t⟩, h => by
    subst e; subst e2
    exact ⟨v, r ++ _, o1, o2 ++ _, rfl, by simp, q, RL.append t h⟩
theorem ShL.take : ∀ {ds : List D} {vs : List V} (n : Nat), ShL K G ds vs → ShL K G (ds.take n) (vs.take n)
  | _, _, 0, _ => by simp [ShL]
  | [], _, n + 1, e => by rw [show _ = _ from e]; simp [ShL]
  | d :: ds, _, n + 1, ⟨v, r, e, q, t⟩ => by subst e; exact ⟨v, r.take n, rfl, q, ShL.take n t⟩
theorem ShL.drop : ∀ {ds : List D} {vs : List V} (n : Nat), ShL K G ds vs → ShL K G (ds.drop n) (vs.drop n)
  | _, _, 0, h => h
  | [], _, n + 1, e => by rw [show _ = _ from e]; simp [ShL]
  | d :: ds, _, n + 1, ⟨v, r, e, q, t⟩ => by subst e; exact ShL.drop n t
theorem ShL.reverse : ∀ {ds : List D} {vs : List V}, ShL K G ds vs → ShL K G ds.reverse vs.reverse
  | [], _, e => by rw [show _ = _ from e]; simp [ShL]
  | d :: ds, _, ⟨v, r, e, q, t⟩ => by
    subst e
    rw [List.reverse_cons, List.reverse_cons]
    exact ShL.append (ShL.reverse t) ⟨v, [], rfl, q, rfl⟩

/-! ### states -/
structure Sat (H G : Hp) (O : Fg) : Prop where
  le : GLe G H
  at_ : ∀ p ∈ O, H p.1 = some p.2 ∧ G p.1 = none
  nd : ∀ a : Addr, O.countP (fun p => p.1 == a) ≤ 1
def Le (O' O : Fg) : Prop := ∀ P : Addr × HO → Bool, O'.countP P ≤ O.countP P
theorem Le.mem {O' O : Fg} (h : Le O' O) {p : Addr × HO} (hp : p ∈ O') : p ∈ O := by
  classical
  have h1 := h (fun q => decide (q = p))
  have h2 : 0 < O'.countP (fun q => decide (q = p)) := List.countP_pos_iff.mpr ⟨p, hp, by simp⟩
  obtain ⟨q, hq, e⟩ := List.countP_pos_iff.mp (Nat.lt_of_lt_of_le h2 h1)
  have e' : q = p := of_decide_eq_true e
  exact e' ▸ hq
theorem Sat.re {O O' : Fg} (s : Sat H G O) (h : Le O' O) : Sat H G O' :=
  ⟨s.le, fun p hp => s.at_ p (h.mem hp), fun a => Nat.le_trans (h _) (s.nd a)⟩
end
local macro_rules | `(tactic| walk_at "fle") => `(tactic| (intro P; simp only [List.countP_append, List.countP_cons, List.countP_nil, List.append_nil, List.nil_append]; first | omega | (split <;> omega)))
section
variable {K : PySem.W.Frag} {G G' H H' : Hp} {O C : Fg} {a p : Addr} {u u' : HO}
theorem Sat.ne (s : Sat H G ((a, u) :: O)) : ∀ q ∈ O, q.1 ≠ a := fun q hq e => by
  have h := s.nd a
  rw [List.countP_cons] at h
  have h2 : 0 < O.countP (fun p => p.1 == a) := List.countP_pos_iff.mpr ⟨q, hq, by simp [e]⟩
  have h3 : ((a, u).1 == a) = true := by simp
  rw [if_pos h3] at h
  omega
/-- a new shared object -/
theorem Sat.newG (s : Sat H G O) (h : H p = none) : Sat (upd H p u) (upd G p u) O ∧ GLe G (upd G p u) := by
  have gn : G p = none := by
    cases e : G p with
    | none => rfl
    | some w => rw [s.le _ _ e] at h; cases h
  refine ⟨⟨fun b w e => ?_, fun q hq => ?_, s.nd⟩, fun b w e => ?_⟩
  · by_cases hb : b = p
    · subst hb; rw [upd_same] at e ⊢; exact e
    · rw [upd_ne hb] at e ⊢; exact s.le _ _ e
  · obtain ⟨h1, h2⟩ := s.at_ q hq
    have hb : q.1 ≠ p := fun e => by rw [e, h] at h1; cases h1
    rw [upd_ne hb, upd_ne hb]; exact ⟨h1, h2⟩
  · have hb : b ≠ p := fun e' => by rw [e', gn] at e; cases e
    rw [upd_ne hb]; exact e
/-- a new owned object -/
theorem Sat.newO (s : Sat H G O) (h : H p = none) : Sat (upd H p u) G ((p, u) :: O) := by
  have gn : G p = none := by
    cases e : G p with
    | none => rfl
    | some w => rw [s.le _ _ e] at h; cases h
  refine ⟨fun b w e => ?_, fun q hq => ?_, fun b => ?_⟩
  · have hb : b ≠ p := fun e' => by rw [e', gn] at e; cases e
    rw [upd_ne hb]; exact s.le _ _ e
  · rcases List.mem_cons.mp hq with rfl | hq
    · exact ⟨upd_same, gn⟩
    · obtain ⟨h1, h2⟩ := s.at_ q hq
      have hb : q.1 ≠ p := fun e => by rw [e, h] at h1; cases h1
      rw [upd_ne hb]; exact ⟨h1, h2⟩
  · rw [List.countP_cons]
    by_cases hb : p = b
    · have z : O.countP (fun q => q.1 == b) = 0 := List.countP_eq_zero.mpr fun q hq hqb => by
        have e : q.1 = b := by simpa using hqb
        have := (s.at_ q hq).1
        rw [e, ← hb, h] at this; cases this
      rw [z]; split <;> omega
    · have : ((p, u).1 == b) = false := by simpa using hb
      rw [this]; have := s.nd b; simp; omega
/-- an owned object is written -/
theorem Sat.write (s : Sat H G ((a, u) :: O)) : Sat (upd H a u') G ((a, u') :: O) := by
  have gn := (s.at_ (a, u) List.mem_cons_self).2
  refine ⟨fun b w e => ?_, fun q hq => ?_, fun b => ?_⟩
  · have hb : b ≠ a := fun e' => by rw [e', gn] at e; cases e
    rw [upd_ne hb]; exact s.le _ _ e
  · rcases List.mem_cons.mp hq with rfl | hq
    · exact ⟨upd_same, gn⟩
    · have hb := s.ne q hq
      rw [upd_ne hb]; exact s.at_ q (List.mem_cons_of_mem _ hq)
  · have h := s.nd b
    rw [List.countP_cons] at h ⊢
    exact h
theorem Sat.own (s : Sat H G ((a, u) :: O)) : H a = some u := (s.at_ (a, u) List.mem_cons_self).1
/-- an owned object is given away -/
theorem Sat.freeze (s : Sat H G ((a, u) :: O)) : Sat H (upd G a u) O ∧ GLe G (upd G a u) := by
  obtain ⟨h1, gn⟩ := s.at_ (a, u) List.mem_cons_self
  refine ⟨⟨fun b w e => ?_, fun q hq => ?_, fun b => ?_⟩, fun b w e => ?_⟩
  · by_cases hb : b = a
    · subst hb; rw [upd_same] at e; cases e; exact h1
    · rw [upd_ne hb] at e; exact s.le _ _ e
  · rw [upd_ne (s.ne q hq)]; exact s.at_ q (List.mem_cons_of_mem _ hq)
  · have h := s.nd b
    rw [List.countP_cons] at h
    omega
  · have hb : b ≠ a := fun e' => by rw [e', gn] at e; cases e
    rw [upd_ne hb]; exact e

mutual
/-- a value is given away: it is shared from now on -/
theorem R.freeze : ∀ (d : D) {m : Md} {v : V} {o C : Fg} {G : Hp}, R K G d m v o → Sat H G (o ++ C) → ∃ G', GLe G G' ∧ Sat H G' C ∧ Sh K G' d v
  | .non, _, _, _, _, G, ⟨z, r⟩, s => ⟨G, GLe.refl G, by subst z; exact s, r⟩
  | .bl _, _, _, _, _, G, ⟨z, r⟩, s => ⟨G, GLe.refl G, by subst z; exact s, r⟩
  | .int _, _, _, _, _, G, ⟨z, r⟩, s => ⟨G, GLe.refl G, by subst z; exact s, r⟩
  | .str _, _, _, _, _, G, ⟨z, r⟩, s => ⟨G, GLe.refl G, by subst z; exact s, r⟩
  | .shd _, _, _, _, _, G, ⟨z, r⟩, s => ⟨G, GLe.refl G, by subst z; exact s, r⟩
  | .val _, _, _, _, _, G, ⟨z, r⟩, s => ⟨G, GLe.refl G, by subst z; exact s, r⟩
  | .frl _, _, _, _, _, G, ⟨z, r⟩, s => ⟨G, GLe.refl G, by subst z; exact s, r⟩
  | .ctu _, _, _, _, _, G, ⟨z, r⟩, s => ⟨G, GLe.refl G, by subst z; exact s, r⟩
  | .lst _, .sh, _, _, _, G, ⟨z, r⟩, s => ⟨G, GLe.refl G, by subst z; exact s, r⟩
  | .tup _, .sh, _, _, _, G, ⟨z, r⟩, s => ⟨G, GLe.refl G, by subst z; exact s, r⟩
  | .dK _ _, .sh, _, _, _, G, ⟨z, r⟩, s => ⟨G, GLe.refl G, by subst z; exact s, r⟩
  | .dT _ _, .sh, _, _, _, G, ⟨z, r⟩, s => ⟨G, GLe.refl G, by subst z; exact s, r⟩
  | .lst ds, .own _, _, _, C, G, ⟨a, vs, o', e, e2, r⟩, s => by
    subst e2
    obtain ⟨s1, g1⟩ := Sat.freeze (show Sat H G ((a, .lst vs) :: (o' ++ C)) from s)
    obtain ⟨G', g2, s2, q⟩ := RL.freeze ds (RL.mono g1 ds r) s1
    exact ⟨G', g1.trans g2, s2, a, vs, e, g2 _ _ upd_same, q⟩
  | .tup ds, .own _, _, _, C, G, ⟨a, vs, e, t, r⟩, s => by
    obtain ⟨G', g2, s2, q⟩ := RL.freeze ds r s
    exact ⟨G', g2, s2, a, vs, e, g2 _ _ t, q⟩
  | .dK ks ds, .own _, _, _, C, G, ⟨a, vs, o', e, e2, l, r⟩, s => by
    subst e2
    obtain ⟨s1, g1⟩ := Sat.freeze (show Sat H G ((a, .dK (ks.zip vs)) :: (o' ++ C)) from s)
    obtain ⟨G', g2, s2, q⟩ := RL.freeze ds (RL.mono g1 ds r) s1
    exact ⟨G', g1.trans g2, s2, a, vs, e, g2 _ _ upd_same, l, q⟩
  | .dT ks ds, .own _, _, _, C, G, ⟨a, vs, o', e, e2, l, r⟩, s => by
    subst e2
    obtain ⟨s1, g1⟩ := Sat.freeze (show Sat H G ((a, .dT (ks.zip vs)) :: (o' ++ C)) from s)
    obtain ⟨G', g2, s2, q⟩ := RL.freeze ds (RL.mono g1 ds r) s1
    exact ⟨G', g1.trans g2, s2, a, vs, e, g2 _ _ upd_same, l, q⟩
theorem RL.freeze : ∀ (ds : List D) {m : Md} {vs : List V} {o C : Fg} {G : Hp}, RL K G ds m vs o → Sat H G (o ++ C) → ∃ G', GLe G G' ∧ Sat H G' C ∧ ShL K G' ds vs
  | [], _, _, _, _, G, ⟨e, z⟩, s => ⟨G, GLe.refl G, by subst z; exact s, e⟩
  | d :: ds, _, _, _, C, G, ⟨v, r, o1, o2, e, e2, q, t⟩, s => by
    subst e2
    obtain ⟨G1, g1, s1, q1⟩ := R.freeze d q (show Sat H G (o1 ++ (o2 ++ C)) by rw [← List.append_assoc]; exact s)
    obtain ⟨G2, g2, s2, q2⟩ := RL.freeze ds (RL.mono g1 ds t) s1
    exact ⟨G2, g1.trans g2, s2, v, r, e, Sh.mono g2 d q1, q2⟩
end
end
end Dl
/-! Dl, second part: environments of data, the mirror's monad, soundness of readings. -/
namespace Dl
open PySem L2
local macro_rules | `(tactic| walk_at "fle") => `(tactic| (intro P; simp only [List.countP_append, List.countP_cons, List.countP_nil, List.append_nil, List.nil_append]; first | omega | (split <;> omega)))

/-- the local names' data -/
abbrev De := List (Option D)
/-- an exception: its class, the fields of its own dict (if it has one) -/
structure XD where
  cls : Str
  own : Bool
  ns : List Str
  xs : List D
inductive Rs (α : Type) where
  | ok (a : α) (ρ : De)
  | ex (x : XD) (ρ : De)
abbrev Mr (α : Type) := De → Option (Rs α)
def bnd {α β : Type} (f : Mr α) (g : α → Mr β) : Mr β := fun ρ => match f ρ with
  | none => none
  | some (.ok a ρ') => g a ρ'
  | some (.ex x ρ') => some (.ex x ρ')
def lft {α : Type} (o : Option α) : Mr α := fun ρ => match o with
  | none => none
  | some a => some (.ok a ρ)
def ret {α : Type} (a : α) : Mr α := fun ρ => some (.ok a ρ)
theorem bnd_ok {α β : Type} {f : Mr α} {g : α → Mr β} {ρ ρ' : De} {a : α} (h : f ρ = some (.ok a ρ')) : bnd f g ρ = g a ρ' := by unfold bnd; rw [h]
theorem bnd_ex {α β : Type} {f : Mr α} {g : α → Mr β} {ρ ρ' : De} {x : XD} (h : f ρ = some (.ex x ρ')) : bnd f g ρ = some (.ex x ρ') := by unfold bnd; rw [h]
theorem bnd_none {α β : Type} {f : Mr α} {g : α → Mr β} {ρ : De} (h : f ρ = none) : bnd f g ρ = none := by unfold bnd; rw [h]
theorem lft_some {α : Type} {a : α} {ρ : De} : lft (some a) ρ = some (.ok a ρ) := rfl

def XR (K : PySem.W.Frag) (G : Hp) (x : XD) (c : Value) (dx : Option Addr) : Prop :=
  (∃ C : Addr, c = .ref C ∧ PySem.W.nsIn K mainGlobals x.cls = some (some (.ref C))) ∧ (x.own = false → dx = none) ∧ (x.own = true → ∃ d vs, dx = some d ∧ G d = some (.xd (x.ns.zip vs)) ∧ vs.length = x.ns.length ∧ ShL K G x.xs vs)

structure Sl (K : PySem.W.Frag) (G : Hp) (Γ : List Md) (σ : St) (ρ : De) (os : List Fg) : Prop where
  ls : ρ.length = σ.length
  lo : os.length = σ.length
  lg : Γ.length = σ.length
  at_ : ∀ (i : Nat) (d : D), ρ[i]? = some (some d) → ∃ v m o, σ[i]? = some (some v) ∧ Γ[i]? = some m ∧ os[i]? = some o ∧ R K G d m v o
structure Good (K : PySem.W.Frag) (Γ : List Md) (G H : Hp) (C : Fg) (σ : St) (ρ : De) : Prop where
  ex : ∃ os : List Fg, Sl K G Γ σ ρ os ∧ Sat H G (os.flatten ++ C)

theorem fl_set (P : Addr × HO → Bool) : ∀ {os : List Fg} {i : Nat} {o : Fg}, os[i]? = some o → os.flatten.countP P = o.countP P + ((os.set i []).flatten).countP P
  | [], _, _, h => by simp at h
  | x :: r, 0, o, h => by
    simp at h; subst h
    simp [List.countP_append]
  | x :: r, i + 1, o, h => by
    have := fl_set P (os := r) (i := i) (o := o) (by simpa using h)
    simp only [List.set_cons_succ, List.flatten_cons, List.countP_append]
    omega
theorem fl_put (P : Addr × HO → Bool) {os : List Fg} {i : Nat} (o : Fg) (h : i < os.length) : (os.set i o).flatten.countP P = o.countP P + ((os.set i []).flatten).countP P := by
  have := fl_set P (os := os.set i o) (i := i) (o := o) (by simp [h])
  rwa [List.set_set] at this

section
variable {K : PySem.W.Frag} {Γ : List Md} {G G' H H' : Hp} {C C' o : Fg} {σ : St} {ρ : De} {i : Nat} {d : D} {v : V} {m : Md}
theorem Sl.mono {os : List Fg} (h : Sl K G Γ σ ρ os) (g : GLe G G') : Sl K G' Γ σ ρ os :=
  ⟨h.ls, h.lo, h.lg, fun i d e => let ⟨v, m, o, a, b, c, r⟩ := h.at_ i d e; ⟨v, m, o, a, b, c, R.mono g d r⟩⟩
theorem Good.step (h : Good K Γ G H C σ ρ) (g : GLe G G') (k : ∀ O, Sat H G (O ++ C) → Sat H' G' (O ++ C')) : Good K Γ G' H' C' σ ρ :=
  let ⟨os, a, b⟩ := h.ex; ⟨os, a.mono g, k _ b⟩
theorem Good.re (h : Good K Γ G H C σ ρ) (l : Le C' C) : Good K Γ G H C' σ ρ := h.step (GLe.refl G) fun O s => s.re fun P => by
  have := l P
  simp only [List.countP_append]; omega
theorem Good.sat (h : Good K Γ G H C σ ρ) : Sat H G C := let ⟨_, _, b⟩ := h.ex; b.re (by walk_at "fle")
theorem Good.lenσ (h : Good K Γ G H C σ ρ) : ρ.length = σ.length := let ⟨_, a, _⟩ := h.ex; a.ls
theorem Good.lenΓ (h : Good K Γ G H C σ ρ) : Γ.length = σ.length := let ⟨_, a, _⟩ := h.ex; a.lg
/-- a slot's value, taken out -/
theorem Good.take (h : Good K Γ G H C σ ρ) (e : ρ[i]? = some (some d)) : ∃ v m o, σ[i]? = some (some v) ∧ Γ[i]? = some m ∧ R K G d m v o ∧ Good K Γ G H (o ++ C) σ (ρ.set i none) := by
  obtain ⟨os, a, b⟩ := h.ex
  obtain ⟨v, m, o, e1, e2, e3, r⟩ := a.at_ i d e
  refine ⟨v, m, o, e1, e2, r, os.set i [], ⟨by simpa using a.ls, by simpa using a.lo, a.lg, fun j d' ej => ?_⟩, b.re fun P => ?_⟩
  · by_cases hj : i = j
    · subst hj
      rw [List.getElem?_set_self (List.getElem?_eq_some_iff.mp e).1] at ej; cases ej
    · rw [List.getElem?_set_ne hj] at ej ⊢
      exact a.at_ j d' ej
  · have := fl_set P e3
    simp only [List.countP_append]; omega
/-- a slot forgotten -/
theorem Good.forget (h : Good K Γ G H C σ ρ) : Good K Γ G H C σ (ρ.set i none) := by
  obtain ⟨os, a, b⟩ := h.ex
  refine ⟨os, ⟨by simpa using a.ls, a.lo, a.lg, fun j d' ej => ?_⟩, b⟩
  by_cases hj : i = j
  · subst hj
    by_cases hi : i < ρ.length
    · rw [List.getElem?_set_self hi] at ej; cases ej
    · rw [List.getElem?_eq_none (by simpa using hi)] at ej; cases ej
  · rw [List.getElem?_set_ne hj] at ej
    exact a.at_ j d' ej
/-- a value laid into a slot that holds it -/
theorem Good.back (h : Good K Γ G H (o ++ C) σ ρ) (r : R K G d m v o) (e1 : σ[i]? = some (some v)) (e2 : Γ[i]? = some m) : Good K Γ G H C σ (ρ.set i (some d)) := by
  obtain ⟨os, a, b⟩ := h.ex
  have hi : i < σ.length := (List.getElem?_eq_some_iff.mp e1).1
  have ho : i < os.length := by rw [a.lo]; exact hi
  refine ⟨os.set i o, ⟨by simpa using a.ls, by simpa using a.lo, a.lg, fun j d' ej => ?_⟩, b.re fun P => ?_⟩
  · by_cases hj : i = j
    · subst hj
      rw [List.getElem?_set_self (by rw [a.ls]; exact hi)] at ej; cases ej
      exact ⟨v, m, o, e1, e2, by rw [List.getElem?_set_self ho], r⟩
    · rw [List.getElem?_set_ne hj] at ej
      rw [List.getElem?_set_ne hj]
      exact a.at_ j d' ej
  · have h1 := fl_put P o ho
    obtain ⟨o1, ho1⟩ : ∃ o1, os[i]? = some o1 := ⟨os[i], by simp [ho]⟩
    have h2 := fl_set P ho1
    simp only [List.countP_append]; omega
/-- a slot is assigned -/
theorem Good.put (h : Good K Γ G H (o ++ C) σ ρ) (r : R K G d m v o) (e2 : Γ[i]? = some m) : Good K Γ G H C (σ.set i (some v)) (ρ.set i (some d)) := by
  obtain ⟨os, a, b⟩ := h.ex
  have hi : i < σ.length := by rw [← a.lg]; exact (List.getElem?_eq_some_iff.mp e2).1
  have ho : i < os.length := by rw [a.lo]; exact hi
  refine ⟨os.set i o, ⟨by simpa using a.ls, by simpa using a.lo, by simpa using a.lg, fun j d' ej => ?_⟩, b.re fun P => ?_⟩
  · by_cases hj : i = j
    · subst hj
      rw [List.getElem?_set_self (by rw [a.ls]; exact hi)] at ej; cases ej
      exact ⟨v, m, o, by rw [List.getElem?_set_self hi], e2, by rw [List.getElem?_set_self ho], r⟩
    · rw [List.getElem?_set_ne hj] at ej
      rw [List.getElem?_set_ne hj, List.getElem?_set_ne hj]
      exact a.at_ j d' ej
  · have h1 := fl_put P o ho
    obtain ⟨o1, ho1⟩ : ∃ o1, os[i]? = some o1 := ⟨os[i], by simp [ho]⟩
    have h2 := fl_set P ho1
    simp only [List.countP_append]; omega
/-- a slot is assigned a value that no datum is told of -/
theorem Good.putAny (h : Good K Γ G H C σ ρ) : Good K Γ G H C (σ.set i (some v)) (ρ.set i none) := by
  obtain ⟨os, a, b⟩ := h.ex
  refine ⟨os, ⟨by simpa using a.ls, by simpa using a.lo, by simpa using a.lg, fun j d' ej => ?_⟩, b⟩
  by_cases hj : i = j
  · subst hj
    by_cases hi : i < ρ.length
    · rw [List.getElem?_set_self hi] at ej; cases ej
    · rw [List.getElem?_eq_none (by simpa using hi)] at ej; cases ej
  · rw [List.getElem?_set_ne hj] at ej
    rw [List.getElem?_set_ne hj]
    exact a.at_ j d' ej
end

/-! ### soundness -/
section
variable (K : PySem.W.Frag) (Γ : List Md) (Ek : WX)
def RQ {α β : Type} (Rel : St → Hp → α → β → Fg → Prop) (G : Hp) (C : Fg) (σ : St) (Q : β → Hp → Prop) : Rs α → Prop
  | .ok a ρ' => ∀ b H' G' o, GLe G G' → Rel σ G' a b o → Good K Γ G' H' (o ++ C) σ ρ' → Q b H'
  | .ex x ρ' => ∀ c dx H' G', GLe G G' → XR K G' x c dx → Good K Γ G' H' C σ ρ' → Ek c dx σ H'
def SndG {α β : Type} (Rel : St → Hp → α → β → Fg → Prop) (t : St → Hp → (β → Hp → Prop) → Prop) (f : Mr α) : Prop :=
  ∀ (σ : St) (H G : Hp) (C : Fg) (ρ : De) (Q : β → Hp → Prop) (r : Rs α), Good K Γ G H C σ ρ → f ρ = some r → RQ K Γ Ek Rel G C σ Q r → t σ H Q
def Cont {α α' β β' : Type} (Rel1 : St → Hp → α → β → Fg → Prop) (Rel2 : St → Hp → α' → β' → Fg → Prop) (a : α) (b : β) (t : St → Hp → (β' → Hp → Prop) → Prop) (f : Mr α') : Prop :=
  ∀ (σ : St) (H G : Hp) (C o : Fg) (ρ : De) (Q : β' → Hp → Prop) (r : Rs α'), Rel1 σ G a b o → Good K Γ G H (o ++ C) σ ρ → f ρ = some r → RQ K Γ Ek Rel2 G C σ Q r → t σ H Q
end
def RMono {α β : Type} (Rel : St → Hp → α → β → Fg → Prop) : Prop := ∀ σ G G' a b o, GLe G G' → Rel σ G a b o → Rel σ G' a b o
/-- an expression's relation -/
abbrev RE (K : PySem.W.Frag) (m : Md) : St → Hp → D → V → Fg → Prop := fun _ G d v o => R K G d m v o
abbrev RB : St → Hp → Bool → Bool → Fg → Prop := fun _ _ a b o => a = b ∧ o = []
def RP {α α' β β' : Type} (R1 : St → Hp → α → β → Fg → Prop) (R2 : St → Hp → α' → β' → Fg → Prop) : St → Hp → α × α' → β × β' → Fg → Prop :=
  fun σ G a b o => ∃ o1 o2, o = o1 ++ o2 ∧ R1 σ G a.1 b.1 o1 ∧ R2 σ G a.2 b.2 o2
theorem RE.mono {K : PySem.W.Frag} {m : Md} : RMono (RE K m) := fun _ _ _ d _ _ g r => R.mono g d r
theorem RB.mono : RMono RB := fun _ _ _ _ _ _ _ r => r
theorem RP.mono {α α' β β' : Type} {R1 : St → Hp → α → β → Fg → Prop} {R2 : St → Hp → α' → β' → Fg → Prop} (h1 : RMono R1) (h2 : RMono R2) : RMono (RP R1 R2) :=
  fun σ G G' a b o g ⟨o1, o2, e, r1, r2⟩ => ⟨o1, o2, e, h1 _ _ _ _ _ _ g r1, h2 _ _ _ _ _ _ g r2⟩

section
variable {K : PySem.W.Frag} {Γ : List Md} {Ek : WX} {α α' β β' : Type} {Rel : St → Hp → α → β → Fg → Prop} {Rel1 : St → Hp → α → β → Fg → Prop} {Rel2 : St → Hp → α' → β' → Fg → Prop}
theorem RQ.mono {G G1 : Hp} {C : Fg} {σ : St} {Q : β → Hp → Prop} {r : Rs α} (g : GLe G G1) (h : RQ K Γ Ek Rel G C σ Q r) : RQ K Γ Ek Rel G1 C σ Q r := by
  cases r with
  | ok a ρ => exact fun b H' G' o g' => h b H' G' o (g.trans g')
  | ex x ρ => exact fun c dx H' G' g' => h c dx H' G' (g.trans g')
theorem SndG.bind {t1 : St → Hp → (β → Hp → Prop) → Prop} {t2 : β → St → Hp → (β' → Hp → Prop) → Prop} {f1 : Mr α} {f2 : α → Mr α'} (h1 : SndG K Γ Ek Rel1 t1 f1) (h2 : ∀ a b, Cont K Γ Ek Rel1 Rel2 a b (t2 b) (f2 a)) :
    SndG K Γ Ek Rel2 (fun σ H Q => t1 σ H fun b H1 => t2 b σ H1 Q) (bnd f1 f2) := by
  intro σ H G C ρ Q r hg hf hq
  cases e : f1 ρ with
  | none => rw [bnd_none e] at hf; cases hf
  | some r1 =>
    refine h1 σ H G C ρ _ r1 hg e ?_
    cases r1 with
    | ok a ρ1 =>
      rw [bnd_ok e] at hf
      exact fun b H' G' o g rel good => h2 a b σ H' G' C o ρ1 Q r rel good hf (hq.mono g)
    | ex x ρ1 =>
      rw [bnd_ex e] at hf
      cases hf
      exact hq
/-- what a value gives, by values alone -/
def VOp (K : PySem.W.Frag) (Rel : St → Hp → α → β → Fg → Prop) (m : Md) (k : β → Hp → VK → Prop) (g : α → Option D) : Prop :=
  ∀ (σ : St) (G H : Hp) (C : Fg) (a : α) (b : β) (o : Fg) (d : D) (Q : VK), Rel σ G a b o → Sat H G (o ++ C) → g a = some d →
    (∀ v H' G' o', GLe G G' → R K G' d m v o' → Sat H' G' (o' ++ C) → Q v H') → k b H Q
theorem SndG.op {m : Md} {t : St → Hp → (β → Hp → Prop) → Prop} {f : Mr α} {k : β → Hp → VK → Prop} {g : α → Option D} (h : SndG K Γ Ek Rel t f) (hv : VOp K Rel m k g) :
    SndG K Γ Ek (RE K m) (fun σ H Q => t σ H fun b H1 => k b H1 Q) (bnd f fun a => lft (g a)) := by
  refine SndG.bind (t2 := fun b _ H1 Q => k b H1 Q) h fun a b σ H G C o ρ Q r rel good hf hq => ?_
  cases e : g a with
  | none => rw [e] at hf; cases hf
  | some d =>
    rw [e] at hf
    cases hf
    obtain ⟨os, sl, s⟩ := good.ex
    refine hv σ G H (os.flatten ++ C) a b o d Q rel (s.re (by walk_at "fle")) e fun v H' G' o' g' r' s' => ?_
    exact hq v H' G' o' g' r' ⟨os, sl.mono g', s'.re (by walk_at "fle")⟩
def tPair (t : St → Hp → (β → Hp → Prop) → Prop) (u : St → Hp → (β' → Hp → Prop) → Prop) : St → Hp → (β × β' → Hp → Prop) → Prop := fun σ H Q => t σ H fun x H1 => u σ H1 fun y H2 => Q (x, y) H2
def mPair (f : Mr α) (g : Mr α') : Mr (α × α') := bnd f fun a => bnd g fun b => ret (a, b)
theorem SndG.pair {t : St → Hp → (β → Hp → Prop) → Prop} {u : St → Hp → (β' → Hp → Prop) → Prop} {f : Mr α} {g : Mr α'} (h1 : SndG K Γ Ek Rel1 t f) (h2 : SndG K Γ Ek Rel2 u g) (mo : RMono Rel1) :
    SndG K Γ Ek (RP Rel1 Rel2) (tPair t u) (mPair f g) := by
  refine SndG.bind (t2 := fun x σ H Q => u σ H fun y H2 => Q (x, y) H2) h1 fun a b σ H G C o ρ Q r rel good hf hq => ?_
  cases e : g ρ with
  | none => rw [bnd_none e] at hf; cases hf
  | some r2 =>
    refine h2 σ H G (o ++ C) ρ _ r2 good e ?_
    cases r2 with
    | ok a2 ρ2 =>
      rw [bnd_ok e] at hf
      cases hf
      exact fun b2 H2 G2 o2 g2 rel2 good2 => hq (b, b2) H2 G2 (o ++ o2) g2 ⟨o, o2, rfl, mo _ _ _ _ _ _ g2 rel, rel2⟩ (good2.re (by walk_at "fle"))
    | ex x ρ2 =>
      rw [bnd_ex e] at hf
      cases hf
      exact fun c dx H' G' g' xr good' => hq c dx H' G' g' xr (good'.re (by walk_at "fle"))
/-- what a value gives, mapped -/
theorem SndG.imp {t : St → Hp → (β → Hp → Prop) → Prop} {f : Mr α} {Rel' : St → Hp → α → β → Fg → Prop} (h : SndG K Γ Ek Rel t f) (hi : ∀ σ G a b o, Rel σ G a b o → Rel' σ G a b o) : SndG K Γ Ek Rel' t f := by
  intro σ H G C ρ Q r hg hf hq
  refine h σ H G C ρ Q r hg hf ?_
  cases r with
  | ok a ρ' => exact fun b H' G' o g rel good => hq b H' G' o g (hi _ _ _ _ _ rel) good
  | ex x ρ' => exact hq
end

/-! ### expressions -/
section
variable {K : PySem.W.Frag} {Γ : List Md} {Ek : WX} {m m' : Md} {t ta tb : TE} {f fa fb : Mr D}
abbrev Snd (K : PySem.W.Frag) (Γ : List Md) (Ek : WX) (m : Md) (t : TE) (f : Mr D) : Prop := SndG K Γ Ek (RE K m) t f
def mVar (i : Nat) : Mr D := fun ρ => match ρ[i]? with
  | some (some d) => some (.ok d ρ)
  | _ => none
def isShd : D → Bool
  | .shd _ => true
  | _ => false
def unsh : D → D
  | .shd d => d
  | d => d
/-- taken out of its slot -/
def mMov (i : Nat) : Mr D := fun ρ => match ρ[i]? with
  | some (some d) => if isShd d = true then none else some (.ok d (ρ.set i none))
  | _ => none
/-- shared from now on -/
def mFz (i : Nat) : Mr D := fun ρ => match ρ[i]? with
  | some (some d) => some (.ok (unsh d) (ρ.set i (some (.shd (unsh d)))))
  | _ => none
theorem mMov_inv {i : Nat} {ρ : De} {r : Rs D} (h : mMov i ρ = some r) : ∃ d, ρ[i]? = some (some d) ∧ isShd d = false ∧ r = .ok d (ρ.set i none) := by
  unfold mMov at h
  split at h
  · rename_i d e
    split at h
    · cases h
    · rename_i hs
      cases h
      exact ⟨d, e, by simpa using hs, rfl⟩
  · cases h
theorem mFz_inv {i : Nat} {ρ : De} {r : Rs D} (h : mFz i ρ = some r) : ∃ d, ρ[i]? = some (some d) ∧ r = .ok (unsh d) (ρ.set i (some (.shd (unsh d)))) := by
  unfold mFz at h
  split at h
  · rename_i d e
    cases h
    exact ⟨d, e, rfl⟩
  · cases h
theorem Sh.unsh {G : Hp} : ∀ {d : D} {v : V}, Sh K G d v → Sh K G (unsh d) v
  | .non, _, h => h
  | .bl _, _, h => h
  | .int _, _, h => h
  | .str _, _, h => h
  | .lst _, _, h => h
  | .frl _, _, h => h
  | .ctu _, _, h => h
  | .tup _, _, h => h
  | .dK _ _, _, h => h
  | .dT _ _, _, h => h
  | .val _, _, h => h
  | .shd _, _, h => h
def mScal (f : Mr D) : Mr D := bnd f fun d => if scal d then ret d else fun _ => none
theorem set_self {ρ : De} {i : Nat} {x : Option D} (h : ρ[i]? = some x) : ρ.set i x = ρ := by
  apply List.ext_getElem?
  intro j
  by_cases hj : i = j
  · subst hj
    rw [List.getElem?_set_self (List.getElem?_eq_some_iff.mp h).1, h]
  · rw [List.getElem?_set_ne hj]
theorem snd_var (i : Nat) (h : Γ[i]? = some .sh := by rfl) : Snd K Γ Ek .sh (tVar i) (mVar i) := by
  intro σ H G C ρ Q r hg hf hq
  unfold mVar at hf
  split at hf
  · rename_i d e
    cases hf
    obtain ⟨v, m, o, e1, e2, r, g2⟩ := hg.take e
    rw [h] at e2; cases e2
    obtain ⟨rfl, r'⟩ := (R.sh_iff d).mp r
    exact ⟨v, e1, hq v H G [] (GLe.refl G) r hg⟩
  · cases hf
theorem snd_mov (i : Nat) (h : Γ[i]? = some m := by rfl) : Snd K Γ Ek m (tVar i) (mMov i) := by
  intro σ H G C ρ Q r hg hf hq
  obtain ⟨d, e, _, er⟩ := mMov_inv hf
  subst er
  obtain ⟨v, m, o, e1, e2, r, g2⟩ := hg.take e
  rw [h] at e2; cases e2
  exact ⟨v, e1, hq v H G o (GLe.refl G) r g2⟩
theorem snd_fz (i : Nat) : Snd K Γ Ek .sh (tVar i) (mFz i) := by
  intro σ H G C ρ Q r hg hf hq
  obtain ⟨d, e, er⟩ := mFz_inv hf
  subst er
  obtain ⟨v, m, o, e1, e2, r, g2⟩ := hg.take e
  obtain ⟨os, sl, s⟩ := g2.ex
  obtain ⟨G2, g3, s2, r2⟩ := R.freeze d r (show Sat H G (o ++ (os.flatten ++ C)) from s.re (by walk_at "fle"))
  have r3 := Sh.unsh r2
  have g4 : Good K Γ G2 H ([] ++ C) σ (ρ.set i none) := ⟨os, sl.mono g3, s2⟩
  refine ⟨v, e1, hq v H G2 [] g3 (R.of_sh r3) ?_⟩
  have g5 := Good.back (d := .shd (unsh d)) (o := []) g4 (show R K G2 (.shd (unsh d)) m v [] from ⟨rfl, r3⟩) e1 e2
  rw [List.set_set] at g5
  exact g5
theorem bnd_inv {α β : Type} {f : Mr α} {g : α → Mr β} {ρ : De} {r : Rs β} (h : bnd f g ρ = some r) : (∃ a ρ1, f ρ = some (.ok a ρ1) ∧ g a ρ1 = some r) ∨ ∃ x ρ1, f ρ = some (.ex x ρ1) ∧ r = .ex x ρ1 := by
  cases e : f ρ with
  | none => rw [bnd_none e] at h; cases h
  | some r1 =>
    cases r1 with
    | ok a ρ1 => rw [bnd_ok e] at h; exact .inl ⟨a, ρ1, rfl, h⟩
    | ex x ρ1 => rw [bnd_ex e] at h; cases h; exact .inr ⟨x, ρ1, rfl, rfl⟩
theorem mVar_inv {i : Nat} {ρ : De} {r : Rs D} (h : mVar i ρ = some r) : ∃ d, ρ[i]? = some (some d) ∧ r = .ok d ρ := by
  unfold mVar at h
  split at h
  · rename_i d e
    cases h
    exact ⟨d, e, rfl⟩
  · cases h
/-- a slot of any mode that holds no object -/
theorem snd_vars (i : Nat) : Snd K Γ Ek m (tVar i) (mScal (mVar i)) := by
  intro σ H G C ρ Q r hg hf hq
  rcases bnd_inv hf with ⟨d, ρ1, e, hf⟩ | ⟨x, ρ1, e, _⟩
  · obtain ⟨d', e3, e4⟩ := mVar_inv e
    cases e4
    split at hf
    · rename_i hs
      cases hf
      obtain ⟨v, m', o, e1, e2, r, g2⟩ := hg.take e3
      have r2 := R.scal (m' := .sh) hs r
      obtain ⟨rfl, r'⟩ := (R.sh_iff d).mp r2
      exact ⟨v, e1, hq v H G [] (GLe.refl G) (R.scal hs r) hg⟩
    · cases hf
  · obtain ⟨d', e3, e4⟩ := mVar_inv e
    cases e4
theorem snd_c {d : D} {v : V} (h : ∀ G, Sh K G d v) (hs : scal d = true) : Snd K Γ Ek m (tC v) (ret d) := by
  intro σ H G C ρ Q r hg hf hq
  cases hf
  exact hq v H G [] (GLe.refl G) (R.scal hs (R.of_sh (h G))) hg
theorem snd_int (i : Int) : Snd K Γ Ek m (tC (.int i)) (ret (.int i)) := snd_c (fun _ => rfl) rfl
theorem snd_bl (b : Bool) : Snd K Γ Ek m (tC (.bl b)) (ret (.bl b)) := snd_c (fun _ => rfl) rfl
theorem snd_str (x : Str) : Snd K Γ Ek m (tC (.str x)) (ret (.str x)) := snd_c (fun _ => rfl) rfl
theorem snd_non : Snd K Γ Ek m (tC .non) (ret .non) := snd_c (fun _ => rfl) rfl
theorem snd_val (v : V) : Snd K Γ Ek m (tC v) (ret (.val v)) := snd_c (fun _ => rfl) rfl
/-- a value that is no object has every mode -/
theorem Snd.scal (h : Snd K Γ Ek m t f) : Snd K Γ Ek m' t (mScal f) := by
  intro σ H G C ρ Q r hg hf hq
  cases e : f ρ with
  | none => rw [mScal, bnd_none e] at hf; cases hf
  | some r1 =>
    refine h σ H G C ρ Q r1 hg e ?_
    cases r1 with
    | ok a ρ1 =>
      rw [mScal, bnd_ok e] at hf
      split at hf
      · rename_i hs
        cases hf
        exact fun b H' G' o g rel good => hq b H' G' o g (R.scal hs rel) good
      · cases hf
    | ex x ρ1 =>
      rw [mScal, bnd_ex e] at hf
      cases hf
      exact hq
theorem Snd.froze (h : Snd K Γ Ek m t f) : Snd K Γ Ek .sh t f := by
  intro σ H G C ρ Q r hg hf hq
  refine h σ H G C ρ Q r hg hf ?_
  cases r with
  | ok a ρ' =>
    intro b H' G' o g rel good
    obtain ⟨os, sl, s⟩ := good.ex
    obtain ⟨G2, g2, s2, r2⟩ := R.freeze a rel (show Sat H' G' (o ++ (os.flatten ++ C)) from s.re (by walk_at "fle"))
    exact hq b H' G2 [] (g.trans g2) (R.of_sh r2) ⟨os, sl.mono g2, s2⟩
  | ex x ρ' => exact hq
end
end Dl
/-! Dl, third part: expressions. -/
namespace Dl
open PySem L2
local macro_rules | `(tactic| walk_at "fle") => `(tactic| (intro P; simp only [List.countP_append, List.countP_cons, List.countP_nil, List.append_nil, List.nil_append]; first | omega | (split <;> omega)))

abbrev lim : Nat := 16777216
theorem lim_eq : lim = sizeLine := sizeLine_eq.symm

/-- an expression, its reading, its mirror -/
structure DE (X : Cx) (K : PySem.W.Frag) (Γ : List Md) (Ek : WX) (m : Md) (e : PySem.Expr) (t : TE) (f : Mr D) : Prop where
  pe : PE X e t
  sn : Snd K Γ Ek m t f
/-- a test -/
structure DT (X : Cx) (K : PySem.W.Frag) (Γ : List Md) (Ek : WX) (e : PySem.Expr) (t : TT) (f : Mr Bool) : Prop where
  pt : PT X e t
  sn : SndG K Γ Ek RB t f

section
variable {X : Cx} {K : PySem.W.Frag} {Γ : List Md} {Ek : WX} {m m' : Md} {e a b c : PySem.Expr} {t ta tb tc : TE} {f fa fb fc : Mr D} {pos : Pos}
theorem DE.fz (h : DE X K Γ Ek m e t f) : DE X K Γ Ek .sh e t f := ⟨h.pe, h.sn.froze⟩
theorem DE.sc (h : DE X K Γ Ek m e t f) : DE X K Γ Ek m' e t (mScal f) := ⟨h.pe, h.sn.scal⟩
/-- unsupported, or never reached -/
theorem snd_no {α β : Type} {K : PySem.W.Frag} {Rel : St → Hp → α → β → Fg → Prop} {t : St → Hp → (β → Hp → Prop) → Prop} : SndG K Γ Ek Rel t (fun _ => none) := fun _ _ _ _ _ _ _ _ h _ => nomatch h
theorem pe_no : PE X e (fun _ _ _ => False) := ⟨fun _ _ _ _ _ _ h => h.elim⟩
theorem de_no : DE X K Γ Ek m e (fun _ _ _ => False) (fun _ => none) := ⟨pe_no, snd_no⟩
theorem dt_no : DT X K Γ Ek e (fun _ _ _ => False) (fun _ => none) := ⟨⟨fun _ _ _ _ _ _ h => h.elim⟩, snd_no⟩

/-! ### names, constants -/
theorem dv (i : Nat) {x : Str} {p : Pos} (hN : X.N[i]? = some x := by rfl) (hv : Vis X.env.scope x := by first | exact Or.inl rfl | exact Or.inr (Or.inl rfl) | exact Or.inr (Or.inr rfl)) (h : Γ[i]? = some .sh := by rfl) (hd : (x == ("__debug__" : Str)) = false := by decide)
    (hcd : (x == ("__classdict__" : Str)) = false := by decide) : DE X K Γ Ek .sh (.Name x p) (tVar i) (mVar i) := ⟨pe_var hN hv hd hcd, snd_var i h⟩
theorem dvs (i : Nat) {x : Str} {p : Pos} (hN : X.N[i]? = some x := by rfl) (hv : Vis X.env.scope x := by first | exact Or.inl rfl | exact Or.inr (Or.inl rfl) | exact Or.inr (Or.inr rfl)) (hd : (x == ("__debug__" : Str)) = false := by decide)
    (hcd : (x == ("__classdict__" : Str)) = false := by decide) : DE X K Γ Ek m (.Name x p) (tVar i) (mScal (mVar i)) := ⟨pe_var hN hv hd hcd, snd_vars i⟩
theorem dmv (i : Nat) {x : Str} {p : Pos} (hN : X.N[i]? = some x := by rfl) (hv : Vis X.env.scope x := by first | exact Or.inl rfl | exact Or.inr (Or.inl rfl) | exact Or.inr (Or.inr rfl)) (h : Γ[i]? = some m := by rfl) (hd : (x == ("__debug__" : Str)) = false := by decide)
    (hcd : (x == ("__classdict__" : Str)) = false := by decide) : DE X K Γ Ek m (.Name x p) (tVar i) (mMov i) := ⟨pe_var hN hv hd hcd, snd_mov i h⟩
theorem dfz (i : Nat) {x : Str} {p : Pos} (hN : X.N[i]? = some x := by rfl) (hv : Vis X.env.scope x := by first | exact Or.inl rfl | exact Or.inr (Or.inl rfl) | exact Or.inr (Or.inr rfl)) (hd : (x == ("__debug__" : Str)) = false := by decide)
    (hcd : (x == ("__classdict__" : Str)) = false := by decide) : DE X K Γ Ek .sh (.Name x p) (tVar i) (mFz i) := ⟨pe_var hN hv hd hcd, snd_fz i⟩
theorem de_int {i : Int} {j} {p : Pos} : DE X K Γ Ek m (.Constant (.int i) j p) (tC (.int i)) (ret (.int i)) := ⟨pe_int, snd_int i⟩
theorem de_bl {i : Bool} {j} {p : Pos} : DE X K Γ Ek m (.Constant (.bool i) j p) (tC (.bl i)) (ret (.bl i)) := ⟨pe_bl, snd_bl i⟩
theorem de_str {i : Str} {j} {p : Pos} : DE X K Γ Ek m (.Constant (.str i) j p) (tC (.str i)) (ret (.str i)) := ⟨pe_str, snd_str i⟩
theorem de_non {j} {p : Pos} : DE X K Γ Ek m (.Constant .none j p) (tC .non) (ret .non) := ⟨pe_non, snd_non⟩
/-- a built-in type, a class, a def as a value -/
theorem de_ty {x : Str} {n : String} {p : Pos} (hm : X.mg x = none) (hg : Gl X x := by rfl) (hv : bootBuiltins x = some (.type n) := by first | rfl | decide +kernel) (hn : x ≠ "__name__" := by decide) (hd : (x == ("__debug__" : Str)) = false := by decide) : DE X K Γ Ek m (.Name x p) (tC (.ty n)) (ret (.val (.ty n))) :=
  ⟨pe_bltn hg hm hv rfl hn hd, snd_val _⟩
theorem de_cls {x : Str} {a : Addr} {p : Pos} (hm : X.mg x = some (.ref a)) (hg : Gl X x := by rfl) (hd : (x == ("__debug__" : Str)) = false := by decide) : DE X K Γ Ek m (.Name x p) (tC (.ref a)) (ret (.val (.ref a))) :=
  ⟨pe_glob hg hm rfl hd, snd_val _⟩
/-- a module's constant that is an int, a text .. -/
theorem de_gint {x : Str} {i : Int} {u : Value} {p : Pos} (hm : X.mg x = some u) (r : RelV (.int i) u) (hg : Gl X x := by rfl) (hd : (x == ("__debug__" : Str)) = false := by decide) : DE X K Γ Ek m (.Name x p) (tC (.int i)) (ret (.int i)) :=
  ⟨pe_glob hg hm r hd, snd_int i⟩
theorem de_gstr {x : Str} {i : Str} {u : Value} {p : Pos} (hm : X.mg x = some u) (r : RelV (.str i) u) (hg : Gl X x := by rfl) (hd : (x == ("__debug__" : Str)) = false := by decide) : DE X K Γ Ek m (.Name x p) (tC (.str i)) (ret (.str i)) :=
  ⟨pe_glob hg hm r hd, snd_str i⟩
/-- a module's constant of data -/
theorem de_gdat {x : Str} {d : D} {v : V} {u : Value} {p : Pos} (hm : X.mg x = some u) (r : RelV v u) (hs : ∀ G, Sh K G d v) (hg : Gl X x := by rfl) (hd : (x == ("__debug__" : Str)) = false := by decide) : DE X K Γ Ek .sh (.Name x p) (tC v) (ret d) :=
  ⟨pe_glob hg hm r hd, fun σ H G C ρ Q r hg hf hq => by cases hf; exact hq v H G [] (GLe.refl G) (R.of_sh (hs G)) hg⟩

/-! ### operators -/
def mOp (g : D → D → Option D) (fa fb : Mr D) : Mr D := bnd (mPair fa fb) fun p => lft (g p.1 p.2)
def mUn (g : D → Option D) (fa : Mr D) : Mr D := bnd fa fun p => lft (g p)
def VOp2 (K : PySem.W.Frag) (m : Md) (r : R2) (g : D → D → Option D) : Prop :=
  ∀ (G H : Hp) (C : Fg) (x y : V) (dx dy d : D) (Q : VK), Sh K G dx x → Sh K G dy y → Sat H G C → g dx dy = some d →
    (∀ v H' G' o', GLe G G' → R K G' d m v o' → Sat H' G' (o' ++ C) → Q v H') → r x y H Q
def VOp1 (K : PySem.W.Frag) (m : Md) (r : V → Hp → VK → Prop) (g : D → Option D) : Prop :=
  ∀ (G H : Hp) (C : Fg) (x : V) (dx d : D) (Q : VK), Sh K G dx x → Sat H G C → g dx = some d →
    (∀ v H' G' o', GLe G G' → R K G' d m v o' → Sat H' G' (o' ++ C) → Q v H') → r x H Q
theorem snd_op {K : PySem.W.Frag} {r : R2} {g : D → D → Option D} (ha : Snd K Γ Ek .sh ta fa) (hb : Snd K Γ Ek .sh tb fb) (hv : VOp2 K m r g) : Snd K Γ Ek m (tOp r ta tb) (mOp g fa fb) :=
  SndG.op (k := fun b H Q => r b.1 b.2 H Q) (SndG.pair ha hb RE.mono) fun σ G H C a b o d Q ⟨o1, o2, e, r1, r2⟩ s hg hq => by
    obtain ⟨z1, q1⟩ := (R.sh_iff _).mp r1
    obtain ⟨z2, q2⟩ := (R.sh_iff _).mp r2
    subst e; subst z1; subst z2
    exact hv G H C b.1 b.2 a.1 a.2 d Q q1 q2 s hg hq
theorem snd_un {K : PySem.W.Frag} {r : V → Hp → VK → Prop} {g : D → Option D} (ha : Snd K Γ Ek .sh ta fa) (hv : VOp1 K m r g) : Snd K Γ Ek m (fun σ H Q => ta σ H fun x H1 => r x H1 Q) (mUn g fa) :=
  SndG.op (k := fun b H Q => r b H Q) ha fun σ G H C a b o d Q r1 s hg hq => by
    obtain ⟨z1, q1⟩ := (R.sh_iff _).mp r1
    subst z1
    exact hv G H C b a d Q q1 s hg hq
theorem de_op {op : Operator} {r : R2} {g : D → D → Option D} (o : OpR X (binaryOp op) r ∧ VOp2 K m r g) (ha : DE X K Γ Ek .sh a ta fa) (hb : DE X K Γ Ek .sh b tb fb) : DE X K Γ Ek m (.BinOp a op b pos) (tOp r ta tb) (mOp g fa fb) :=
  ⟨pe_op o.1 ha.pe hb.pe, snd_op ha.sn hb.sn o.2⟩
theorem de_cmp {op : CmpOp} {r : R2} {g : D → D → Option D} (o : OpR X (compareOp op) r ∧ VOp2 K m r g) (ha : DE X K Γ Ek .sh a ta fa) (hb : DE X K Γ Ek .sh b tb fb) (hm : behindInMarks op b = false) : DE X K Γ Ek m (.Compare a [op] [b] pos) (tOp r ta tb) (mOp g fa fb) :=
  ⟨pe_cmpR o.1 ha.pe hb.pe hm, snd_op ha.sn hb.sn o.2⟩
def dBool : D → Option Bool
  | .bl b => some b
  | _ => none
theorem snd_test {K : PySem.W.Frag} (h : Snd K Γ Ek m t f) : SndG K Γ Ek RB (tTest t) (bnd f fun d => lft (dBool d)) := by
  refine SndG.bind (Rel1 := RE K m) (t2 := fun x _ H' Q => ∃ k, x = .bl k ∧ Q k H') h fun a b σ H G C o ρ Q r rel good hf hq => ?_
  cases a with
  | bl k =>
    obtain ⟨rfl, rfl⟩ := (show o = [] ∧ b = .bl k from rel)
    cases hf
    exact ⟨k, rfl, hq k H G [] (GLe.refl G) ⟨rfl, rfl⟩ good⟩
  | _ => cases hf
theorem dt_cmp {op : CmpOp} {r : R2} {g : D → D → Option D} (o : OpR X (compareOp op) r ∧ VOp2 K .sh r g) (ha : DE X K Γ Ek .sh a ta fa) (hb : DE X K Γ Ek .sh b tb fb) (hm : behindInMarks op b = false) :
    DT X K Γ Ek (.Compare a [op] [b] pos) (tTest (tOp r ta tb)) (bnd (mOp g fa fb) fun d => lft (dBool d)) :=
  ⟨pt_cmpR o.1 ha.pe hb.pe hm, snd_test (snd_op ha.sn hb.sn o.2)⟩
/-- a op b op' c -/
def mChain (g g' : D → D → Option D) (fa fb fc : Mr D) : Mr D := bnd (mPair fa fb) fun p => bnd (lft ((g p.1 p.2).bind dBool)) fun k => if k = true then bnd fc fun z => lft (g' p.2 z) else ret (.bl false)
theorem snd_chain {K : PySem.W.Frag} {r r' : R2} {g g' : D → D → Option D} (ha : Snd K Γ Ek .sh ta fa) (hb : Snd K Γ Ek .sh tb fb) (hc : Snd K Γ Ek .sh tc fc) (hv : VOp2 K .sh r g) (hv' : VOp2 K .sh r' g') : Snd K Γ Ek .sh (tChain r r' ta tb tc) (mChain g g' fa fb fc) := by
  refine SndG.bind (t2 := fun p σ H2 Q => r p.1 p.2 H2 fun z H3 => ∃ k, z = .bl k ∧ (if k = true then tc σ H3 fun w' H4 => r' p.2 w' H4 Q else Q (.bl false) H3)) (SndG.pair ha hb RE.mono) fun a b σ H G C o ρ Q r rel good hf hq => ?_
  obtain ⟨o1, o2, e, r1, r2⟩ := rel
  obtain ⟨z1, q1⟩ := (R.sh_iff _).mp r1
  obtain ⟨z2, q2⟩ := (R.sh_iff _).mp r2
  subst e; subst z1; subst z2
  obtain ⟨os, sl, s⟩ := good.ex
  cases e1 : g a.1 a.2 with
  | none => rw [e1] at hf; cases hf
  | some d1 =>
    rw [e1] at hf
    cases d1 with
    | bl k =>
      refine hv G H (os.flatten ++ C) b.1 b.2 a.1 a.2 (.bl k) _ q1 q2 s e1 fun v H' G' o' g1 rv s' => ?_
      obtain ⟨rfl, rfl⟩ := (show o' = [] ∧ v = .bl k from rv)
      refine ⟨k, rfl, ?_⟩
      have good' : Good K Γ G' H' C σ ρ := ⟨os, sl.mono g1, s'⟩
      cases k with
      | false =>
        cases hf
        exact hq (.bl false) H' G' [] g1 ⟨rfl, rfl⟩ good'
      | true =>
        have hf2 : bnd fc (fun z => lft (g' a.2 z)) ρ = some r := hf
        rcases bnd_inv hf2 with ⟨z, ρ1, e2, hf3⟩ | ⟨x, ρ1, e2, e3⟩
        · refine hc σ H' G' C ρ _ _ good' e2 fun w H2 G2 o2 g2 relw good2 => ?_
          obtain ⟨z3, q3⟩ := (R.sh_iff _).mp relw
          subst z3
          cases e4 : g' a.2 z with
          | none => rw [e4] at hf3; cases hf3
          | some d2 =>
            rw [e4] at hf3
            cases hf3
            obtain ⟨os2, sl2, s2⟩ := good2.ex
            exact hv' G2 H2 (os2.flatten ++ C) b.2 w a.2 z d2 Q (Sh.mono (g1.trans g2) _ q2) q3 s2 e4 fun v3 H3 G3 o3 g3 r3 s3 => hq v3 H3 G3 o3 (g1.trans (g2.trans g3)) r3 ⟨os2, sl2.mono g3, s3.re (by walk_at "fle")⟩
        · subst e3
          exact hc σ H' G' C ρ _ _ good' e2 (hq.mono g1)
    | _ => cases hf
end
end Dl
/-! Dl, fourth part: operators and built-in functions on data. -/
namespace Dl
open PySem L2
local macro_rules | `(tactic| walk_at "fle") => `(tactic| (intro P; simp only [List.countP_append, List.countP_cons, List.countP_nil, List.append_nil, List.nil_append]; first | omega | (split <;> omega)))

/-! ### ints -/
def dI2 (f : Int → Int → D) : D → D → Option D
  | .int i, .int j => some (f i j)
  | _, _ => none
def dI2C (c : Int → Int → Bool) (f : Int → Int → D) : D → D → Option D
  | .int i, .int j => if c i j = true then some (f i j) else none
  | _, _ => none
section
variable {K : PySem.W.Frag} {m : Md} {X : Cx}
theorem vop_I0 {g : Int → Int → V} {f : Int → Int → D} (h : ∀ i j G, Sh K G (f i j) (g i j)) (hs : ∀ i j, scal (f i j) = true) : VOp2 K m (rI0 g) (dI2 f) := by
  intro G H C x y dx dy d Q hx hy s hg hq
  cases dx <;> cases dy <;> first | (cases hg; done) | skip
  rename_i i j
  cases hg
  exact ⟨i, j, hx, hy, hq _ H G [] (GLe.refl G) (R.scal (hs i j) (R.of_sh (h i j G))) s⟩
theorem vop_I {c : Int → Int → Bool} {c' : Int → Int → Prop} {g : Int → Int → V} {f : Int → Int → D} (hc : ∀ i j, c i j = true → c' i j) (h : ∀ i j G, Sh K G (f i j) (g i j)) (hs : ∀ i j, scal (f i j) = true) : VOp2 K m (rI c' g) (dI2C c f) := by
  intro G H C x y dx dy d Q hx hy s hg hq
  cases dx <;> cases dy <;> first | (cases hg; done) | skip
  rename_i i j
  dsimp only [dI2C] at hg
  split at hg
  · rename_i hcc
    cases hg
    exact ⟨i, j, hx, hy, hc i j hcc, hq _ H G [] (GLe.refl G) (R.scal (hs i j) (R.of_sh (h i j G))) s⟩
  · cases hg
def dSub : D → D → Option D
  | .int i, .int j => some (.int (i - j))
  | .bl p, .bl q => some (.int (PyProof.Rows.b2i p - PyProof.Rows.b2i q))
  | _, _ => none
def rSubA : R2 := fun x y H Q => rI0 (fun i j => .int (i - j)) x y H Q ∨ ∃ p q : Bool, x = V.bl p ∧ y = V.bl q ∧ Q (.int (PyProof.Rows.b2i p - PyProof.Rows.b2i q)) H
theorem op_subB : OpR X (binaryOp .Sub) (fun x y H Q => ∃ p q : Bool, x = V.bl p ∧ y = V.bl q ∧ Q (.int (PyProof.Rows.b2i p - PyProof.Rows.b2i q)) H) := by
  intro pins s σ H x y v u Q I rx ry ⟨p, q, ex, ey, h⟩
  subst ex ey
  obtain rfl : v = .bool p := rx
  obtain rfl : u = .bool q := ry
  exact PyProof.Rows.sub_bool ⟨.int _, H, I.tok _, ⟨_, rfl⟩, h⟩
theorem o_sub : OpR X (binaryOp .Sub) rSubA ∧ VOp2 K m rSubA dSub := ⟨op_sub.or op_subB, by
  intro G H C x y dx dy d Q hx hy s hg hq
  unfold dSub at hg
  split at hg
  · cases hg
    exact .inl ⟨_, _, hx, hy, hq _ H G [] (GLe.refl G) ⟨rfl, rfl⟩ s⟩
  · cases hg
    exact .inr ⟨_, _, hx, hy, hq _ H G [] (GLe.refl G) ⟨rfl, rfl⟩ s⟩
  · cases hg⟩
def dFdiv := dI2C (fun _ j => decide (0 < j) && Nat.blt j.natAbs.log2 9000) fun i j => .int (i / j)
theorem o_fdiv : OpR X (binaryOp .FloorDiv) (rI CDivW fun i j => .int (i / j)) ∧ VOp2 K m (rI CDivW fun i j => .int (i / j)) dFdiv := ⟨op_fdivW, vop_I (fun i j h => by
  rw [Bool.and_eq_true, decide_eq_true_eq] at h
  exact ⟨h.1, by simpa using h.2⟩) (fun _ _ _ => rfl) fun _ _ => rfl⟩
def dMod := dI2C (fun _ j => decide (0 < j)) fun i j => .int (i % j)
theorem o_mod : OpR X (binaryOp .Mod) (rI (fun _ j => 0 < j) fun i j => .int (i % j)) ∧ VOp2 K m (rI (fun _ j => 0 < j) fun i j => .int (i % j)) dMod := ⟨op_mod, vop_I (fun i j h => by simpa using h) (fun _ _ _ => rfl) fun _ _ => rfl⟩
def dPow := dI2C (fun i j => decide (0 ≤ j) && decide (j ≤ 1000000) && decide (i.natAbs < 2 ^ 64)) fun i j => .int (i ^ j.toNat)
theorem o_pow : OpR X (binaryOp .Pow) (rI CPow fun i j => .int (i ^ j.toNat)) ∧ VOp2 K m (rI CPow fun i j => .int (i ^ j.toNat)) dPow := ⟨op_pow, vop_I (fun i j h => by
  rw [Bool.and_eq_true, Bool.and_eq_true, decide_eq_true_eq, decide_eq_true_eq, decide_eq_true_eq] at h
  exact ⟨h.1.1, h.1.2, h.2⟩) (fun _ _ _ => rfl) fun _ _ => rfl⟩
def dShl := dI2C (fun i j => decide (0 ≤ j) && decide (j ≤ 1000000) && decide (i.natAbs < 2 ^ 64)) fun i j => .int (i * 2 ^ j.toNat)
theorem o_shl : OpR X (binaryOp .LShift) (rI CPow fun i j => .int (i * 2 ^ j.toNat)) ∧ VOp2 K m (rI CPow fun i j => .int (i * 2 ^ j.toNat)) dShl := ⟨op_shl, vop_I (fun i j h => by
  rw [Bool.and_eq_true, Bool.and_eq_true, decide_eq_true_eq, decide_eq_true_eq, decide_eq_true_eq] at h
  exact ⟨h.1.1, h.1.2, h.2⟩) (fun _ _ _ => rfl) fun _ _ => rfl⟩
def dShr := dI2C (fun _ j => decide (0 ≤ j)) fun i j => .int (i / 2 ^ j.toNat)
theorem o_shr : OpR X (binaryOp .RShift) (rI (fun _ j => 0 ≤ j) fun i j => .int (i / 2 ^ j.toNat)) ∧ VOp2 K m (rI (fun _ j => 0 ≤ j) fun i j => .int (i / 2 ^ j.toNat)) dShr := ⟨op_shr, vop_I (fun i j h => by simpa using h) (fun _ _ _ => rfl) fun _ _ => rfl⟩
def dLt := dI2 fun i j => .bl (decide (i < j))
def dLe := dI2 fun i j => .bl (decide (i ≤ j))
def dGt := dI2 fun i j => .bl (decide (j < i))
def dGe := dI2 fun i j => .bl (decide (j ≤ i))
theorem o_lt : OpR X (compareOp .Lt) (rI0 fun i j => .bl (decide (i < j))) ∧ VOp2 K m (rI0 fun i j => .bl (decide (i < j))) dLt := ⟨op_lt, vop_I0 (fun _ _ _ => rfl) fun _ _ => rfl⟩
theorem o_le : OpR X (compareOp .LtE) (rI0 fun i j => .bl (decide (i ≤ j))) ∧ VOp2 K m (rI0 fun i j => .bl (decide (i ≤ j))) dLe := ⟨op_le, vop_I0 (fun _ _ _ => rfl) fun _ _ => rfl⟩
theorem o_gt : OpR X (compareOp .Gt) (rI0 fun i j => .bl (decide (j < i))) ∧ VOp2 K m (rI0 fun i j => .bl (decide (j < i))) dGt := ⟨op_gt, vop_I0 (fun _ _ _ => rfl) fun _ _ => rfl⟩
theorem o_ge : OpR X (compareOp .GtE) (rI0 fun i j => .bl (decide (j ≤ i))) ∧ VOp2 K m (rI0 fun i j => .bl (decide (j ≤ i))) dGe := ⟨op_ge, vop_I0 (fun _ _ _ => rfl) fun _ _ => rfl⟩

/-! ### + and * of ints, texts, lists, tuples -/
def rAddA (K : PySem.W.Frag) : R2 := fun x y H Q => rI0 (fun i j => .int (i + j)) x y H Q ∨ (∃ i j, x = .str i ∧ y = .str j ∧ i.length + j.length ≤ sizeLine ∧ Q (.str (i ++ j)) H) ∨ rCat x y H Q ∨ rCatA K x y H Q
def dAdd : D → D → Option D
  | .int i, .int j => some (.int (i + j))
  | .str i, .str j => if i.length + j.length ≤ lim then some (.str (i ++ j)) else none
  | .lst a, .lst b => if a.length + b.length ≤ lim then some (.lst (a ++ b)) else none
  | .tup a, .tup b => if a.length + b.length ≤ lim then some (.tup (a ++ b)) else none
  | _, _ => none
theorem ShL.nil_of {G : Hp} {ds : List D} (h : ShL K G ds []) : ds = [] := by
  cases ds with
  | nil => rfl
  | cons d r => obtain ⟨v, w, e, _⟩ := h; cases e
theorem vop_add : VOp2 K (.own .sh) (rAddA K) dAdd := by
  intro G H C x y dx dy d Q hx hy s hg hq
  cases dx <;> cases dy <;> first | (cases hg; done) | skip
  · rename_i i j
    cases hg
    exact .inl ⟨i, j, hx, hy, hq _ H G [] (GLe.refl G) ⟨rfl, rfl⟩ s⟩
  · rename_i i j
    dsimp only [dAdd] at hg
    split at hg
    · rename_i hl
      cases hg
      exact .inr (.inl ⟨i, j, hx, hy, by rw [← lim_eq]; exact hl, hq _ H G [] (GLe.refl G) ⟨rfl, rfl⟩ s⟩)
    · cases hg
  · rename_i i j
    dsimp only [dAdd] at hg
    split at hg
    · rename_i hl
      cases hg
      obtain ⟨a, vs, e1, e2, r1⟩ := hx
      obtain ⟨b, us, e3, e4, r2⟩ := hy
      refine .inr (.inr (.inl ⟨a, b, vs, us, e1, e3, s.le _ _ e2, s.le _ _ e4, by rw [r1.len, r2.len, ← lim_eq]; exact hl, fun p hp => ?_⟩))
      exact hq _ _ G _ (GLe.refl G) ⟨p, vs ++ us, [], rfl, rfl, (RL.sh_iff _).mpr ⟨rfl, ShL.append r1 r2⟩⟩ (s.newO hp)
    · cases hg
  · rename_i i j
    dsimp only [dAdd] at hg
    split at hg
    · rename_i hl
      cases hg
      obtain ⟨a, vs, e1, e2, r1⟩ := hx
      obtain ⟨b, us, e3, e4, r2⟩ := hy
      refine .inr (.inr (.inr ⟨a, b, vs, us, e1, e3, s.le.sqT e2, s.le.sqT e4, by rw [r1.len, r2.len, ← lim_eq]; exact hl, fun z => ?_, fun _ z => ?_, fun _ _ p hp => ?_⟩))
      · subst z
        have := ShL.nil_of r1
        subst this
        exact hq _ _ G [] (GLe.refl G) ⟨b, us, rfl, e4, (RL.sh_iff _).mpr ⟨rfl, r2⟩⟩ s
      · subst z
        have := ShL.nil_of r2
        subst this
        rw [List.append_nil] at hq
        exact hq _ _ G [] (GLe.refl G) ⟨a, vs, rfl, e2, (RL.sh_iff _).mpr ⟨rfl, r1⟩⟩ s
      · obtain ⟨s', g'⟩ := s.newG (u := .tup (vs ++ us)) hp
        exact hq _ _ _ [] g' ⟨p, vs ++ us, rfl, upd_same, (RL.sh_iff _).mpr ⟨rfl, ShL.mono g' _ (ShL.append r1 r2)⟩⟩ s'
    · cases hg
theorem o_add (hK : X.K = K := by rfl) : OpR X (binaryOp .Add) (rAddA K) ∧ VOp2 K (.own .sh) (rAddA K) dAdd := by subst hK; exact ⟨op_add.or (op_add_str.or (op_cat.or op_catA)), vop_add⟩
def rMulA : R2 := fun x y H Q => rI CMul (fun i j => .int (i * j)) x y H Q ∨ rRep x y H Q ∨ rI CMulW (fun i j => .int (i * j)) x y H Q
def dMul : D → D → Option D
  | .int i, .int j => if (Nat.ble i.natAbs 18446744073709551615 || Nat.ble j.natAbs 18446744073709551615 || Nat.blt (i.natAbs.log2 + j.natAbs.log2) 1000000) = true then some (.int (i * j)) else none
  | .lst a, .int k => if k < 9223372036854775808 ∧ -9223372036854775808 ≤ k ∧ a.length * k.toNat ≤ lim then some (.lst (List.replicate k.toNat a).flatten) else none
  | _, _ => none
theorem ShL.rep {G : Hp} {ds : List D} {vs : List V} (h : ShL K G ds vs) : ∀ n : Nat, ShL K G (List.replicate n ds).flatten (List.replicate n vs).flatten
  | 0 => rfl
  | n + 1 => by
    rw [List.replicate_succ, List.replicate_succ, List.flatten_cons, List.flatten_cons]
    exact ShL.append h (ShL.rep h n)
theorem vop_mul : VOp2 K (.own .sh) rMulA dMul := by
  intro G H C x y dx dy d Q hx hy s hg hq
  cases dx <;> cases dy <;> first | (cases hg; done) | skip
  · rename_i i j
    dsimp only [dMul] at hg
    split at hg
    · rename_i hl
      cases hg
      have q := hq _ H G [] (GLe.refl G) ⟨rfl, rfl⟩ s
      rw [Bool.or_eq_true, Bool.or_eq_true] at hl
      rcases hl with (hl | hl) | hl
      · have := Nat.le_of_ble_eq_true hl
        exact .inl ⟨i, j, hx, hy, .inl ⟨by omega, by omega⟩, q⟩
      · have := Nat.le_of_ble_eq_true hl
        exact .inl ⟨i, j, hx, hy, .inr ⟨by omega, by omega⟩, q⟩
      · exact .inr (.inr ⟨i, j, hx, hy, show i.natAbs.log2 + j.natAbs.log2 < 1000000 by simpa using hl, q⟩)
    · cases hg
  · rename_i i j
    dsimp only [dMul] at hg
    split at hg
    · rename_i hl
      cases hg
      obtain ⟨a, vs, e1, e2, r1⟩ := hx
      refine .inr (.inl ⟨a, j, vs, e1, hy, s.le _ _ e2, by omega, by omega, by rw [r1.len, ← lim_eq]; exact hl.2.2, fun p hp => ?_⟩)
      exact hq _ _ G _ (GLe.refl G) ⟨p, _, [], rfl, rfl, (RL.sh_iff _).mpr ⟨rfl, ShL.rep r1 _⟩⟩ (s.newO hp)
    · cases hg
theorem o_mul : OpR X (binaryOp .Mult) rMulA ∧ VOp2 K (.own .sh) rMulA dMul := ⟨op_mul.or (op_rep.or op_mulW), vop_mul⟩

/-! ### == of data -/
mutual
def pd : D → Option PyData
  | .non => some .none
  | .bl b => some (.bool b)
  | .int i => some (.int i)
  | .str x => some (.str x)
  | .lst xs => (pdL xs).map .list
  | .frl xs => (pdL xs).map .list
  | .tup xs => (pdL xs).map .tuple
  | .ctu xs => (pdL xs).map .tuple
  | .dK _ _ => none
  | .dT _ _ => none
  | .val _ => none
  | .shd _ => none
def pdL : List D → Option (List PyData)
  | [] => some []
  | d :: ds => match pd d, pdL ds with
    | some x, some xs => some (x :: xs)
    | _, _ => none
end
mutual
theorem dp_of {G H : Hp} (le : GLe G H) : ∀ (d : D) {p : PyData} {v : V}, pd d = some p → Sh K G d v → Dp K H v p
  | .non, _, _, h, e => by cases h; rw [show _ = _ from e]; exact .non
  | .bl b, _, _, h, e => by cases h; rw [show _ = _ from e]; exact .bl b
  | .int i, _, _, h, e => by cases h; rw [show _ = _ from e]; exact .int i
  | .str x, _, _, h, e => by cases h; rw [show _ = _ from e]; exact .str x
  | .lst xs, _, _, h, ⟨a, vs, e, q, r⟩ => by
    simp only [pd, Option.map_eq_some_iff] at h
    obtain ⟨ps, h1, h2⟩ := h
    subst h2; subst e
    exact .lst (.inl (.inl (le _ _ q))) (dpL_of le xs h1 r)
  | .frl xs, _, _, h, ⟨a, vs, e, q, r⟩ => by
    simp only [pd, Option.map_eq_some_iff] at h
    obtain ⟨ps, h1, h2⟩ := h
    subst h2; subst e
    exact .lst (le.sqL q) (dpL_of le xs h1 r)
  | .tup xs, _, _, h, ⟨a, vs, e, q, r⟩ => by
    simp only [pd, Option.map_eq_some_iff] at h
    obtain ⟨ps, h1, h2⟩ := h
    subst h2; subst e
    exact .tup (le.sqT q) (dpL_of le xs h1 r)
  | .ctu xs, _, _, h, ⟨a, vs, e, q, r⟩ => by
    simp only [pd, Option.map_eq_some_iff] at h
    obtain ⟨ps, h1, h2⟩ := h
    subst h2; subst e
    exact .tup (le.sqTT q) (dpL_of le xs h1 r)
  | .dK _ _, _, _, h, _ => nomatch h
  | .dT _ _, _, _, h, _ => nomatch h
  | .val _, _, _, h, _ => nomatch h
  | .shd _, _, _, h, _ => nomatch h
theorem dpL_of {G H : Hp} (le : GLe G H) : ∀ (ds : List D) {ps : List PyData} {vs : List V}, pdL ds = some ps → ShL K G ds vs → DpAll K H vs ps
  | [], _, _, h, e => by cases h; rw [show _ = _ from e]; exact .nil
  | d :: ds, _, _, h, ⟨v, r, e, q, t⟩ => by
    subst e
    unfold pdL at h
    split at h
    · rename_i x xs h1 h2
      cases h
      exact .cons (dp_of le d h1 q) (dpL_of le ds h2 t)
    · cases h
end
def dEq (a b : D) : Option D := match pd a, pd b with
  | some x, some y => if (SeqAt.shaped x && SeqAt.shaped y) = true then some (.bl (PyData.eqv x y)) else none
  | _, _ => none
def dNe (a b : D) : Option D := match pd a, pd b with
  | some x, some y => if (SeqAt.shaped x && SeqAt.shaped y) = true then some (.bl (!PyData.eqv x y)) else none
  | _, _ => none
theorem vop_eq : VOp2 K m (rEqD K) dEq := by
  intro G H C x y dx dy d Q hx hy s hg hq
  unfold dEq at hg
  split at hg
  · rename_i p q h1 h2
    split at hg
    · rename_i hs
      cases hg
      rw [Bool.and_eq_true] at hs
      exact ⟨p, q, dp_of s.le dx h1 hx, dp_of s.le dy h2 hy, hs.1, hs.2, hq _ H G [] (GLe.refl G) ⟨rfl, rfl⟩ s⟩
    · cases hg
  · cases hg
theorem vop_ne : VOp2 K m (rNeD K) dNe := by
  intro G H C x y dx dy d Q hx hy s hg hq
  unfold dNe at hg
  split at hg
  · rename_i p q h1 h2
    split at hg
    · rename_i hs
      cases hg
      rw [Bool.and_eq_true] at hs
      exact ⟨p, q, dp_of s.le dx h1 hx, dp_of s.le dy h2 hy, hs.1, hs.2, hq _ H G [] (GLe.refl G) ⟨rfl, rfl⟩ s⟩
    · cases hg
  · cases hg
theorem hu64 {A : Around} {k : Nat} (hr : Room k A) : A.units + 64 < cLine := hr.units
theorem hu65 {A : Around} {k : Nat} (hr : Room k A) : A.units + 65 < cLine := by have := hr.un; omega
theorem o_eq {k : Nat} (hr : Room k X.A) (hK : X.K = K := by rfl) : OpR X (compareOp .Eq) (rEqD K) ∧ VOp2 K m (rEqD K) dEq := by subst hK; exact ⟨op_eqD (hu64 hr), vop_eq⟩
theorem o_ne {k : Nat} (hr : Room k X.A) (hK : X.K = K := by rfl) : OpR X (compareOp .NotEq) (rNeD K) ∧ VOp2 K m (rNeD K) dNe := by subst hK; exact ⟨op_neD (hu64 hr), vop_ne⟩
/-- is None -/
def isNon : D → Option Bool
  | .non => some true
  | .val _ => none
  | .shd _ => none
  | _ => some false
theorem isNon_of {G : Hp} {d : D} {v : V} {b : Bool} (h : isNon d = some b) (r : Sh K G d v) : decide (v = .non) = b := by
  cases d <;> first | (cases h; done) | skip
  · cases h; rw [show v = .non from r]; rfl
  · cases h; rw [show v = .bl _ from r]; rfl
  · cases h; rw [show v = .int _ from r]; rfl
  · cases h; rw [show v = .str _ from r]; rfl
  all_goals (obtain ⟨a, vs, e, _⟩ := r; subst e; cases h; rfl)
def dIs : D → D → Option D := fun a b => match b with
  | .non => (isNon a).map .bl
  | _ => none
def dIsNot : D → D → Option D := fun a b => match b with
  | .non => (isNon a).map fun k => .bl (!k)
  | .bl q => (match a with
    | .bl p => some (.bl (!decide (p = q)))
    | _ => none)
  | _ => none
theorem o_is : OpR X (compareOp .Is) (fun x y H Q => y = .non ∧ Q (.bl (decide (x = .non))) H) ∧ VOp2 K m (fun x y H Q => y = .non ∧ Q (.bl (decide (x = .non))) H) dIs := ⟨op_isN, by
  intro G H C x y dx dy d Q hx hy s hg hq
  unfold dIs at hg
  split at hg
  · simp only [Option.map_eq_some_iff] at hg
    obtain ⟨k, h1, h2⟩ := hg
    subst h2
    exact ⟨hy, by rw [isNon_of h1 hx]; exact hq _ H G [] (GLe.refl G) ⟨rfl, rfl⟩ s⟩
  · cases hg⟩
def rIsNotA : R2 := fun x y H Q => (y = .non ∧ Q (.bl (!decide (x = .non))) H) ∨ ∃ a b, x = V.bl a ∧ y = V.bl b ∧ Q (.bl (!decide (a = b))) H
theorem o_isnot : OpR X (compareOp .IsNot) rIsNotA ∧ VOp2 K m rIsNotA dIsNot := ⟨op_notN.or op_isnot_bl, by
  intro G H C x y dx dy d Q hx hy s hg hq
  unfold dIsNot at hg
  split at hg
  · simp only [Option.map_eq_some_iff] at hg
    obtain ⟨k, h1, h2⟩ := hg
    subst h2
    exact .inl ⟨hy, by rw [isNon_of h1 hx]; exact hq _ H G [] (GLe.refl G) ⟨rfl, rfl⟩ s⟩
  · split at hg
    · cases hg
      exact .inr ⟨_, _, hx, hy, hq _ H G [] (GLe.refl G) ⟨rfl, rfl⟩ s⟩
    · cases hg
  · cases hg⟩

/-! ### in: lists, tuples -/
def rInT (K : PySem.W.Frag) : R2 := fun x y H Q => ∃ d ds, Dp K H x d ∧ Dp K H y (.tuple ds) ∧ SeqAt.shaped d = true ∧ SeqAt.shaped (.tuple ds) = true ∧ Q (.bl (ds.any fun z => PyData.eqv z d)) H
def rNotInT (K : PySem.W.Frag) : R2 := fun x y H Q => ∃ d ds, Dp K H x d ∧ Dp K H y (.tuple ds) ∧ SeqAt.shaped d = true ∧ SeqAt.shaped (.tuple ds) = true ∧ Q (.bl (!ds.any fun z => PyData.eqv z d)) H
end
section
open PySem.Spec PyProof.Rows
variable {X : Cx} {K : PySem.W.Frag}
theorem op_inT (hu : X.A.units + 65 < cLine) : OpR X (compareOp .In) (rInT X.K) := by
  intro pins s σ H x y v u Q I rx ry h
  obtain ⟨d, ds, hd, he, sd, se, q⟩ := h
  obtain ⟨as, r1⟩ := Dp.reads I d x v hd rx
  obtain ⟨bs, r2⟩ := Dp.reads I (.tuple ds) y u he ry
  exact SeqAt.in_tuple_reads r2 r1 (SeqAt.canLay_of_shaped se) (SeqAt.canLay_of_shaped sd) (room_in_shaped sd hu) ⟨.bl _, H, I, rfl, q⟩
theorem op_notInT (hu : X.A.units + 65 < cLine) : OpR X (compareOp .NotIn) (rNotInT X.K) := by
  intro pins s σ H x y v u Q I rx ry h
  obtain ⟨d, ds, hd, he, sd, se, q⟩ := h
  obtain ⟨as, r1⟩ := Dp.reads I d x v hd rx
  obtain ⟨bs, r2⟩ := Dp.reads I (.tuple ds) y u he ry
  exact SeqAt.notIn_tuple_reads r2 r1 (SeqAt.canLay_of_shaped se) (SeqAt.canLay_of_shaped sd) (room_in_shaped sd hu) ⟨.bl _, H, I, rfl, q⟩
end
section
variable {K : PySem.W.Frag} {m : Md} {X : Cx}
def inPd (x : PyData) : PyData → Option Bool
  | .list ds => if (SeqAt.shaped x && SeqAt.shaped (.list ds)) = true then some (ds.any fun z => PyData.eqv z x) else none
  | .tuple ds => if (SeqAt.shaped x && SeqAt.shaped (.tuple ds)) = true then some (ds.any fun z => PyData.eqv z x) else none
  | _ => none
def inB (a b : D) : Option Bool := match a, b with
  | .str i, .str j => some (!(Builtin.Str.occurrences j i 0 j.length 1).isEmpty)
  | a, b => (pd a).bind fun x => (pd b).bind fun y => inPd x y
def dIn (a b : D) : Option D := (inB a b).map .bl
def dNotIn (a b : D) : Option D := (inB a b).map fun k => .bl (!k)
def rInA (K : PySem.W.Frag) : R2 := fun x y H Q => (∃ i j, x = .str i ∧ y = .str j ∧ Q (.bl (!(Builtin.Str.occurrences j i 0 j.length 1).isEmpty)) H) ∨ rInD K x y H Q ∨ rInT K x y H Q
def rNotInA (K : PySem.W.Frag) : R2 := fun x y H Q => (∃ i j, x = .str i ∧ y = .str j ∧ Q (.bl (!(!(Builtin.Str.occurrences j i 0 j.length 1).isEmpty))) H) ∨ rNotInD K x y H Q ∨ rNotInT K x y H Q
theorem inB_of {G H : Hp} {a b : D} {x y : V} {k : Bool} (le : GLe G H) (hx : Sh K G a x) (hy : Sh K G b y) (h : inB a b = some k) :
    (∃ i j, x = .str i ∧ y = .str j ∧ (!(Builtin.Str.occurrences j i 0 j.length 1).isEmpty) = k) ∨ (∃ d ds, Dp K H x d ∧ Dp K H y (.list ds) ∧ SeqAt.shaped d = true ∧ SeqAt.shaped (.list ds) = true ∧ (ds.any fun z => PyData.eqv z d) = k) ∨
      (∃ d ds, Dp K H x d ∧ Dp K H y (.tuple ds) ∧ SeqAt.shaped d = true ∧ SeqAt.shaped (.tuple ds) = true ∧ (ds.any fun z => PyData.eqv z d) = k) := by
  unfold inB at h
  split at h
  · rename_i i j
    cases h
    exact .inl ⟨i, j, hx, hy, rfl⟩
  · rename_i a' b' _
    cases e1 : pd a with
    | none => rw [e1] at h; cases h
    | some p =>
      rw [e1] at h
      cases e2 : pd b with
      | none => rw [e2] at h; cases h
      | some q =>
        rw [e2] at h
        replace h : inPd p q = some k := h
        unfold inPd at h
        split at h
        · rename_i ds
          split at h
          · rename_i hs
            cases h
            rw [Bool.and_eq_true] at hs
            exact .inr (.inl ⟨p, ds, dp_of le a e1 hx, dp_of le b e2 hy, hs.1, hs.2, rfl⟩)
          · cases h
        · rename_i ds
          split at h
          · rename_i hs
            cases h
            rw [Bool.and_eq_true] at hs
            exact .inr (.inr ⟨p, ds, dp_of le a e1 hx, dp_of le b e2 hy, hs.1, hs.2, rfl⟩)
          · cases h
        · cases h
theorem o_in {k : Nat} (hr : Room k X.A) (hK : X.K = K := by rfl) : OpR X (compareOp .In) (rInA K) ∧ VOp2 K m (rInA K) dIn := by subst hK; exact ⟨op_in_str.or ((op_inD (hu65 hr)).or (op_inT (hu65 hr))), by
  intro G H C x y dx dy d Q hx hy s hg hq
  obtain ⟨b, h1, h2⟩ := Option.map_eq_some_iff.mp hg
  subst h2
  have q := hq (.bl b) H G [] (GLe.refl G) ⟨rfl, rfl⟩ s
  rcases inB_of s.le hx hy h1 with ⟨i, j, e1, e2, e⟩ | ⟨d, ds, r1, r2, s1, s2, e⟩ | ⟨d, ds, r1, r2, s1, s2, e⟩
  · exact .inl ⟨i, j, e1, e2, by rw [e]; exact q⟩
  · exact .inr (.inl ⟨d, ds, r1, r2, s1, s2, by rw [e]; exact q⟩)
  · exact .inr (.inr ⟨d, ds, r1, r2, s1, s2, by rw [e]; exact q⟩)⟩
theorem o_notin {k : Nat} (hr : Room k X.A) (hK : X.K = K := by rfl) : OpR X (compareOp .NotIn) (rNotInA K) ∧ VOp2 K m (rNotInA K) dNotIn := by subst hK; exact ⟨op_notin_str.or ((op_notInD (hu65 hr)).or (op_notInT (hu65 hr))), by
  intro G H C x y dx dy d Q hx hy s hg hq
  obtain ⟨b, h1, h2⟩ := Option.map_eq_some_iff.mp hg
  subst h2
  have q := hq (.bl (!b)) H G [] (GLe.refl G) ⟨rfl, rfl⟩ s
  rcases inB_of s.le hx hy h1 with ⟨i, j, e1, e2, e⟩ | ⟨d, ds, r1, r2, s1, s2, e⟩ | ⟨d, ds, r1, r2, s1, s2, e⟩
  · exact .inl ⟨i, j, e1, e2, by rw [e]; exact q⟩
  · exact .inr (.inl ⟨d, ds, r1, r2, s1, s2, by rw [e]; exact q⟩)
  · exact .inr (.inr ⟨d, ds, r1, r2, s1, s2, by rw [e]; exact q⟩)⟩

/-! ### an item -/
def dIx : D → D → Option D
  | .lst xs, .int i => atI xs i
  | .frl xs, .int i => atI xs i
  | .tup xs, .int i => atI xs i
  | .ctu xs, .int i => atI xs i
  | .str z, .int i => if z.length ≤ lim then (atI z.cps.toList i).map fun c => .str ⟨#[c]⟩ else none
  | _, _ => none
theorem ShL.atI {G : Hp} {ds : List D} {vs : List V} {i : Int} {d : D} (h : ShL K G ds vs) (e : atI ds i = some d) : ∃ v, L2.atI vs i = some v ∧ Sh K G d v := by
  unfold L2.atI at e ⊢
  rw [h.len]
  cases e2 : ixN ds.length i with
  | none => rw [e2] at e; cases e
  | some j => rw [e2] at e; exact h.get e
theorem vop_ix : VOp2 K .sh (rIx K) dIx := by
  intro G H C x y dx dy d Q hx hy s hg hq
  cases dx <;> cases dy <;> first | (cases hg; done) | skip
  · rename_i z i
    dsimp only [dIx] at hg
    split at hg
    · rename_i hl
      obtain ⟨c, h1, h2⟩ := Option.map_eq_some_iff.mp hg
      subst h2
      exact .inr (.inr ⟨z, i, c, hx, hy, by rw [← lim_eq]; exact hl, h1, hq _ H G [] (GLe.refl G) ⟨rfl, rfl⟩ s⟩)
    · cases hg
  · rename_i xs i
    obtain ⟨a, vs, e1, e2, r⟩ := hx
    obtain ⟨v, h1, h2⟩ := r.atI hg
    exact .inl ⟨a, vs, i, v, e1, hy, .inl (.inl (s.le _ _ e2)), h1, hq v H G [] (GLe.refl G) (R.of_sh h2) s⟩
  · rename_i xs i
    obtain ⟨a, vs, e1, e2, r⟩ := hx
    obtain ⟨v, h1, h2⟩ := r.atI hg
    exact .inl ⟨a, vs, i, v, e1, hy, s.le.sqL e2, h1, hq v H G [] (GLe.refl G) (R.of_sh h2) s⟩
  · rename_i xs i
    obtain ⟨a, vs, e1, e2, r⟩ := hx
    obtain ⟨v, h1, h2⟩ := r.atI hg
    exact .inr (.inl ⟨a, vs, i, v, e1, hy, s.le.sqT e2, h1, hq v H G [] (GLe.refl G) (R.of_sh h2) s⟩)
  · rename_i xs i
    obtain ⟨a, vs, e1, e2, r⟩ := hx
    obtain ⟨v, h1, h2⟩ := r.atI hg
    exact .inr (.inl ⟨a, vs, i, v, e1, hy, s.le.sqTT e2, h1, hq v H G [] (GLe.refl G) (R.of_sh h2) s⟩)
end
section
variable {X : Cx} {K : PySem.W.Frag} {Γ : List Md} {Ek : WX} {m : Md} {a b e : PySem.Expr} {ta tb te : TE} {fa fb fe : Mr D} {pos : Pos}
theorem de_ix (ha : DE X K Γ Ek .sh a ta fa) (hb : DE X K Γ Ek .sh b tb fb) (hs : PlainIx b := by exact fun _ _ => rfl) (hK : X.K = K := by rfl) : DE X K Γ Ek .sh (.Subscript a b pos) (tOp (rIx K) ta tb) (mOp dIx fa fb) := by subst hK; exact ⟨pe_ix ix_seq ha.pe hb.pe hs, snd_op ha.sn hb.sn vop_ix⟩

/-! ### a stretch -/
abbrev RI : St → Hp → Option Int → Option Int → Fg → Prop := fun _ _ a b o => a = b ∧ o = []
structure DO (X : Cx) (K : PySem.W.Frag) (Γ : List Md) (Ek : WX) (e : Option PySem.Expr) (t : TO) (f : Mr (Option Int)) : Prop where
  po : PO X e t
  sn : SndG K Γ Ek RI t f
def dPart : D → Option (Option Int)
  | .int i => some (some i)
  | _ => none
theorem do_none : DO X K Γ Ek none tNoPart (ret none) := ⟨po_none, fun σ H G C ρ Q r hg hf hq => by cases hf; exact hq none H G [] (GLe.refl G) ⟨rfl, rfl⟩ hg⟩
theorem do_some (h : DE X K Γ Ek m e te fe) : DO X K Γ Ek (some e) (tPart te) (bnd fe fun d => lft (dPart d)) := ⟨po_some h.pe, by
  refine SndG.bind (Rel1 := RE K m) (t2 := fun x _ H1 Q => ∃ i, x = .int i ∧ Q (some i) H1) h.sn fun a b σ H G C o ρ Q r rel good hf hq => ?_
  cases a <;> first | (cases hf; done) | skip
  rename_i i
  obtain ⟨rfl, rfl⟩ := (show o = [] ∧ b = .int i from rel)
  cases hf
  exact ⟨i, rfl, hq (some i) H G [] (GLe.refl G) ⟨rfl, rfl⟩ good⟩⟩
def cutD {α : Type} (xs : List α) (lo hi : Option Int) : List α := (xs.drop (HT.sIx xs.length 0 lo)).take (HT.sIx xs.length xs.length hi - HT.sIx xs.length 0 lo)
def dSl (d : D) (lo hi : Option Int) : Option D := match d with
  | .lst xs => some (.lst (cutD xs lo hi))
  | .frl xs => some (.lst (cutD xs lo hi))
  | .tup xs => some (.tup (cutD xs lo hi))
  | .str z => if z.length ≤ lim then some (.str (cutS z lo hi)) else none
  | _ => none
def rSl (K : PySem.W.Frag) : V → Option Int → Option Int → Hp → VK → Prop := fun x lo hi H Q => rSlL K x lo hi H Q ∨ rSlA K x lo hi H Q ∨ rSlS x lo hi H Q
theorem ShL.cut {K : PySem.W.Frag} {G : Hp} {ds : List D} {vs : List V} (h : ShL K G ds vs) (lo hi : Option Int) : ShL K G (cutD ds lo hi) (cutV vs lo hi) := by
  unfold cutD cutV
  rw [h.len]
  exact (h.drop _).take _
theorem snd_sl {K : PySem.W.Frag} {tl th : TO} {fl fh : Mr (Option Int)} (h : Snd K Γ Ek .sh te fe) (hl : SndG K Γ Ek RI tl fl) (hh : SndG K Γ Ek RI th fh) :
    Snd K Γ Ek (.own .sh) (tSl (rSl K) te tl th) (bnd (mPair fe (mPair fl fh)) fun p => lft (dSl p.1 p.2.1 p.2.2)) := by
  refine SndG.op (Rel := RP (RE K .sh) (RP RI RI)) (k := fun p H Q => rSl K p.1 p.2.1 p.2.2 H Q) (g := fun p => dSl p.1 p.2.1 p.2.2) (SndG.pair h (SndG.pair hl hh (fun _ _ _ _ _ _ _ r => r)) RE.mono) fun σ G H C a b o d Q rel s hg hq => ?_
  obtain ⟨o1, o2, e, r1, o3, o4, e2, ⟨ea, e3⟩, ⟨eb, e4⟩⟩ := rel
  obtain ⟨z1, q1⟩ := (R.sh_iff _).mp r1
  subst e3; subst e4; subst z1; subst e2; subst e
  obtain ⟨a1, a2, a3⟩ := a
  obtain ⟨b1, b2, b3⟩ := b
  dsimp only at ea eb hg q1 ⊢
  subst ea; subst eb
  cases a1 <;> first | (cases hg; done) | skip
  · rename_i z
    dsimp only [dSl] at hg
    split at hg
    · rename_i hz
      cases hg
      exact .inr (.inr ⟨z, q1, by rw [← lim_eq]; exact hz, hq _ H G [] (GLe.refl G) ⟨rfl, rfl⟩ s⟩)
    · cases hg
  · obtain ⟨a, vs, e1, e2, r⟩ := q1
    cases hg
    exact .inl ⟨a, vs, e1, .inl (.inl (s.le _ _ e2)), fun p hp => hq _ _ G _ (GLe.refl G) ⟨p, _, [], rfl, rfl, (RL.sh_iff _).mpr ⟨rfl, r.cut _ _⟩⟩ (s.newO hp)⟩
  · obtain ⟨a, vs, e1, e2, r⟩ := q1
    cases hg
    exact .inl ⟨a, vs, e1, s.le.sqL e2, fun p hp => hq _ _ G _ (GLe.refl G) ⟨p, _, [], rfl, rfl, (RL.sh_iff _).mpr ⟨rfl, r.cut _ _⟩⟩ (s.newO hp)⟩
  · obtain ⟨a, vs, e1, e2, r⟩ := q1
    cases hg
    refine .inr (.inl ⟨a, vs, e1, s.le.sqT e2, fun hw => ?_, fun _ p hp => ?_⟩)
    · have ec : cutV vs a2 a3 = vs := by
        unfold cutV
        rw [hw.1, hw.2]
        simp
      exact hq _ H G [] (GLe.refl G) ⟨a, vs, rfl, e2, (RL.sh_iff _).mpr ⟨rfl, by have := r.cut a2 a3; rw [ec] at this; exact this⟩⟩ s
    · obtain ⟨s', g'⟩ := s.newG (u := .tup (cutV vs a2 a3)) hp
      exact hq _ _ _ [] g' ⟨p, _, rfl, upd_same, (RL.sh_iff _).mpr ⟨rfl, ShL.mono g' _ (r.cut _ _)⟩⟩ s'
theorem de_sl {lo hi : Option PySem.Expr} {tl th : TO} {fl fh : Mr (Option Int)} {p2 : Pos} (h : DE X K Γ Ek .sh e te fe) (hl : DO X K Γ Ek lo tl fl) (hh : DO X K Γ Ek hi th fh) (hK : X.K = K := by rfl) :
    DE X K Γ Ek (.own .sh) (.Subscript e (.Slice lo hi none p2) pos) (tSl (rSl K) te tl th) (bnd (mPair fe (mPair fl fh)) fun p => lft (dSl p.1 p.2.1 p.2.2)) := by subst hK; exact ⟨pe_slice (sl_list.or (sl_tupA.or sl_str)) h.pe hl.po hh.po, snd_sl h.sn hl.sn hh.sn⟩
end
end Dl
/-! Dl, fifth part: tests, choices, argument lists, displays, built-in calls. -/
namespace Dl
open PySem L2
local macro_rules | `(tactic| walk_at "fle") => `(tactic| (intro P; simp only [List.countP_append, List.countP_cons, List.countP_nil, List.append_nil, List.nil_append]; first | omega | (split <;> omega)))

/-! ### truth -/
def dTr : D → Option Bool
  | .non => some false
  | .bl b => some b
  | .int i => some (i != 0)
  | .str x => if x.length ≤ lim then some ((x.length : Int) != 0) else none
  | .lst xs => some (!xs.isEmpty)
  | .frl xs => some (!xs.isEmpty)
  | .tup xs => some (!xs.isEmpty)
  | .dK ks _ => some (!ks.isEmpty)
  | _ => none
theorem ShL.emp {K : PySem.W.Frag} {G : Hp} {ds : List D} {vs : List V} (h : ShL K G ds vs) : vs.isEmpty = ds.isEmpty := by
  cases ds with
  | nil => rw [show vs = [] from h]; rfl
  | cons d r => obtain ⟨v, w, e, _⟩ := h; rw [e]; rfl
theorem tr_of {K : PySem.W.Frag} {G H : Hp} {d : D} {v : V} {b : Bool} (le : GLe G H) (h : dTr d = some b) (r : Sh K G d v) : TruV K v H b := by
  cases d <;> first | (cases h; done) | skip
  · cases h; rw [show v = .non from r]; rfl
  · cases h; rw [show v = .bl _ from r]; rfl
  · cases h; rw [show v = .int _ from r]; rfl
  · dsimp only [dTr] at h
    split at h
    · rename_i hl
      cases h
      rw [show v = .str _ from r]
      exact ⟨by rw [← lim_eq]; exact hl, rfl⟩
    · cases h
  · obtain ⟨a, vs, e, q, t⟩ := r
    cases h; subst e
    exact .inl ⟨vs, .inl (.inl (le _ _ q)), by rw [t.emp]⟩
  · obtain ⟨a, vs, e, q, t⟩ := r
    cases h; subst e
    exact .inl ⟨vs, le.sqL q, by rw [t.emp]⟩
  · obtain ⟨a, vs, e, q, t⟩ := r
    cases h; subst e
    exact .inr (.inl ⟨vs, le.sqT q, by rw [t.emp]⟩)
  · rename_i ks xs
    obtain ⟨a, vs, e, q, l, t⟩ := r
    cases h; subst e
    refine .inr (.inr ⟨ks.zip vs, le _ _ q, ?_⟩)
    cases ks with
    | nil => rfl
    | cons k r =>
      cases vs with
      | nil => cases l
      | cons => rfl
section
variable {K : PySem.W.Frag} {X : Cx} {Γ : List Md} {Ek : WX} {m : Md} {a b c e : PySem.Expr} {t ta tb te : TE} {tA tB' : TT} {f fa fb fe : Mr D} {gA gB : Mr Bool} {pos : Pos} {rest : List PySem.Expr}
theorem snd_truth (h : Snd K Γ Ek .sh t f) : SndG K Γ Ek RB (fun σ H Q => t σ H fun x H' => ∃ k, TruV K x H' k ∧ Q k H') (bnd f fun d => lft (dTr d)) := by
  refine SndG.bind (Rel1 := RE K .sh) (t2 := fun x _ H' Q => ∃ k, TruV K x H' k ∧ Q k H') h fun a b σ H G C o ρ Q r rel good hf hq => ?_
  cases e : dTr a with
  | none => rw [e] at hf; cases hf
  | some k =>
    rw [e] at hf
    cases hf
    obtain ⟨rfl, q⟩ := (R.sh_iff _).mp rel
    exact ⟨k, tr_of good.sat.le e q, hq k H G [] (GLe.refl G) ⟨rfl, rfl⟩ good⟩
theorem dt_tr (h : DE X K Γ Ek .sh e te fe) (he : ∀ whole, isTrue e X.env whole = (do let v ← whole; standAt e.pos; holding [v] (truthy v)) := by intro _; rfl) (hK : X.K = K := by rfl) :
    DT X K Γ Ek e (fun σ H Q => te σ H fun x H' => ∃ k, TruV K x H' k ∧ Q k H') (bnd fe fun d => lft (dTr d)) := by subst hK; exact ⟨pt_truth h.pe he, snd_truth h.sn⟩
def mNot (g : Mr Bool) : Mr Bool := bnd g fun k => ret (!k)
theorem dt_not (h : DT X K Γ Ek a tA gA) : DT X K Γ Ek (.UnaryOp .Not a pos) (tNot tA) (mNot gA) := ⟨pt_not h.pt, by
  refine SndG.bind (Rel1 := RB) (t2 := fun k _ H1 Q => Q (!k) H1) h.sn fun a b σ H G C o ρ Q r rel good hf hq => ?_
  obtain ⟨rfl, rfl⟩ := rel
  cases hf
  exact hq _ H G [] (GLe.refl G) ⟨rfl, rfl⟩ good⟩
structure DW (X : Cx) (K : PySem.W.Frag) (Γ : List Md) (Ek : WX) (e : PySem.Expr) (t : TT) (f : Mr Bool) : Prop where
  pw : PW X e t
  sn : SndG K Γ Ek RB t f
theorem DW.dt (h : DW X K Γ Ek e tA gA) : DT X K Γ Ek e tA gA := ⟨h.pw.pt, h.sn⟩
theorem dw_and1 (h : DT X K Γ Ek a tA gA) : DW X K Γ Ek (.BoolOp .And [a] pos) tA gA := ⟨pw_and1 h.pt, h.sn⟩
theorem dw_or1 (h : DT X K Γ Ek a tA gA) : DW X K Γ Ek (.BoolOp .Or [a] pos) tA gA := ⟨pw_or1 h.pt, h.sn⟩
def mAnd (g g' : Mr Bool) : Mr Bool := bnd g fun k => if k = true then g' else ret false
def mOr (g g' : Mr Bool) : Mr Bool := bnd g fun k => if k = true then ret true else g'
theorem dw_and (h : DT X K Γ Ek a tA gA) (h' : DW X K Γ Ek (.BoolOp .And (b :: rest) pos) tB' gB) : DW X K Γ Ek (.BoolOp .And (a :: b :: rest) pos) (tAnd tA tB') (mAnd gA gB) := ⟨pw_and h.pt h'.pw, by
  refine SndG.bind (Rel1 := RB) (t2 := fun k σ H1 Q => if k = true then tB' σ H1 Q else Q false H1) h.sn fun a b σ H G C o ρ Q r rel good hf hq => ?_
  obtain ⟨rfl, rfl⟩ := rel
  cases a with
  | true => exact h'.sn σ H G C ρ Q r good hf hq
  | false => cases hf; exact hq _ H G [] (GLe.refl G) ⟨rfl, rfl⟩ good⟩
theorem dw_or (h : DT X K Γ Ek a tA gA) (h' : DW X K Γ Ek (.BoolOp .Or (b :: rest) pos) tB' gB) : DW X K Γ Ek (.BoolOp .Or (a :: b :: rest) pos) (tOr tA tB') (mOr gA gB) := ⟨pw_or h.pt h'.pw, by
  refine SndG.bind (Rel1 := RB) (t2 := fun k σ H1 Q => if k = true then Q true H1 else tB' σ H1 Q) h.sn fun a b σ H G C o ρ Q r rel good hf hq => ?_
  obtain ⟨rfl, rfl⟩ := rel
  cases a with
  | false => exact h'.sn σ H G C ρ Q r good hf hq
  | true => cases hf; exact hq _ H G [] (GLe.refl G) ⟨rfl, rfl⟩ good⟩
/-- a choice -/
def mIf {α : Type} (g : Mr Bool) (f f' : Mr α) : Mr α := bnd g fun k => if k = true then f else f'
theorem de_if (h : DT X K Γ Ek c tA gA) (ha : DE X K Γ Ek m a ta fa) (hb : DE X K Γ Ek m b tb fb) : DE X K Γ Ek m (.IfExp c a b pos) (tIf tA ta tb) (mIf gA fa fb) := ⟨pe_ifExp h.pt ha.pe hb.pe, by
  refine SndG.bind (Rel1 := RB) (t2 := fun k σ H1 Q => if k = true then ta σ H1 Q else tb σ H1 Q) h.sn fun a b σ H G C o ρ Q r rel good hf hq => ?_
  obtain ⟨rfl, rfl⟩ := rel
  cases a with
  | false => exact hb.sn σ H G C ρ Q r good hf hq
  | true => exact ha.sn σ H G C ρ Q r good hf hq⟩
/-- and, or, not as values -/
def mAndV (f f' : Mr D) : Mr D := bnd f fun d => bnd (lft (dTr d)) fun k => if k = true then f' else ret d
def mOrV (f f' : Mr D) : Mr D := bnd f fun d => bnd (lft (dTr d)) fun k => if k = true then ret d else f'
def mNotV (f : Mr D) : Mr D := bnd f fun d => bnd (lft (dTr d)) fun k => ret (.bl (!k))
theorem de_one {op} (h : DE X K Γ Ek m a ta fa) : DE X K Γ Ek m (.BoolOp op [a] pos) ta fa := ⟨pe_one h.pe, h.sn⟩
theorem de_and (h : DE X K Γ Ek .sh a ta fa) (h' : DE X K Γ Ek .sh (.BoolOp .And (b :: rest) pos) tb fb) (hK : X.K = K := by rfl) : DE X K Γ Ek .sh (.BoolOp .And (a :: b :: rest) pos) (tAndT K ta tb) (mAndV fa fb) := by subst hK; exact ⟨pe_andT h.pe h'.pe, by
  refine SndG.bind (Rel1 := RE X.K .sh) (t2 := fun x σ H1 Q => ∃ k, TruV X.K x H1 k ∧ if k = true then tb σ H1 Q else Q x H1) h.sn fun a b σ H G C o ρ Q r rel good hf hq => ?_
  obtain ⟨rfl, q⟩ := (R.sh_iff _).mp rel
  cases e : dTr a with
  | none => rw [e] at hf; cases hf
  | some k =>
    rw [e] at hf
    refine ⟨k, tr_of good.sat.le e q, ?_⟩
    cases k with
    | true => exact h'.sn σ H G C ρ Q r good hf hq
    | false => cases hf; exact hq _ H G [] (GLe.refl G) (R.of_sh q) good⟩
theorem de_or (h : DE X K Γ Ek .sh a ta fa) (h' : DE X K Γ Ek .sh (.BoolOp .Or (b :: rest) pos) tb fb) (hK : X.K = K := by rfl) : DE X K Γ Ek .sh (.BoolOp .Or (a :: b :: rest) pos) (tOrT K ta tb) (mOrV fa fb) := by subst hK; exact ⟨pe_orT h.pe h'.pe, by
  refine SndG.bind (Rel1 := RE X.K .sh) (t2 := fun x σ H1 Q => ∃ k, TruV X.K x H1 k ∧ if k = true then Q x H1 else tb σ H1 Q) h.sn fun a b σ H G C o ρ Q r rel good hf hq => ?_
  obtain ⟨rfl, q⟩ := (R.sh_iff _).mp rel
  cases e : dTr a with
  | none => rw [e] at hf; cases hf
  | some k =>
    rw [e] at hf
    refine ⟨k, tr_of good.sat.le e q, ?_⟩
    cases k with
    | false => exact h'.sn σ H G C ρ Q r good hf hq
    | true => cases hf; exact hq _ H G [] (GLe.refl G) (R.of_sh q) good⟩
theorem de_not (h : DE X K Γ Ek .sh a ta fa) (hK : X.K = K := by rfl) : DE X K Γ Ek m (.UnaryOp .Not a pos) (tNotT K ta) (mNotV fa) := by subst hK; exact ⟨pe_notT h.pe, by
  refine SndG.bind (Rel1 := RE X.K .sh) (t2 := fun x σ H1 (Q : VK) => ∃ k, TruV X.K x H1 k ∧ Q (.bl (!k)) H1) (f2 := fun d => bnd (lft (dTr d)) fun k => ret (D.bl (!k))) h.sn fun a b σ H G C o ρ Q r rel good hf hq => ?_
  obtain ⟨rfl, q⟩ := (R.sh_iff _).mp rel
  cases e : dTr a with
  | none => rw [e] at hf; cases hf
  | some k =>
    rw [e] at hf
    cases hf
    exact ⟨k, tr_of good.sat.le e q, hq _ H G [] (GLe.refl G) ⟨rfl, rfl⟩ good⟩⟩
theorem de_chain {op op' : CmpOp} {r r' : R2} {g g' : D → D → Option D} {tc : TE} {fc : Mr D} (o : OpR X (compareOp op) r ∧ VOp2 K .sh r g) (o' : OpR X (compareOp op') r' ∧ VOp2 K .sh r' g') (ha : DE X K Γ Ek .sh a ta fa) (hb : DE X K Γ Ek .sh b tb fb) (hc : DE X K Γ Ek .sh c tc fc)
    (hm : lastMarks [op, op'] [b, c] = false := by with_unfolding_all rfl) : DE X K Γ Ek .sh (.Compare a [op, op'] [b, c] pos) (tChain r r' ta tb tc) (mChain g g' fa fb fc) := ⟨pe_chain o.1 o'.1 ha.pe hb.pe hc.pe hm, snd_chain ha.sn hb.sn hc.sn o.2 o'.2⟩
theorem dt_chain {op op' : CmpOp} {r r' : R2} {g g' : D → D → Option D} {tc : TE} {fc : Mr D} (o : OpR X (compareOp op) r ∧ VOp2 K .sh r g) (o' : OpR X (compareOp op') r' ∧ VOp2 K .sh r' g') (ha : DE X K Γ Ek .sh a ta fa) (hb : DE X K Γ Ek .sh b tb fb) (hc : DE X K Γ Ek .sh c tc fc)
    (hm : lastMarks [op, op'] [b, c] = false := by with_unfolding_all rfl) : DT X K Γ Ek (.Compare a [op, op'] [b, c] pos) (tTest (tChain r r' ta tb tc)) (bnd (mChain g g' fa fb fc) fun d => lft (dBool d)) := ⟨pt_chain o.1 o'.1 ha.pe hb.pe hc.pe hm, snd_test (snd_chain ha.sn hb.sn hc.sn o.2 o'.2)⟩
/-- a unary minus -/
def dNeg : D → Option D
  | .int i => some (.int (-i))
  | _ => none
theorem vop_neg {K : PySem.W.Frag} : VOp1 K m (rU fun i => .int (-i)) dNeg := fun G H C x dx d Q hx s hg hq => by
  cases dx <;> first | (cases hg; done) | skip
  rename_i i
  cases hg
  exact ⟨i, hx, hq _ H G [] (GLe.refl G) ⟨rfl, rfl⟩ s⟩
theorem de_neg (h : DE X K Γ Ek .sh a ta fa) : DE X K Γ Ek m (.UnaryOp .USub a pos) (tUn (rU fun i => .int (-i)) ta) (mUn dNeg fa) := ⟨pe_un un_neg h.pe, snd_un (r := rU fun i => .int (-i)) h.sn vop_neg⟩

/-! ### argument lists -/
/-- what an argument is: a value of a mode, or a slot that is handed on -/
inductive AK where
  | v (m : Md) | io (s : Nat)
def RA (K : PySem.W.Frag) (Γ : List Md) : List AK → St → Hp → List D → List V → Fg → Prop
  | [], _, _, ds, vs, o => ds = [] ∧ vs = [] ∧ o = []
  | .v m :: ks, σ, G, ds, vs, o => ∃ d dr v vr o1 o2, ds = d :: dr ∧ vs = v :: vr ∧ o = o1 ++ o2 ∧ R K G d m v o1 ∧ RA K Γ ks σ G dr vr o2
  | .io s :: ks, σ, G, ds, vs, o => ∃ d dr v vr o1 o2 m, ds = d :: dr ∧ vs = v :: vr ∧ o = o1 ++ o2 ∧ σ[s]? = some (some v) ∧ Γ[s]? = some m ∧ R K G d m v o1 ∧ RA K Γ ks σ G dr vr o2
theorem RA.mono {Γ : List Md} : ∀ ks : List AK, RMono (RA K Γ ks)
  | [] => fun _ _ _ _ _ _ _ r => r
  | .v m :: ks => fun σ G G' ds vs o g ⟨d, dr, v, vr, o1, o2, e1, e2, e3, r, t⟩ => ⟨d, dr, v, vr, o1, o2, e1, e2, e3, R.mono g d r, RA.mono ks _ _ _ _ _ _ g t⟩
  | .io s :: ks => fun σ G G' ds vs o g ⟨d, dr, v, vr, o1, o2, m, e1, e2, e3, e4, e5, r, t⟩ => ⟨d, dr, v, vr, o1, o2, m, e1, e2, e3, e4, e5, R.mono g d r, RA.mono ks _ _ _ _ _ _ g t⟩
structure DA (X : Cx) (K : PySem.W.Frag) (Γ : List Md) (Ek : WX) (ks : List AK) (es : List PySem.Expr) (t : TA) (f : Mr (List D)) : Prop where
  pa : PA X es t
  sn : SndG K Γ Ek (RA K Γ ks) t f
def mNil : Mr (List D) := ret []
def mCons (f : Mr D) (g : Mr (List D)) : Mr (List D) := bnd (mPair f g) fun p => ret (p.1 :: p.2)
variable {ks : List AK} {es : List PySem.Expr} {tr : TA} {fr : Mr (List D)}
theorem da_nil : DA X K Γ Ek [] [] tNil mNil := ⟨pa_nil, fun σ H G C ρ Q r hg hf hq => by cases hf; exact hq [] H G [] (GLe.refl G) ⟨rfl, rfl, rfl⟩ hg⟩
theorem da_cons (h : DE X K Γ Ek m e te fe) (hr : DA X K Γ Ek ks es tr fr) (hs : starEach (e :: es) X.env = (false, eval e X.env) :: starEach es X.env := by rfl) : DA X K Γ Ek (.v m :: ks) (e :: es) (tCons te tr) (mCons fe fr) := ⟨pa_cons h.pe hr.pa hs, by
  refine SndG.bind (Rel1 := RP (RE K m) (RA K Γ ks)) (t1 := tPair te tr) (t2 := fun p _ H Q => Q (p.1 :: p.2) H) (SndG.pair h.sn hr.sn RE.mono) fun a b σ H G C o ρ Q r rel good hf hq => ?_
  obtain ⟨o1, o2, e, r1, r2⟩ := rel
  cases hf
  exact hq _ H G o (GLe.refl G) ⟨_, _, _, _, o1, o2, rfl, rfl, e, r1, r2⟩ good⟩
/-- a slot that is handed on: what the call makes of it is laid back -/
theorem da_io {x : Str} {p : Pos} (i : Nat) (hr : DA X K Γ Ek ks es tr fr) (hN : X.N[i]? = some x := by rfl) (hv : Vis X.env.scope x := by first | exact Or.inl rfl | exact Or.inr (Or.inl rfl) | exact Or.inr (Or.inr rfl)) (h : Γ[i]? = some m := by rfl) (hd : (x == ("__debug__" : Str)) = false := by decide)
    (hcd : (x == ("__classdict__" : Str)) = false := by decide) (hs : starEach (.Name x p :: es) X.env = (false, eval (.Name x p) X.env) :: starEach es X.env := by rfl) : DA X K Γ Ek (.io i :: ks) (.Name x p :: es) (tCons (tVar i) tr) (mCons (mMov i) fr) := ⟨pa_cons (pe_var hN hv hd hcd) hr.pa hs, by
  have h1 : SndG K Γ Ek (fun σ G d v o => σ[i]? = some (some v) ∧ R K G d m v o) (tVar i) (mMov i) := by
    intro σ H G C ρ Q r hg hf hq
    obtain ⟨d, e, _, er⟩ := mMov_inv hf
    subst er
    obtain ⟨v, m', o, e1, e2, r, g2⟩ := hg.take e
    rw [h] at e2; cases e2
    exact ⟨v, e1, hq v H G o (GLe.refl G) ⟨e1, r⟩ g2⟩
  refine SndG.bind (Rel1 := RP (fun σ G d v o => σ[i]? = some (some v) ∧ R K G d m v o) (RA K Γ ks)) (t1 := tPair (tVar i) tr) (t2 := fun p _ H Q => Q (p.1 :: p.2) H) (SndG.pair h1 hr.sn fun σ G G' d v o g r => ⟨r.1, R.mono g d r.2⟩) fun a b σ H G C o ρ Q r rel good hf hq => ?_
  obtain ⟨o1, o2, e, ⟨r0, r1⟩, r2⟩ := rel
  cases hf
  exact hq _ H G o (GLe.refl G) ⟨_, _, _, _, o1, o2, m, rfl, rfl, e, r0, h, r1, r2⟩ good⟩
/-- every argument of one mode -/
def isV (m : Md) : AK → Prop
  | .v m' => m' = m
  | .io _ => False
theorem isV_rep {m : Md} {ks : List AK} {n : Nat} (h : ks = List.replicate n (.v m)) : ∀ k ∈ ks, isV m k := fun k hk => by
  rw [h] at hk
  rw [(List.mem_replicate.mp hk).2]
  exact rfl
theorem RA.all {m : Md} {G : Hp} {σ : St} : ∀ {ks : List AK} {ds : List D} {vs : List V} {o : Fg}, (∀ k ∈ ks, isV m k) → RA K Γ ks σ G ds vs o → RL K G ds m vs o
  | [], ds, vs, o, _, ⟨e1, e2, e3⟩ => by subst e1; subst e2; subst e3; exact ⟨rfl, rfl⟩
  | .v m' :: ks, ds, vs, o, h, ⟨d, dr, v, vr, o1, o2, e1, e2, e3, r, t⟩ => by
    have e : m' = m := h _ List.mem_cons_self
    subst e; subst e1; subst e2
    exact ⟨v, vr, o1, o2, rfl, e3, r, RA.all (fun k hk => h k (List.mem_cons_of_mem _ hk)) t⟩
  | .io s :: ks, ds, vs, o, h, _ => (h (.io s) List.mem_cons_self).elim

/-! ### displays -/
def dTup (ds : List D) : Option D := if ds.length ≤ lim then some (.tup ds) else none
def dLst (ds : List D) : Option D := if ds.length ≤ lim then some (.lst ds) else none
theorem de_tup {x1} (h : DA X K Γ Ek ks es tr fr) (hk : ks = List.replicate es.length (.v m) := by rfl) : DE X K Γ Ek (.own m) (.Tuple es x1 pos) (tTup tr) (bnd fr fun ds => lft (dTup ds)) := ⟨pe_tup h.pa, by
  refine SndG.op (k := fun xs H1 Q => xs.length ≤ sizeLine ∧ ∀ p, H1 p = none → Q (.ref p) (upd H1 p (.tup xs))) h.sn fun σ G H C ds vs o d Q rel s hg hq => ?_
  have r := RA.all (isV_rep hk) rel
  unfold dTup at hg
  split at hg
  · rename_i hl
    cases hg
    refine ⟨by rw [r.len, ← lim_eq]; exact hl, fun p hp => ?_⟩
    obtain ⟨s', g'⟩ := s.newG (u := .tup vs) hp
    exact hq _ _ _ o g' ⟨p, vs, rfl, upd_same, RL.mono g' _ r⟩ s'
  · cases hg⟩
theorem de_lst (h : DA X K Γ Ek ks es tr fr) (hk : ks = List.replicate es.length (.v m) := by rfl) : DE X K Γ Ek (.own m) (.List es pos) (tLst tr) (bnd fr fun ds => lft (dLst ds)) := ⟨pe_lst h.pa, by
  refine SndG.op (k := fun xs H1 Q => xs.length ≤ sizeLine ∧ ∀ p, H1 p = none → Q (.ref p) (upd H1 p (.lst xs))) h.sn fun σ G H C ds vs o d Q rel s hg hq => ?_
  have r := RA.all (isV_rep hk) rel
  unfold dLst at hg
  split at hg
  · rename_i hl
    cases hg
    refine ⟨by rw [r.len, ← lim_eq]; exact hl, fun p hp => ?_⟩
    exact hq _ _ G _ (GLe.refl G) ⟨p, vs, o, rfl, rfl, r⟩ (s.newO hp)
  · cases hg⟩

/-! ### built-in functions -/
def VOpL (K : PySem.W.Frag) (m : Md) (r : List V → Hp → VK → Prop) (g : List D → Option D) : Prop :=
  ∀ (G H : Hp) (C : Fg) (vs : List V) (ds : List D) (d : D) (Q : VK), ShL K G ds vs → Sat H G C → g ds = some d →
    (∀ v H' G' o', GLe G G' → R K G' d m v o' → Sat H' G' (o' ++ C) → Q v H') → r vs H Q
def mCall (g : List D → Option D) (fr : Mr (List D)) : Mr D := bnd fr fun ds => lft (g ds)
theorem snd_cb {r : List V → Hp → VK → Prop} {g : List D → Option D} (h : SndG K Γ Ek (RA K Γ ks) tr fr) (hk : ∀ k ∈ ks, isV .sh k) (hv : VOpL K m r g) : Snd K Γ Ek m (tCB r tr) (mCall g fr) :=
  SndG.op (k := fun vs H Q => r vs H Q) h fun σ G H C ds vs o d Q rel s hg hq => by
    obtain ⟨z, q⟩ := (RL.sh_iff _).mp (RA.all hk rel)
    subst z
    exact hv G H C vs ds d Q q s hg hq
theorem de_cb {x : Str} {p : Pos} {id : String} {r : List V → Hp → VK → Prop} {g : List D → Option D} (hc : CallR X (.builtin id) r ∧ VOpL K m r g) (hm : X.mg x = none) (h : DA X K Γ Ek ks (e :: es) tr fr) (hg : Gl X x := by rfl) (hv : bootBuiltins x = some (.builtin id) := by first | rfl | decide +kernel)
    (hk : ks = List.replicate (es.length + 1) (.v .sh) := by rfl) (hn : x ≠ "__name__" := by decide) (hdb : (x == ("__debug__" : Str)) = false := by decide)
    (he : starEach (e :: es) X.env = (false, eval e X.env) :: starEach es X.env := by rfl) (hpl : (backTo pos (starEach es X.env)).any (·.1) = false := by rfl) : DE X K Γ Ek m (.Call (.Name x p) (e :: es) [] pos) (tCB r tr) (mCall g fr) :=
  ⟨pe_callB hc.1 hg hm hv h.pa hn hdb he hpl, snd_cb h.sn (isV_rep hk) hc.2⟩
theorem de_ct {x : Str} {p : Pos} {T : String} {r : List V → Hp → VK → Prop} {g : List D → Option D} (hc : CallR X (.type T) r ∧ VOpL K m r g) (hm : X.mg x = none) (h : DA X K Γ Ek ks (e :: es) tr fr) (hg : Gl X x := by rfl) (hv : bootBuiltins x = some (.type T) := by first | rfl | decide +kernel)
    (hk : ks = List.replicate (es.length + 1) (.v .sh) := by rfl) (hn : x ≠ "__name__" := by decide) (hdb : (x == ("__debug__" : Str)) = false := by decide)
    (he : starEach (e :: es) X.env = (false, eval e X.env) :: starEach es X.env := by rfl) (hpl : (backTo pos (starEach es X.env)).any (·.1) = false := by rfl) : DE X K Γ Ek m (.Call (.Name x p) (e :: es) [] pos) (tCB r tr) (mCall g fr) :=
  ⟨pe_callTy hc.1 hg hm hv h.pa hn hdb he hpl, snd_cb h.sn (isV_rep hk) hc.2⟩
end
end Dl
/-! Dl, sixth part: statements, targets, loops. -/
namespace Dl
open PySem L2
local macro_rules | `(tactic| walk_at "fle") => `(tactic| (intro P; simp only [List.countP_append, List.countP_cons, List.countP_nil, List.append_nil, List.nil_append]; first | omega | (split <;> omega)))

inductive Fl where
  | nx | rt (d : D) | bk | ct
/-- the slots io hold what they held -/
def Fix (io : List Nat) (σ σ' : St) : Prop := ∀ i ∈ io, σ'[i]? = σ[i]?
theorem Fix.refl {io : List Nat} (σ : St) : Fix io σ σ := fun _ _ => rfl
theorem Fix.trans {io : List Nat} {a b c : St} (h : Fix io a b) (h' : Fix io b c) : Fix io a c := fun i hi => (h' i hi).trans (h i hi)
theorem Fix.set {io : List Nat} {σ : St} {i : Nat} {v : Option V} (h : i ∉ io) : Fix io σ (σ.set i v) := fun j hj => List.getElem?_set_ne (by rintro rfl; exact h hj)
section
variable (K : PySem.W.Frag) (Γ : List Md) (Ek : WX) (rm : Md) (io : List Nat)
def SQ (G : Hp) (C : Fg) (σ : St) (E : Ends) : Rs Fl → Prop
  | .ok .nx ρ' => ∀ σ' H' G', GLe G G' → Fix io σ σ' → Good K Γ G' H' C σ' ρ' → E.nx σ' H'
  | .ok .bk ρ' => ∀ σ' H' G', GLe G G' → Fix io σ σ' → Good K Γ G' H' C σ' ρ' → E.bk σ' H'
  | .ok .ct ρ' => ∀ σ' H' G', GLe G G' → Fix io σ σ' → Good K Γ G' H' C σ' ρ' → E.ct σ' H'
  | .ok (.rt d) ρ' => ∀ v σ' H' G' o, GLe G G' → Fix io σ σ' → R K G' d rm v o → Good K Γ G' H' (o ++ C) σ' ρ' → E.rt v H'
  | .ex x ρ' => ∀ c dx σ' H' G', GLe G G' → Fix io σ σ' → XR K G' x c dx → Good K Γ G' H' C σ' ρ' → Ek c dx σ' H'
def SndS (t : TS) (f : Mr Fl) : Prop := ∀ (σ : St) (H G : Hp) (C : Fg) (ρ : De) (E : Ends) (r : Rs Fl), Good K Γ G H C σ ρ → f ρ = some r → SQ K Γ Ek rm io G C σ E r → t E σ H
/-- a target -/
def SndT (m : Md) (g : TG) (gt : D → De → Option De) : Prop := ∀ (G H : Hp) (C o : Fg) (σ : St) (ρ ρ' : De) (d : D) (v : V) (Q : St → Hp → Prop), R K G d m v o → Good K Γ G H (o ++ C) σ ρ → gt d ρ = some ρ' →
  (∀ σ' H' G', GLe G G' → Fix io σ σ' → Good K Γ G' H' C σ' ρ' → Q σ' H') → g v σ H Q
def SndTs (m : Md) (g : TGs) (gt : List D → De → Option De) : Prop := ∀ (G H : Hp) (C o : Fg) (σ : St) (ρ ρ' : De) (ds : List D) (vs : List V) (Q : St → Hp → Prop), RL K G ds m vs o → Good K Γ G H (o ++ C) σ ρ → gt ds ρ = some ρ' →
  (∀ σ' H' G', GLe G G' → Fix io σ σ' → Good K Γ G' H' C σ' ρ' → Q σ' H') → g vs σ H Q
end
structure DS (X : Cx) (K : PySem.W.Frag) (Γ : List Md) (Ek : WX) (rm : Md) (io : List Nat) (st : Stmt) (t : TS) (f : Mr Fl) : Prop where
  ps : PS X st t
  sn : SndS K Γ Ek rm io t f
structure DSs (X : Cx) (K : PySem.W.Frag) (Γ : List Md) (Ek : WX) (rm : Md) (io : List Nat) (st : List Stmt) (t : TS) (f : Mr Fl) : Prop where
  ps : PSs X st t
  sn : SndS K Γ Ek rm io t f
structure DG (X : Cx) (K : PySem.W.Frag) (Γ : List Md) (io : List Nat) (m : Md) (tg : PySem.Expr) (g : TG) (gt : D → De → Option De) : Prop where
  pg : PG X tg g
  sn : SndT K Γ io m g gt
structure DGs (X : Cx) (K : PySem.W.Frag) (Γ : List Md) (io : List Nat) (m : Md) (tg : List PySem.Expr) (g : TGs) (gt : List D → De → Option De) : Prop where
  pg : PGs X tg g
  sn : SndTs K Γ io m g gt
section
variable {K : PySem.W.Frag} {X : Cx} {Γ : List Md} {Ek : WX} {m rm : Md} {io : List Nat} {a b c e tg : PySem.Expr} {t u : TS} {te ta tb : TE} {tA : TT} {f f' : Mr Fl} {fe fa fb : Mr D} {gA : Mr Bool} {pos p : Pos} {st : Stmt} {rest sa sb : List Stmt} {ks : List AK} {es : List PySem.Expr} {tr : TA} {fr : Mr (List D)}
theorem SQ.mono {G G' : Hp} {C : Fg} {σ σ' : St} {E : Ends} {r : Rs Fl} (g : GLe G G') (x : Fix io σ σ') (h : SQ K Γ Ek rm io G C σ E r) : SQ K Γ Ek rm io G' C σ' E r := by
  cases r with
  | ok fl ρ =>
    cases fl with
    | nx => exact fun σ2 H2 G2 g2 x2 => h σ2 H2 G2 (g.trans g2) (x.trans x2)
    | bk => exact fun σ2 H2 G2 g2 x2 => h σ2 H2 G2 (g.trans g2) (x.trans x2)
    | ct => exact fun σ2 H2 G2 g2 x2 => h σ2 H2 G2 (g.trans g2) (x.trans x2)
    | rt d => exact fun v σ2 H2 G2 o g2 x2 => h v σ2 H2 G2 o (g.trans g2) (x.trans x2)
  | ex x' ρ => exact fun c dx σ2 H2 G2 g2 x2 => h c dx σ2 H2 G2 (g.trans g2) (x.trans x2)

/-! ### blocks -/
def mSeq (f g : Mr Fl) : Mr Fl := fun ρ => match f ρ with
  | some (.ok .nx ρ') => g ρ'
  | r => r
def mSkip : Mr Fl := ret .nx
theorem dss_nil : DSs X K Γ Ek rm io [] tNext mSkip := ⟨pss_nil, fun σ H G C ρ E r hg hf hq => by cases hf; exact hq σ H G (GLe.refl G) (Fix.refl σ) hg⟩
theorem dss_one (h : DS X K Γ Ek rm io st t f) : DSs X K Γ Ek rm io [st] t f := ⟨pss_one h.ps, h.sn⟩
theorem snd_seq (h : SndS K Γ Ek rm io t f) (h' : SndS K Γ Ek rm io u f') : SndS K Γ Ek rm io (tSeq t u) (mSeq f f') := by
  intro σ H G C ρ E r hg hf hq
  unfold mSeq at hf
  cases e : f ρ with
  | none => rw [e] at hf; cases hf
  | some r1 =>
    rw [e] at hf
    refine h σ H G C ρ { E with nx := u E } r1 hg e ?_
    cases r1 with
    | ok fl ρ1 =>
      cases fl with
      | nx => exact fun σ' H' G' g x good => h' σ' H' G' C ρ1 E r good hf (hq.mono g x)
      | bk => cases hf; exact hq
      | ct => cases hf; exact hq
      | rt d => cases hf; exact hq
    | ex x ρ1 => cases hf; exact hq
theorem dss_cons (h : DS X K Γ Ek rm io st t f) (h' : DSs X K Γ Ek rm io rest u f') : DSs X K Γ Ek rm io (st :: rest) (tSeq t u) (mSeq f f') := ⟨pss_cons h.ps h'.ps, snd_seq h.sn h'.sn⟩
theorem ds_no : DS X K Γ Ek rm io st tNever (fun _ => none) := ⟨ps_never, fun _ _ _ _ _ _ _ _ h _ => nomatch h⟩
theorem dss_no : DSs X K Γ Ek rm io rest tNever (fun _ => none) := ⟨pss_never, fun _ _ _ _ _ _ _ _ h _ => nomatch h⟩
theorem ds_pass : DS X K Γ Ek rm io (.Pass p) tNext mSkip := ⟨ps_pass, (dss_nil (X := X)).sn⟩
theorem ds_break : DS X K Γ Ek rm io (.Break p) tBreak (ret .bk) := ⟨ps_break, fun σ H G C ρ E r hg hf hq => by cases hf; exact hq σ H G (GLe.refl G) (Fix.refl σ) hg⟩
theorem ds_continue : DS X K Γ Ek rm io (.Continue p) tCont (ret .ct) := ⟨ps_continue, fun σ H G C ρ E r hg hf hq => by cases hf; exact hq σ H G (GLe.refl G) (Fix.refl σ) hg⟩
theorem ds_doc {x : Str} {j} {p p' : Pos} : DS X K Γ Ek rm io (.Expr (.Constant (.str x) j p) p') tNext mSkip := ⟨ps_doc, (dss_nil (X := X)).sn⟩
/-- what an expression's statement gives -/
theorem snd_then {E : Ends} {σ : St} {H G : Hp} {C : Fg} {ρ : De} {r : Rs Fl} {g : D → Mr Fl} {Q : VK} (h : Snd K Γ Ek m te fe) (hg : Good K Γ G H C σ ρ) (hf : bnd fe g ρ = some r) (hq : SQ K Γ Ek rm io G C σ E r)
    (k : ∀ d v o ρ1 H' G', GLe G G' → R K G' d m v o → Good K Γ G' H' (o ++ C) σ ρ1 → g d ρ1 = some r → Q v H') : te σ H Q := by
  rcases bnd_inv hf with ⟨d, ρ1, e1, e2⟩ | ⟨x, ρ1, e1, e2⟩
  · exact h σ H G C ρ _ _ hg e1 fun v H' G' o g' r' good => k d v o ρ1 H' G' g' r' good e2
  · subst e2
    exact h σ H G C ρ _ _ hg e1 fun c dx H' G' g' xr good => hq c dx σ H' G' g' (Fix.refl σ) xr good
theorem ds_expr (h : DE X K Γ Ek m e te fe) (hs : PS X (.Expr e pos) (tDrop te) := by exact ps_expr (by assumption)) : DS X K Γ Ek rm io (.Expr e pos) (tDrop te) (bnd fe fun _ => mSkip) := ⟨hs, by
  intro σ H G C ρ E r hg hf hq
  refine snd_then h.sn hg hf hq fun d v o ρ1 H' G' g' r' good e2 => ?_
  cases e2
  exact hq σ H' G' g' (Fix.refl σ) (good.re (by walk_at "fle"))⟩
theorem ds_ret (h : DE X K Γ Ek rm e te fe) : DS X K Γ Ek rm io (.Return (some e) pos) (tRet te) (bnd fe fun d => ret (.rt d)) := ⟨ps_ret h.pe, by
  intro σ H G C ρ E r hg hf hq
  refine snd_then h.sn hg hf hq fun d v o ρ1 H' G' g' r' good e2 => ?_
  cases e2
  exact hq v σ H' G' o g' (Fix.refl σ) r' good⟩
theorem ds_retN : DS X K Γ Ek rm io (.Return none pos) tRetN (ret (.rt .non)) := ⟨ps_retN, by
  intro σ H G C ρ E r hg hf hq
  cases hf
  exact hq .non σ H G [] (GLe.refl G) (Fix.refl σ) ⟨rfl, rfl⟩ hg⟩
theorem ds_if (h : DT X K Γ Ek c tA gA) (ha : DSs X K Γ Ek rm io sa t f) (hb : DSs X K Γ Ek rm io sb u f') : DS X K Γ Ek rm io (.If c sa sb pos) (tIfS tA t u) (mIf gA f f') := ⟨ps_if h.pt ha.ps hb.ps, by
  intro σ H G C ρ E r hg hf hq
  rcases bnd_inv hf with ⟨k, ρ1, e1, e2⟩ | ⟨x, ρ1, e1, e2⟩
  · refine h.sn σ H G C ρ _ _ hg e1 fun b H' G' o g' rel good => ?_
    obtain ⟨rfl, rfl⟩ := rel
    cases k with
    | true => exact ha.sn σ H' G' C ρ1 E r good e2 (hq.mono g' (Fix.refl σ))
    | false => exact hb.sn σ H' G' C ρ1 E r good e2 (hq.mono g' (Fix.refl σ))
  · subst e2
    exact h.sn σ H G C ρ _ _ hg e1 fun c dx H' G' g' xr good => hq c dx σ H' G' g' (Fix.refl σ) xr good⟩

/-! ### targets -/
def gtName (i : Nat) (d : D) (ρ : De) : Option De := some (ρ.set i (some d))
def gtScal (i : Nat) (d : D) (ρ : De) : Option De := if scal d then some (ρ.set i (some d)) else none
def gtAny (i : Nat) (_ : D) (ρ : De) : Option De := some (ρ.set i none)
theorem snt_name {i : Nat} (h : Γ[i]? = some m) (hi : i ∉ io) : SndT K Γ io m (gName i) (gtName i) := fun G H C o σ ρ ρ' d v Q r good e hq => by
  cases e
  exact hq _ H G (GLe.refl G) (Fix.set hi) (good.put r h)
theorem snt_scal {i : Nat} {m' : Md} (h : Γ[i]? = some m') (hi : i ∉ io) : SndT K Γ io m (gName i) (gtScal i) := fun G H C o σ ρ ρ' d v Q r good e hq => by
  unfold gtScal at e
  split at e
  · rename_i hs
    cases e
    exact hq _ H G (GLe.refl G) (Fix.set hi) (good.put (R.scal hs r) h)
  · cases e
theorem snt_any {i : Nat} (hi : i ∉ io) : SndT K Γ io m (gName i) (gtAny i) := fun G H C o σ ρ ρ' d v Q r good e hq => by
  cases e
  exact hq _ H G (GLe.refl G) (Fix.set hi) (good.putAny.re (by walk_at "fle"))
theorem dg_name (i : Nat) {x : Str} (nd : X.N.Nodup) (hi : X.N[i]? = some x := by rfl) (hx : Loc X.env.scope x := by first | exact Or.inl rfl | exact Or.inr rfl) (h : Γ[i]? = some m := by rfl) (hio : i ∉ io := by decide)
    (hf : X.fn x = true ∨ X.env.scope.names.lookup x = some .local := by first | exact .inl rfl | exact .inr rfl) : DG X K Γ io m (.Name x p) (gName i) (gtName i) := ⟨pg_name nd hi hx hf, snt_name h hio⟩
theorem dg_scal (i : Nat) {x : Str} {m' : Md} (nd : X.N.Nodup) (hi : X.N[i]? = some x := by rfl) (hx : Loc X.env.scope x := by first | exact Or.inl rfl | exact Or.inr rfl) (h : Γ[i]? = some m' := by rfl) (hio : i ∉ io := by decide)
    (hf : X.fn x = true ∨ X.env.scope.names.lookup x = some .local := by first | exact .inl rfl | exact .inr rfl) : DG X K Γ io m (.Name x p) (gName i) (gtScal i) := ⟨pg_name nd hi hx hf, snt_scal h hio⟩
theorem dg_any (i : Nat) {x : Str} (nd : X.N.Nodup) (hi : X.N[i]? = some x := by rfl) (hx : Loc X.env.scope x := by first | exact Or.inl rfl | exact Or.inr rfl) (hio : i ∉ io := by decide)
    (hf : X.fn x = true ∨ X.env.scope.names.lookup x = some .local := by first | exact .inl rfl | exact .inr rfl) : DG X K Γ io m (.Name x p) (gName i) (gtAny i) := ⟨pg_name nd hi hx hf, snt_any hio⟩
def gtNil (ds : List D) (ρ : De) : Option De := match ds with
  | [] => some ρ
  | _ => none
def gtCons (gt : D → De → Option De) (gr : List D → De → Option De) (ds : List D) (ρ : De) : Option De := match ds with
  | d :: r => (gt d ρ).bind fun ρ' => gr r ρ'
  | [] => none
theorem dgs_nil : DGs X K Γ io m [] gNil gtNil := ⟨pgs_nil, fun G H C o σ ρ ρ' ds vs Q r good e hq => by
  cases ds with
  | cons => cases e
  | nil =>
    cases e
    obtain ⟨e1, e2⟩ := r
    subst e1; subst e2
    exact ⟨rfl, hq σ H G (GLe.refl G) (Fix.refl σ) good⟩⟩
theorem dgs_cons {g : TG} {gs : TGs} {gt : D → De → Option De} {gr : List D → De → Option De} (h : DG X K Γ io m e g gt) (h' : DGs X K Γ io m es gs gr) (hs : (assignEach (e :: es) X.env).map (·.2) = assign e X.env :: (assignEach es X.env).map (·.2) := by rfl) : DGs X K Γ io m (e :: es) (gCons g gs) (gtCons gt gr) := ⟨pgs_cons h.pg h'.pg hs, fun G H C o σ ρ ρ' ds vs Q r good e hq => by
  cases ds with
  | nil => cases e
  | cons d ds =>
    obtain ⟨v, vr, o1, o2, e1, e2, r1, r2⟩ := r
    subst e1; subst e2
    obtain ⟨ρ1, e3, e4⟩ := Option.bind_eq_some_iff.mp e
    refine ⟨v, vr, rfl, h.sn G H (o2 ++ C) o1 σ ρ ρ1 d v _ r1 (good.re (by walk_at "fle")) e3 fun σ' H' G' g' x' good' => ?_⟩
    exact h'.sn G' H' C o2 σ' ρ1 ρ' ds vr Q (RL.mono g' ds r2) good' e4 fun σ2 H2 G2 g2 x2 => hq σ2 H2 G2 (g'.trans g2) (x'.trans x2)⟩
/-- an item of a constant tuple -/
def shc (d : D) : D := if scal d = true then d else .shd d
theorem shl_shc {K : PySem.W.Frag} {G : Hp} {m : Md} : ∀ {ds : List D} {vs : List V}, ShL K G ds vs → RL K G (ds.map shc) m vs []
  | [], _, h => ⟨h, rfl⟩
  | d :: ds, _, ⟨v, r, e, q, t⟩ => by
    refine ⟨v, r, [], [], e, rfl, ?_, shl_shc t⟩
    unfold shc
    split
    · rename_i hs
      exact R.scal (m := .sh) hs ((R.sh_iff _).mpr ⟨rfl, q⟩)
    · exact ⟨rfl, q⟩
def gtTup (n : Nat) (gr : List D → De → Option De) (d : D) (ρ : De) : Option De := match d with
  | .tup ds => if ds.length = n then gr ds ρ else none
  | .ctu ds => if ds.length = n then gr (ds.map shc) ρ else none
  | _ => none
theorem dg_tup {k : Nat} {gs : TGs} {gr : List D → De → Option De} {n : Nat} (hc : X.calm = true) (h : DGs X K Γ io m es gs gr) (hn : (assignEach es X.env).length = n := by rfl) (hst : (assignEach es X.env).findIdx? (·.1) = none := by rfl) (hK : X.K = K := by rfl) :
    DG X K Γ io (.own m) (.Tuple es k p) (gTup K n gs) (gtTup n gr) := by subst hK; exact ⟨pg_tup hc h.pg hn hst, fun G H C o σ ρ ρ' d v Q r good e hq => by
  cases d <;> first | (cases e; done) | skip
  · rename_i ds
    obtain ⟨a, vs, e1, e2, r1⟩ := r
    dsimp only [gtTup] at e
    split at e
    · rename_i hl
      exact ⟨a, vs, e1, good.sat.le.sqT e2, by rw [r1.len]; exact hl, h.sn G H C o σ ρ ρ' ds vs Q r1 good e hq⟩
    · cases e
  · rename_i ds
    obtain ⟨z, a, vs, e1, e2, r1⟩ := r
    subst z
    dsimp only [gtTup] at e
    split at e
    · rename_i hl
      exact ⟨a, vs, e1, good.sat.le.sqTT e2, by rw [r1.len]; exact hl, h.sn G H C [] σ ρ ρ' (ds.map shc) vs Q (shl_shc r1) good e hq⟩
    · cases e⟩
theorem dg_tupS {k : Nat} {gs : TGs} {gr : List D → De → Option De} {n : Nat} (hc : X.calm = true) (h : DGs X K Γ io .sh es gs gr) (hn : (assignEach es X.env).length = n := by rfl) (hst : (assignEach es X.env).findIdx? (·.1) = none := by rfl) (hK : X.K = K := by rfl) :
    DG X K Γ io .sh (.Tuple es k p) (gTup K n gs) (gtTup n gr) := by subst hK; exact ⟨pg_tup hc h.pg hn hst, fun G H C o σ ρ ρ' d v Q r good e hq => by
  cases d <;> first | (cases e; done) | skip
  · rename_i ds
    obtain ⟨z, a, vs, e1, e2, r1⟩ := r
    subst z
    dsimp only [gtTup] at e
    split at e
    · rename_i hl
      exact ⟨a, vs, e1, good.sat.le.sqT e2, by rw [r1.len]; exact hl, h.sn G H C [] σ ρ ρ' ds vs Q ((RL.sh_iff _).mpr ⟨rfl, r1⟩) good e hq⟩
    · cases e
  · rename_i ds
    obtain ⟨z, a, vs, e1, e2, r1⟩ := r
    subst z
    dsimp only [gtTup] at e
    split at e
    · rename_i hl
      exact ⟨a, vs, e1, good.sat.le.sqTT e2, by rw [r1.len]; exact hl, h.sn G H C [] σ ρ ρ' (ds.map shc) vs Q (shl_shc r1) good e hq⟩
    · cases e⟩
def mAsg (fe : Mr D) (gt : D → De → Option De) : Mr Fl := bnd fe fun d ρ => match gt d ρ with
  | none => none
  | some ρ' => some (.ok .nx ρ')
theorem snd_asg {g : TG} {gt : D → De → Option De} (h : Snd K Γ Ek m te fe) (hg' : SndT K Γ io m g gt) : SndS K Γ Ek rm io (tAsg te g) (mAsg fe gt) := by
  intro σ H G C ρ E r hg hf hq
  refine snd_then h hg hf hq fun d v o ρ1 H' G' g' r' good e2 => ?_
  split at e2
  · cases e2
  · rename_i ρ2 e3
    cases e2
    exact hg' G' H' C o σ ρ1 ρ2 d v E.nx r' good e3 fun σ2 H2 G2 g2 x2 => hq σ2 H2 G2 (g'.trans g2) x2
theorem ds_asg {g : TG} {gt : D → De → Option De} (h : DE X K Γ Ek m e te fe) (hg : DG X K Γ io m tg g gt) (hs : swapsWithSole [tg] e pos.line X.env = pure false := by rfl) (hw : swappedStores [tg] e X.env = pure none := by rfl)
    (h1 : (assignEach [tg] X.env).map (·.2) = [assign tg X.env] := by rfl) : DS X K Γ Ek rm io (.Assign [tg] e pos) (tAsg te g) (mAsg fe gt) := ⟨ps_asg h.pe hg.pg hs hw h1, snd_asg h.sn hg.sn⟩
/-- x, y = a, b -/
def mPar (i j : Nat) (fr : Mr (List D)) : Mr Fl := bnd fr fun ds ρ => match ds with
  | [d, e] => some (.ok .nx ((ρ.set i (some d)).set j (some e)))
  | _ => none
theorem ds_par {i j : Nat} {x y : Str} {px py pt : Pos} {kt k2 pt2} {mi mj : Md} (hc : X.calm = true) (hN : X.N.Nodup) (ha : DA X K Γ Ek [.v mi, .v mj] [a, b] tr fr)
    (hw : swappedStores [.Tuple [.Name x px, .Name y py] kt pt] (.Tuple [a, b] k2 pt2) X.env = pure (some [x, y])) (hi : X.N[i]? = some x := by rfl) (hj : X.N[j]? = some y := by rfl) (hij : i ≠ j := by decide)
    (hx : X.env.scope.names.lookup x = some .local := by rfl) (hy : X.env.scope.names.lookup y = some .local := by rfl) (h1 : Γ[i]? = some mi := by rfl) (h2 : Γ[j]? = some mj := by rfl) (hio : i ∉ io := by decide) (hjo : j ∉ io := by decide)
    (hs : swapsWithSole [.Tuple [.Name x px, .Name y py] kt pt] (.Tuple [a, b] k2 pt2) pos.line X.env = pure false := by rfl) :
    DS X K Γ Ek rm io (.Assign [.Tuple [.Name x px, .Name y py] kt pt] (.Tuple [a, b] k2 pt2) pos) (tPar i j tr) (mPar i j fr) := ⟨ps_par hc hN hi hj hij hx hy ha.pa hw hs, by
  intro σ H G C ρ E r hg hf hq
  rcases bnd_inv hf with ⟨ds, ρ1, e1, e2⟩ | ⟨x, ρ1, e1, e2⟩
  · refine ha.sn σ H G C ρ _ _ hg e1 fun vs H' G' o g' rel good => ?_
    obtain ⟨d, dr, v, vr, o1, o2, ed, ev, eo, r1, d', dr', v', vr', o3, o4, ed', ev', eo', r2, z1, z2, z3⟩ := rel
    subst z1; subst z2; subst z3; subst ed'; subst ev'; subst eo'; subst ed; subst ev; subst eo
    cases e2
    refine ⟨v, v', rfl, hq _ H' G' g' ((Fix.set hio).trans (Fix.set hjo)) ?_⟩
    exact Good.put (o := o3) (Good.put (o := o1) (C := o3 ++ C) (good.re (by walk_at "fle")) r1 h1) r2 h2
  · subst e2
    exact ha.sn σ H G C ρ _ _ hg e1 fun c dx H' G' g' xr good => hq c dx σ H' G' g' (Fix.refl σ) xr good⟩
def mPar3 (i j l : Nat) (fr : Mr (List D)) : Mr Fl := bnd fr fun ds ρ => match ds with
  | [d, e, f] => some (.ok .nx (((ρ.set i (some d)).set j (some e)).set l (some f)))
  | _ => none
theorem ds_par3 {i j l : Nat} {x y z : Str} {px py pz pt : Pos} {kt k2 pt2} {mi mj ml : Md} (hc : X.calm = true) (hN : X.N.Nodup) (ha : DA X K Γ Ek [.v mi, .v mj, .v ml] [a, b, c] tr fr)
    (hw : swappedStores [.Tuple [.Name x px, .Name y py, .Name z pz] kt pt] (.Tuple [a, b, c] k2 pt2) X.env = pure (some [x, y, z])) (hi : X.N[i]? = some x := by rfl) (hj : X.N[j]? = some y := by rfl) (hl : X.N[l]? = some z := by rfl) (hij : i ≠ j := by decide) (hil : i ≠ l := by decide) (hjl : j ≠ l := by decide)
    (hx : X.env.scope.names.lookup x = some .local := by rfl) (hy : X.env.scope.names.lookup y = some .local := by rfl) (hz : X.env.scope.names.lookup z = some .local := by rfl) (h1 : Γ[i]? = some mi := by rfl) (h2 : Γ[j]? = some mj := by rfl) (h3 : Γ[l]? = some ml := by rfl)
    (hio : i ∉ io := by decide) (hjo : j ∉ io := by decide) (hlo : l ∉ io := by decide)
    (hs : swapsWithSole [.Tuple [.Name x px, .Name y py, .Name z pz] kt pt] (.Tuple [a, b, c] k2 pt2) pos.line X.env = pure false := by rfl) :
    DS X K Γ Ek rm io (.Assign [.Tuple [.Name x px, .Name y py, .Name z pz] kt pt] (.Tuple [a, b, c] k2 pt2) pos) (tPar3 i j l tr) (mPar3 i j l fr) := ⟨ps_par3 hc hN hi hj hl hij hil hjl hx hy hz ha.pa hw hs, by
  intro σ H G C ρ E r hg hf hq
  rcases bnd_inv hf with ⟨ds, ρ1, e1, e2⟩ | ⟨x, ρ1, e1, e2⟩
  · refine ha.sn σ H G C ρ _ _ hg e1 fun vs H' G' o g' rel good => ?_
    obtain ⟨d, dr, v, vr, o1, o2, ed, ev, eo, r1, d', dr', v', vr', o3, o4, ed', ev', eo', r2, d2, dr2, v2, vr2, o5, o6, ed2, ev2, eo2, r3, z1, z2, z3⟩ := rel
    subst z1; subst z2; subst z3; subst ed2; subst ev2; subst eo2; subst ed'; subst ev'; subst eo'; subst ed; subst ev; subst eo
    cases e2
    refine ⟨v, v', v2, rfl, hq _ H' G' g' (((Fix.set hio).trans (Fix.set hjo)).trans (Fix.set hlo)) ?_⟩
    exact Good.put (o := o5) (Good.put (o := o3) (C := o5 ++ C) (Good.put (o := o1) (C := o3 ++ (o5 ++ C)) (good.re (by walk_at "fle")) r1 h1) r2 h2) r3 h3
  · subst e2
    exact ha.sn σ H G C ρ _ _ hg e1 fun c dx H' G' g' xr good => hq c dx σ H' G' g' (Fix.refl σ) xr good⟩
end
end Dl
/-! Dl, seventh part: what is walked; for, while, comprehensions. -/
namespace Dl
open PySem L2
local macro_rules | `(tactic| walk_at "fle") => `(tactic| (intro P; simp only [List.countP_append, List.countP_cons, List.countP_nil, List.append_nil, List.nil_append]; first | omega | (split <;> omega)))

/-- J walks the data ds -/
def ItR (K : PySem.W.Frag) : St → Hp → List D → It → Fg → Prop := fun _ G ds J o => o = [] ∧ ∀ (i : Nat) (H G' : Hp) (O : Fg), GLe G G' → Sat H G' O →
  (∀ d, ds[i]? = some d → J.go i H ∧ ∀ x H', J.yld i H x H' → ∃ G'', GLe G' G'' ∧ Sat H' G'' O ∧ Sh K G'' d x) ∧ (ds.length ≤ i → J.stop i H)
structure DI (X : Cx) (K : PySem.W.Frag) (Γ : List Md) (Ek : WX) (tg e : PySem.Expr) (wi : TI) (fi : Mr (List D)) : Prop where
  pi : PI X tg e wi
  sn : SndG K Γ Ek (ItR K) wi fi
theorem ItR.mono {K : PySem.W.Frag} : RMono (ItR K) := fun σ G G' ds J o g r => ⟨r.1, fun i H G2 O g2 => r.2 i H G2 O (g.trans g2)⟩

def iSeq (K : PySem.W.Frag) (tl : TE) : TI := fun σ H R => tl σ H fun x H1 => (∃ a, x = .ref a ∧ (∃ xs, SqL K H1 a xs) ∧ R (Itl K a) H1) ∨ (∃ a, x = .ref a ∧ (∃ xs, SqT K H1 a xs) ∧ R (Itt K a) H1) ∨ ∃ z, x = .str z ∧ R (Its z) H1
section
open PySem.Spec PyProof.Rows
theorem pi_seqA {X : Cx} {tg l : PySem.Expr} {tl : TE} (hl : PE X l tl) : PI X tg l (iSeq X.K tl) := by
  refine ⟨fun pins s σ H R I h => ?_⟩
  refine thn (hl.run pins s σ H _ I h) fun v s1 ⟨x, H1, I1, r1, q1⟩ => ?_
  rcases q1 with ⟨a, e, ⟨xs, hq⟩, q⟩ | ⟨a, e, ⟨xs, hq⟩, q⟩ | ⟨z, e, q⟩
  · subst e
    cases r1
    obtain ⟨its, rv, p, hz⟩ := I1.list hq
    refine wpAny_pyIter_list p.isList ?_
    refine ⟨s1.heap.objs.size, [s1.heap.objs.size], _, _, H1, rfl, I1.kept (t' := s1.toks) fun b o e => Heap.get?_push_of_some _ e, turn_list a _, ⟨_, Heap.get?_push_size _ rfl, rfl, rfl⟩, fun b hb => ?_, q⟩
    have e : b = s1.heap.objs.size := by simpa using hb
    subst e
    exact I1.fpOk (Nat.le_refl _) (I1.hok.fresh (Nat.le_refl _))
  · subst e
    cases r1
    obtain ⟨its, rv, p, hz⟩ := I1.tuple hq
    refine wpAny_pyIter_tuple (show s1.heap.IsTuple a its.toArray from p) ?_
    refine ⟨s1.heap.objs.size, [s1.heap.objs.size], _, _, H1, rfl, I1.kept (t' := s1.toks) fun b o e => Heap.get?_push_of_some _ e, turn_tuple a _, ⟨_, Heap.get?_push_size _ rfl, rfl, rfl⟩, fun b hb => ?_, q⟩
    have e : b = s1.heap.objs.size := by simpa using hb
    subst e
    exact I1.fpOk (Nat.le_refl _) (I1.hok.fresh (Nat.le_refl _))
  · subst e
    obtain ⟨t, rfl⟩ := r1
    cases ha : z.cps.all (· < 128)
    · exact wpAny_pyIter_wide ha (pi_one (tk := s1.toks) I1 _ (turn_str _ z t "str_iterator" (.inr rfl)) ⟨_, Heap.get?_push_size _ rfl, rfl, rfl⟩ q)
    · exact wpAny_pyIter_ascii ha (pi_one (tk := s1.toks) I1 _ (turn_str _ z t "str_ascii_iterator" (.inl rfl)) ⟨_, Heap.get?_push_size _ rfl, rfl, rfl⟩ q)
end
section
variable {K : PySem.W.Frag} {X : Cx} {Γ : List Md} {Ek : WX} {m mt rm c : Md} {io : List Nat} {e tg : PySem.Expr} {te : TE} {fe : Mr D} {pos p : Pos}
/-- the items of what is walked -/
def dItems : D → Option (List D)
  | .lst xs => some xs
  | .frl xs => some xs
  | .tup xs => some xs
  | .str z => some (z.cps.toList.map fun c => .str ⟨#[c]⟩)
  | _ => none
theorem itl_of {G : Hp} {a : Addr} {vs : List V} {ds : List D} {σ : St} (h : SqL K G a vs) (r : ShL K G ds vs) (inj : ∀ (H G' : Hp) (O : Fg) (ws : List V), GLe G G' → Sat H G' O → SqL K H a ws → ws = vs) : ItR K σ G ds (Itl K a) [] := by
  refine ⟨rfl, fun i H G' O g s => ⟨fun d e => ?_, fun hl => ?_⟩⟩
  · obtain ⟨v, ev, rv⟩ := r.get e
    have hs : SqL K H a vs := s.le.sqL (g.sqL h)
    refine ⟨⟨vs, v, hs, ev⟩, fun x H' ⟨e1, y⟩ => ?_⟩
    subst e1
    have := y vs hs
    rw [ev] at this; cases this
    exact ⟨G', GLe.refl G', s, Sh.mono g d rv⟩
  · exact ⟨vs, s.le.sqL (g.sqL h), by rw [r.len]; exact hl⟩
theorem itl_of' {G : Hp} {a : Addr} {vs : List V} {ds : List D} {σ : St} (h : SqL K G a vs) (r : ShL K G ds vs) : ItR K σ G ds (Itl K a) [] := by
  refine ⟨rfl, fun i H G' O g s => ⟨fun d e => ?_, fun hl => ?_⟩⟩
  · obtain ⟨v, ev, rv⟩ := r.get e
    have hs : SqL K H a vs := s.le.sqL (g.sqL h)
    refine ⟨⟨vs, v, hs, ev⟩, fun x H' ⟨e1, y⟩ => ?_⟩
    subst e1
    have := y vs hs
    rw [ev] at this; cases this
    exact ⟨G', GLe.refl G', s, Sh.mono g d rv⟩
  · exact ⟨vs, s.le.sqL (g.sqL h), by rw [r.len]; exact hl⟩
theorem itt_of {G : Hp} {a : Addr} {vs : List V} {ds : List D} {σ : St} (h' : G a = some (.tup vs)) (r : ShL K G ds vs) : ItR K σ G ds (Itt K a) [] := by
  refine ⟨rfl, fun i H G' O g s => ⟨fun d e => ?_, fun hl => ?_⟩⟩
  · obtain ⟨v, ev, rv⟩ := r.get e
    have hs : SqT K H a vs := s.le.sqT (g _ _ h')
    refine ⟨⟨vs, v, hs, ev⟩, fun x H' ⟨e1, y⟩ => ?_⟩
    subst e1
    have := y vs hs
    rw [ev] at this; cases this
    exact ⟨G', GLe.refl G', s, Sh.mono g d rv⟩
  · exact ⟨vs, s.le.sqT (g _ _ h'), by rw [r.len]; exact hl⟩
theorem its_of {G : Hp} {z : Str} {σ : St} : ItR K σ G (z.cps.toList.map fun c => .str ⟨#[c]⟩) (Its z) [] := by
  refine ⟨rfl, fun i H G' O g s => ⟨fun d e => ?_, fun hl => ?_⟩⟩
  · rw [List.getElem?_map] at e
    obtain ⟨c, h1, h2⟩ := Option.map_eq_some_iff.mp e
    subst h2
    have hi : i < z.cps.size := by
      have := (List.getElem?_eq_some_iff.mp h1).1
      simpa using this
    refine ⟨hi, fun x H' ⟨e1, c', e2, e3⟩ => ?_⟩
    subst e1
    have e4 : z.cps[i]? = some c := by simpa using h1
    rw [e4] at e2; cases e2
    subst e3
    exact ⟨G', GLe.refl G', s, rfl⟩
  · have hl' : z.cps.size ≤ i := by simpa using hl
    exact hl'
theorem snd_iseq (h : Snd K Γ Ek .sh te fe) : SndG K Γ Ek (ItR K) (iSeq K te) (bnd fe fun d => lft (dItems d)) := by
  refine SndG.bind (Rel1 := RE K .sh) (t2 := fun x _ H1 R => (∃ a, x = .ref a ∧ (∃ xs, SqL K H1 a xs) ∧ R (Itl K a) H1) ∨ (∃ a, x = .ref a ∧ (∃ xs, SqT K H1 a xs) ∧ R (Itt K a) H1) ∨ ∃ z, x = .str z ∧ R (Its z) H1) h fun a b σ H G C o ρ Q r rel good hf hq => ?_
  obtain ⟨rfl, q⟩ := (R.sh_iff _).mp rel
  have le := good.sat.le
  cases a <;> first | (cases hf; done) | skip
  · cases hf
    exact .inr (.inr ⟨_, q, hq _ H G [] (GLe.refl G) its_of good⟩)
  · obtain ⟨a, vs, e1, e2, r⟩ := q
    cases hf
    exact .inl ⟨a, e1, ⟨vs, .inl (.inl (le _ _ e2))⟩, hq _ H G [] (GLe.refl G) (itl_of' (.inl (.inl e2)) r) good⟩
  · obtain ⟨a, vs, e1, e2, r⟩ := q
    cases hf
    exact .inl ⟨a, e1, ⟨vs, le.sqL e2⟩, hq _ H G [] (GLe.refl G) (itl_of' e2 r) good⟩
  · obtain ⟨a, vs, e1, e2, r⟩ := q
    cases hf
    exact .inr (.inl ⟨a, e1, ⟨vs, le.sqT e2⟩, hq _ H G [] (GLe.refl G) (itt_of e2 r) good⟩)
theorem di_seq (h : DE X K Γ Ek .sh e te fe) (hK : X.K = K := by rfl) : DI X K Γ Ek tg e (iSeq K te) (bnd fe fun d => lft (dItems d)) := by subst hK; exact ⟨pi_seqA h.pe, snd_iseq h.sn⟩

/-! ### ranges -/
def rgC (lo c : Int) (n : Nat) : List D := (List.range n).map fun i => .int (lo + (i : Nat) * c)
def ok62 (i : Int) : Bool := Nat.ble i.natAbs 4611686018427387903
theorem ok62_mp {i : Int} (h : ok62 i = true) : -(2 ^ 62) ≤ i ∧ i < 2 ^ 62 := by
  have := Nat.le_of_ble_eq_true h
  omega
theorem ok62_of {i : Int} (h : i.natAbs ≤ 4611686018427387903) : ok62 i = true := Nat.ble_eq_true_of_le h
def dRng : List D → Option (List D)
  | [.int j] => if ok62 j = true then some (rgC 0 1 j.toNat) else none
  | [.int i, .int j] => if (ok62 i && ok62 j) = true then some (rgC i 1 (j - i).toNat) else none
  | [.int i, .int j, .int c] => if (c != 0 && decide (c.natAbs < 1073741824) && Builtin.Range.small i j c) = true then some (rgC i c (Builtin.Range.rangeSize i j c).toNat) else none
  | _ => none
theorem rgC_get {lo c : Int} {n i : Nat} {d : D} (h : (rgC lo c n)[i]? = some d) : i < n ∧ d = .int (lo + (i : Nat) * c) := by
  unfold rgC at h
  rw [List.getElem?_map] at h
  obtain ⟨k, h1, h2⟩ := Option.map_eq_some_iff.mp h
  obtain ⟨h3, h4⟩ := List.getElem?_eq_some_iff.mp h1
  rw [List.length_range] at h3
  rw [List.getElem_range] at h4
  subst h4
  exact ⟨h3, h2.symm⟩
theorem rgC_len {lo c : Int} {n : Nat} : (rgC lo c n).length = n := by simp [rgC]
theorem itr_of {G : Hp} {lo : Int} {n : Nat} {σ : St} : ItR K σ G (rgC lo 1 n) (Itr lo n) [] := by
  refine ⟨rfl, fun i H G' O g s => ⟨fun d e => ?_, fun hl => ?_⟩⟩
  · obtain ⟨hi, e1⟩ := rgC_get e
    subst e1
    refine ⟨hi, fun x H' ⟨e1, e2⟩ => ?_⟩
    subst e1; subst e2
    exact ⟨G', GLe.refl G', s, by rw [Int.mul_one]; rfl⟩
  · rw [rgC_len] at hl; exact hl
theorem itc_of {G : Hp} {lo c : Int} {n : Nat} {σ : St} : ItR K σ G (rgC lo c n) (Itc lo c n) [] := by
  refine ⟨rfl, fun i H G' O g s => ⟨fun d e => ?_, fun hl => ?_⟩⟩
  · obtain ⟨hi, e1⟩ := rgC_get e
    subst e1
    refine ⟨hi, fun x H' ⟨e1, e2⟩ => ?_⟩
    subst e1; subst e2
    exact ⟨G', GLe.refl G', s, rfl⟩
  · rw [rgC_len] at hl; exact hl
variable {ks : List AK} {es : List PySem.Expr} {tr : TA} {fr : Mr (List D)} {a b c' : PySem.Expr}
def mRng (fr : Mr (List D)) : Mr (List D) := bnd fr fun ds => lft (dRng ds)
theorem shl1 {G : Hp} {i : Int} {vs : List V} (h : ShL K G [.int i] vs) : vs = [.int i] := by
  obtain ⟨v, r, e, q, t⟩ := h
  rw [e, show r = [] from t, show v = _ from q]
theorem shl2 {G : Hp} {i j : Int} {vs : List V} (h : ShL K G [.int i, .int j] vs) : vs = [.int i, .int j] := by
  obtain ⟨v, r, e, q, t⟩ := h
  rw [e, shl1 t, show v = _ from q]
theorem shl3 {G : Hp} {i j k : Int} {vs : List V} (h : ShL K G [.int i, .int j, .int k] vs) : vs = [.int i, .int j, .int k] := by
  obtain ⟨v, r, e, q, t⟩ := h
  rw [e, shl2 t, show v = _ from q]
theorem di_range1 (hm : X.mg "range" = none) (h : DA X K Γ Ek [.v .sh] [a] tr fr) (hg : Gl X "range" := by rfl) (hs : starEach [a] X.env = [(false, eval a X.env)] := by rfl) : DI X K Γ Ek tg (.Call (.Name "range" p) [a] [] pos) (iRng1 tr) (mRng fr) := ⟨pi_range1 hg hm h.pa hs, by
  refine SndG.bind (t2 := fun vs _ H1 R => ∃ j : Int, vs = [.int j] ∧ -(2 ^ 62) ≤ j ∧ j < 2 ^ 62 ∧ R (Itr 0 j.toNat) H1) h.sn fun ds vs σ H G C o ρ Q r rel good hf hq => ?_
  obtain ⟨z, q⟩ := (RL.sh_iff _).mp (RA.all (m := .sh) (by simp [isV]) rel)
  subst z
  have q0 := id q
  obtain ⟨v, vr, ev, q1, q2⟩ : ∃ v vr, vs = v :: vr ∧ True ∧ True := by
    obtain ⟨d, dr, v, vr, o1, o2, e1, e2, e3, r1, r2⟩ := rel
    exact ⟨v, vr, e2, trivial, trivial⟩
  cases e : dRng ds with
  | none => rw [e] at hf; cases hf
  | some L =>
    rw [e] at hf
    cases hf
    obtain ⟨d, dr, v', vr', o1, o2, e1, e2, e3, r1, r2, r3, r4⟩ := rel
    subst r2; subst e1
    cases d <;> first | (cases e; done) | skip
    rename_i j
    dsimp only [dRng] at e
    split at e
    · rename_i hj
      cases e
      obtain ⟨h1, h2⟩ := ok62_mp hj
      exact ⟨j, shl1 q, h1, h2, hq _ H G [] (GLe.refl G) itr_of good⟩
    · cases e⟩
theorem ra_sh {ks : List AK} {σ : St} {G : Hp} {ds : List D} {vs : List V} {o : Fg} (h : RA K Γ ks σ G ds vs o) (hk : ∀ k ∈ ks, isV .sh k) : o = [] ∧ ShL K G ds vs := (RL.sh_iff _).mp (RA.all hk h)
theorem di_range2 (hm : X.mg "range" = none) (h : DA X K Γ Ek [.v .sh, .v .sh] [a, b] tr fr) (hg : Gl X "range" := by rfl) (hs : starEach [a, b] X.env = [(false, eval a X.env), (false, eval b X.env)] := by rfl) (hs2 : starEach [b] X.env = [(false, eval b X.env)] := by rfl) :
    DI X K Γ Ek tg (.Call (.Name "range" p) [a, b] [] pos) (iRng2 tr) (mRng fr) := ⟨pi_range2 hg hm h.pa hs hs2, by
  refine SndG.bind (t2 := fun vs _ H1 R => ∃ i j : Int, vs = [.int i, .int j] ∧ (-(2 ^ 62) ≤ i ∧ i < 2 ^ 62 ∧ -(2 ^ 62) ≤ j ∧ j < 2 ^ 62) ∧ R (Itr i (j - i).toNat) H1) h.sn fun ds vs σ H G C o ρ Q r rel good hf hq => ?_
  obtain ⟨z, q⟩ := ra_sh rel (by simp [isV])
  subst z
  obtain ⟨d, dr, v', vr', o1, o2, e1, e2, e3, r1, d2, dr2, v2, vr2, o3, o4, e4, e5, e6, r2, r3, r4, r5⟩ := rel
  subst r3; subst e4; subst e1
  cases d <;> first | (cases hf; done) | skip
  cases d2 <;> first | (cases hf; done) | skip
  rename_i i j
  dsimp only [dRng] at hf
  split at hf
  · rename_i hj
    cases hf
    rw [Bool.and_eq_true] at hj
    obtain ⟨h1, h2⟩ := ok62_mp hj.1
    obtain ⟨h3, h4⟩ := ok62_mp hj.2
    exact ⟨i, j, shl2 q, ⟨h1, h2, h3, h4⟩, hq _ H G [] (GLe.refl G) itr_of good⟩
  · cases hf⟩
theorem rgSize_nonneg (i j k : Int) : 0 ≤ Builtin.Range.rangeSize i j k := by
  unfold Builtin.Range.rangeSize
  split
  · split
    · have := Int.ediv_nonneg (show 0 ≤ j - i - 1 by omega) (show 0 ≤ k by omega)
      omega
    · omega
  · split
    · have := Int.ediv_nonneg (show 0 ≤ i - j - 1 by omega) (show 0 ≤ -k by omega)
      omega
    · omega
theorem di_range3 (hm : X.mg "range" = none) (h : DA X K Γ Ek [.v .sh, .v .sh, .v .sh] [a, b, c'] tr fr) (hg : Gl X "range" := by rfl) (hs : starEach [a, b, c'] X.env = (false, eval a X.env) :: starEach [b, c'] X.env := by rfl) (hpl : (backTo pos (starEach [b, c'] X.env)).any (·.1) = false := by rfl) :
    DI X K Γ Ek tg (.Call (.Name "range" p) [a, b, c'] [] pos) (iRng3 tr) (mRng fr) := ⟨pi_range3 hg hm h.pa hs hpl, by
  refine SndG.bind (t2 := fun vs _ H1 R => ∃ (i j c : Int) (n : Nat), vs = [.int i, .int j, .int c] ∧ RgC i j c n ∧ R (Itc i c n) H1) h.sn fun ds vs σ H G C o ρ Q r rel good hf hq => ?_
  obtain ⟨z, q⟩ := ra_sh rel (by simp [isV])
  subst z
  obtain ⟨d, dr, v', vr', o1, o2, e1, e2, e3, r1, d2, dr2, v2, vr2, o3, o4, e4, e5, e6, r2, d3, dr3, v3, vr3, o5, o6, e7, e8, e9, r3, r4, r5, r6⟩ := rel
  subst r4; subst e7; subst e4; subst e1
  cases d <;> first | (cases hf; done) | skip
  cases d2 <;> first | (cases hf; done) | skip
  cases d3 <;> first | (cases hf; done) | skip
  rename_i i j k
  dsimp only [dRng] at hf
  split at hf
  · rename_i hj
    cases hf
    rw [Bool.and_eq_true, Bool.and_eq_true, decide_eq_true_eq] at hj
    refine ⟨i, j, k, _, shl3 q, ⟨by simpa using hj.1.1, hj.1.2, hj.2, ?_⟩, hq _ H G [] (GLe.refl G) itc_of good⟩
    exact (Int.toNat_of_nonneg (rgSize_nonneg i j k)).symm
  · cases hf⟩

/-! ### zip, enumerate -/
def zipD : List D → List D → List D
  | a :: as, b :: bs => .tup [a, b] :: zipD as bs
  | _, _ => []
theorem zipD_get : ∀ {xs ys : List D} {i : Nat} {d : D}, (zipD xs ys)[i]? = some d → ∃ a b, xs[i]? = some a ∧ ys[i]? = some b ∧ d = .tup [a, b]
  | [], _, _, _, h => by simp [zipD] at h
  | _ :: _, [], _, _, h => by simp [zipD] at h
  | a :: as, b :: bs, 0, d, h => by
    simp [zipD] at h
    exact ⟨a, b, rfl, rfl, h.symm⟩
  | a :: as, b :: bs, i + 1, d, h => by
    have h' : (zipD as bs)[i]? = some d := by simpa [zipD] using h
    obtain ⟨x, y, h1, h2, h3⟩ := zipD_get h'
    exact ⟨x, y, by simpa using h1, by simpa using h2, h3⟩
theorem zipD_len : ∀ xs ys : List D, (zipD xs ys).length = min xs.length ys.length
  | [], ys => by simp [zipD]
  | _ :: _, [] => by simp [zipD]
  | a :: as, b :: bs => by simp only [zipD, List.length_cons, zipD_len as bs]; omega
def dSeqL : D → Option (List D)
  | .lst xs => some xs
  | .frl xs => some xs
  | _ => none
theorem dSeqL_of {G H : Hp} {d : D} {v : V} {xs : List D} (h : dSeqL d = some xs) (r : Sh K G d v) : ∃ a vs, v = .ref a ∧ SqL K G a vs ∧ ShL K G xs vs := by
  cases d <;> first | (cases h; done) | skip
  · cases h; obtain ⟨a, vs, e1, e2, r⟩ := r; exact ⟨a, vs, e1, .inl (.inl e2), r⟩
  · cases h; obtain ⟨a, vs, e1, e2, r⟩ := r; exact ⟨a, vs, e1, e2, r⟩
def dZip : List D → Option (List D)
  | [a, b] => (dSeqL a).bind fun xs => (dSeqL b).map fun ys => zipD xs ys
  | _ => none
theorem itz_of {G : Hp} {a b : Addr} {vs us : List V} {xs ys : List D} {σ : St} (h1 : SqL K G a vs) (h2 : SqL K G b us) (r1 : ShL K G xs vs) (r2 : ShL K G ys us) : ItR K σ G (zipD xs ys) (Itz K a b) [] := by
  refine ⟨rfl, fun i H G' O g s => ⟨fun d e => ?_, fun hl => ?_⟩⟩
  · obtain ⟨x, y, e1, e2, e3⟩ := zipD_get e
    obtain ⟨v, ev, rv⟩ := r1.get e1
    obtain ⟨u, eu, ru⟩ := r2.get e2
    have hs : SqL K H a vs := s.le.sqL (g.sqL h1)
    have hs2 : SqL K H b us := s.le.sqL (g.sqL h2)
    refine ⟨⟨vs, us, v, u, hs, hs2, ev, eu⟩, fun w H' ⟨T, v', u', ew, hT, eH, y1, y2⟩ => ?_⟩
    have z1 := y1 vs hs
    have z2 := y2 us hs2
    rw [ev] at z1; rw [eu] at z2
    cases z1; cases z2
    subst eH; subst ew; subst e3
    obtain ⟨s', g'⟩ := s.newG (u := .tup [v, u]) hT
    exact ⟨_, g', s', T, [v, u], rfl, upd_same, v, [u], rfl, Sh.mono (g.trans g') _ rv, u, [], rfl, Sh.mono (g.trans g') _ ru, rfl⟩
  · rw [zipD_len] at hl
    refine ⟨vs, us, s.le.sqL (g.sqL h1), s.le.sqL (g.sqL h2), ?_⟩
    rw [r1.len, r2.len]
    omega
theorem di_zip {elts : List PySem.Expr} {kk : Nat} {tpos : Pos} (hm : X.mg "zip" = none) (h : DA X K Γ Ek [.v .sh, .v .sh] [a, b] tr fr) (hg : Gl X "zip" := by rfl) (hs : starEach [a, b] X.env = (false, eval a X.env) :: starEach [b] X.env := by rfl) (hpl : (backTo pos (starEach [b] X.env)).any (·.1) = false := by rfl) (hK : X.K = K := by rfl) :
    DI X K Γ Ek (.Tuple elts kk tpos) (.Call (.Name "zip" p) [a, b] [] pos) (iZip K tr) (bnd fr fun ds => lft (dZip ds)) := by subst hK; exact ⟨pi_zip hg hm h.pa hs hpl, by
  refine SndG.bind (t2 := fun vs _ H1 R => ∃ a b xs ys, vs = [.ref a, .ref b] ∧ SqL X.K H1 a xs ∧ SqL X.K H1 b ys ∧ R (Itz X.K a b) H1) h.sn fun ds vs σ H G C o ρ Q r rel good hf hq => ?_
  obtain ⟨z, q⟩ := ra_sh rel (by simp [isV])
  subst z
  obtain ⟨d, dr, v', vr', o1, o2, e1, e2, e3, r1, d2, dr2, v2, vr2, o3, o4, e4, e5, e6, r2, r3, r4, r5⟩ := rel
  subst r3; subst e4; subst e1
  cases e7 : dSeqL d with
  | none => dsimp only [dZip] at hf; rw [e7] at hf; cases hf
  | some xs =>
    cases e8 : dSeqL d2 with
    | none => dsimp only [dZip] at hf; rw [e7, e8] at hf; cases hf
    | some ys =>
      dsimp only [dZip] at hf; rw [e7, e8] at hf; cases hf
      obtain ⟨v, w, ev, q1, w2, w3, ew, q2, q3⟩ := q
      obtain ⟨a, us, ea, sa, ra⟩ := dSeqL_of (H := H) e7 q1
      obtain ⟨b, ws, eb, sb, rb⟩ := dSeqL_of (H := H) e8 q2
      subst ea; subst eb
      rw [show w3 = [] from q3] at ew
      subst ew
      have le := good.sat.le
      exact ⟨a, b, us, ws, ev, le.sqL sa, le.sqL sb, hq _ H G [] (GLe.refl G) (itz_of sa sb ra rb) good⟩⟩

/-! ### for -/
def forM (gt : D → De → Option De) (body : Mr Fl) : List D → De → Option (Rs Fl)
  | [], ρ => some (.ok .nx ρ)
  | d :: ds, ρ => match gt d ρ with
    | none => none
    | some ρ1 => match body ρ1 with
      | some (.ok .nx ρ2) => forM gt body ds ρ2
      | some (.ok .ct ρ2) => forM gt body ds ρ2
      | some (.ok .bk ρ2) => some (.ok .nx ρ2)
      | r => r
def mFor (fi : Mr (List D)) (gt : D → De → Option De) (body : Mr Fl) : Mr Fl := bnd fi fun ds ρ => forM gt body ds ρ
variable {f : Mr Fl} {t : TS} {body : List Stmt}
theorem snd_for {wi : TI} {g : TG} {fi : Mr (List D)} {gt : D → De → Option De} (hi : SndG K Γ Ek (ItR K) wi fi) (hg' : SndT K Γ io .sh g gt) (hb : SndS K Γ Ek rm io t f) : SndS K Γ Ek rm io (tFor wi g t) (mFor fi gt f) := by
  intro σ H G C ρ E r hg hf hq
  rcases bnd_inv hf with ⟨ds, ρ1, e1, e2⟩ | ⟨x, ρ1, e1, e2⟩
  · refine hi σ H G C ρ _ _ hg e1 fun J H1 G1 o g1 rel good => ?_
    obtain ⟨rfl, walk⟩ := rel
    refine ⟨fun i m σ' H' => m = ds.length - i ∧ i ≤ ds.length ∧ ∃ G' ρ', GLe G1 G' ∧ Fix io σ σ' ∧ Good K Γ G' H' C σ' ρ' ∧ forM gt f (ds.drop i) ρ' = some r, ⟨ds.length, by simp, Nat.zero_le _, G1, ρ1, GLe.refl G1, Fix.refl σ, good, e2⟩, ?_⟩
    rintro i m σ' H' ⟨rfl, hil, G', ρ', g', fx, good', ef⟩
    obtain ⟨os, sl, s⟩ := good'.ex
    obtain ⟨w1, w2⟩ := walk i H' G' _ g' s
    by_cases hlt : i < ds.length
    · have ei : ds[i]? = some ds[i] := by simp [hlt]
      have ed : ds.drop i = ds[i] :: ds.drop (i + 1) := List.drop_eq_getElem_cons hlt
      rw [ed] at ef
      obtain ⟨hgo, hy⟩ := w1 _ ei
      refine .inr ⟨hgo, fun σ2 H2 => ∃ G2 ρ2, GLe G1 G2 ∧ Fix io σ σ2 ∧ Good K Γ G2 H2 C σ2 ρ2 ∧ forM gt f (ds.drop (i + 1)) ρ2 = some r, fun σ2 H2 ⟨G2, ρ2, h1, h2, h3, h4⟩ => ⟨ds.length - (i + 1), by omega, rfl, hlt, G2, ρ2, h1, h2, h3, h4⟩, fun x H2 y => ?_⟩
      obtain ⟨G2, g2, s2, rx⟩ := hy x H2 y
      unfold forM at ef
      cases e3 : gt ds[i] ρ' with
      | none => rw [e3] at ef; cases ef
      | some ρ2 =>
        rw [e3] at ef
        dsimp only at ef
        refine hg' G2 H2 C [] σ' ρ' ρ2 ds[i] x _ (R.of_sh rx) ⟨os, sl.mono g2, s2⟩ e3 fun σ3 H3 G3 g3 fx3 good3 => ?_
        cases e4 : f ρ2 with
        | none => rw [e4] at ef; cases ef
        | some r4 =>
          rw [e4] at ef
          refine hb σ3 H3 G3 C ρ2 _ r4 good3 e4 ?_
          have g13 : GLe G1 G3 := g'.trans (g2.trans g3)
          have fx13 : Fix io σ σ3 := fx.trans fx3
          cases r4 with
          | ok fl ρ4 =>
            cases fl with
            | nx => exact fun σ5 H5 G5 g5 fx5 good5 => ⟨G5, ρ4, g13.trans g5, fx13.trans fx5, good5, ef⟩
            | ct => exact fun σ5 H5 G5 g5 fx5 good5 => ⟨G5, ρ4, g13.trans g5, fx13.trans fx5, good5, ef⟩
            | bk =>
              cases ef
              exact fun σ5 H5 G5 g5 fx5 good5 => hq σ5 H5 G5 (g1.trans (g13.trans g5)) (fx13.trans fx5) good5
            | rt d =>
              cases ef
              exact fun v σ5 H5 G5 o5 g5 fx5 r5 good5 => hq v σ5 H5 G5 o5 (g1.trans (g13.trans g5)) (fx13.trans fx5) r5 good5
          | ex x4 ρ4 =>
            cases ef
            exact fun c dx σ5 H5 G5 g5 fx5 xr good5 => hq c dx σ5 H5 G5 (g1.trans (g13.trans g5)) (fx13.trans fx5) xr good5
    · have e : i = ds.length := by omega
      subst e
      rw [List.drop_length] at ef
      cases ef
      exact .inl ⟨w2 (Nat.le_refl _), hq σ' H' G' (g1.trans g') fx good'⟩
  · subst e2
    exact hi σ H G C ρ _ _ hg e1 fun c dx H' G' g' xr good => hq c dx σ H' G' g' (Fix.refl σ) xr good
theorem ds_for {wi : TI} {g : TG} {fi : Mr (List D)} {gt : D → De → Option De} {iter : PySem.Expr} (hp : PassesOwn (model X.prog X.w) X.A X.env X.xe) (hc : X.calm = true) (hi : DI X K Γ Ek tg iter wi fi) (hg : DG X K Γ io .sh tg g gt) (hb : DSs X K Γ Ek rm io body t f)
    (hs : ∀ x, foldedSetIterable iter X.env x = pure x := by intro _; rfl) : DS X K Γ Ek rm io (.For tg iter body [] pos) (tFor wi g t) (mFor fi gt f) := ⟨ps_for hp hc hi.pi hg.pg hb.ps hs, snd_for hi.sn hg.sn hb.sn⟩

/-! ### while -/
def whileM (g : Mr Bool) (f : Mr Fl) : Nat → De → Option (Rs Fl)
  | 0, _ => none
  | n + 1, ρ => match g ρ with
    | some (.ok true ρ1) => (match f ρ1 with
      | some (.ok .nx ρ2) => whileM g f n ρ2
      | some (.ok .ct ρ2) => whileM g f n ρ2
      | some (.ok .bk ρ2) => some (.ok .nx ρ2)
      | r => r)
    | some (.ok false ρ1) => some (.ok .nx ρ1)
    | some (.ex x ρ1) => some (.ex x ρ1)
    | none => none
theorem snd_while {tA : TT} {gA : Mr Bool} (n : Nat) (h : SndG K Γ Ek RB tA gA) (hb : SndS K Γ Ek rm io t f) : SndS K Γ Ek rm io (tWhile tA t) (whileM gA f n) := by
  intro σ H G C ρ E r hg hf hq
  refine ⟨fun m σ' H' => ∃ G' ρ', GLe G G' ∧ Fix io σ σ' ∧ Good K Γ G' H' C σ' ρ' ∧ whileM gA f m ρ' = some r, ⟨n, G, ρ, GLe.refl G, Fix.refl σ, hg, hf⟩, ?_⟩
  rintro m σ' H' ⟨G', ρ', g', fx, good', ef⟩
  cases m with
  | zero => cases ef
  | succ m =>
    unfold whileM at ef
    cases e1 : gA ρ' with
    | none => rw [e1] at ef; cases ef
    | some r1 =>
      rw [e1] at ef
      refine h σ' H' G' C ρ' _ r1 good' e1 ?_
      cases r1 with
      | ex x ρ1 =>
        cases ef
        exact fun c dx H2 G2 g2 xr good2 => hq c dx σ' H2 G2 (g'.trans g2) fx xr good2
      | ok k ρ1 =>
        intro b H2 G2 o g2 rel good2
        obtain ⟨rfl, rfl⟩ := rel
        cases k with
        | false =>
          cases ef
          rw [if_neg Bool.false_ne_true]
          exact hq σ' H2 G2 (g'.trans g2) fx good2
        | true =>
          rw [if_pos rfl]
          refine ⟨fun σ3 H3 => ∃ G3 ρ3, GLe G G3 ∧ Fix io σ σ3 ∧ Good K Γ G3 H3 C σ3 ρ3 ∧ whileM gA f m ρ3 = some r, fun σ3 H3 ⟨G3, ρ3, h1, h2, h3, h4⟩ => ⟨m, Nat.lt_succ_self m, G3, ρ3, h1, h2, h3, h4⟩, ?_⟩
          have ef : (match f ρ1 with
            | some (.ok .nx ρ2) => whileM gA f m ρ2
            | some (.ok .ct ρ2) => whileM gA f m ρ2
            | some (.ok .bk ρ2) => some (.ok .nx ρ2)
            | r => r) = some r := ef
          cases e4 : f ρ1 with
          | none => rw [e4] at ef; cases ef
          | some r4 =>
            rw [e4] at ef
            refine hb σ' H2 G2 C ρ1 _ r4 good2 e4 ?_
            have g12 : GLe G G2 := g'.trans g2
            cases r4 with
            | ok fl ρ4 =>
              cases fl with
              | nx => exact fun σ5 H5 G5 g5 fx5 good5 => ⟨G5, ρ4, g12.trans g5, fx.trans fx5, good5, ef⟩
              | ct => exact fun σ5 H5 G5 g5 fx5 good5 => ⟨G5, ρ4, g12.trans g5, fx.trans fx5, good5, ef⟩
              | bk =>
                cases ef
                exact fun σ5 H5 G5 g5 fx5 good5 => hq σ5 H5 G5 (g12.trans g5) (fx.trans fx5) good5
              | rt d =>
                cases ef
                exact fun v σ5 H5 G5 o5 g5 fx5 r5 good5 => hq v σ5 H5 G5 o5 (g12.trans g5) (fx.trans fx5) r5 good5
            | ex x4 ρ4 =>
              cases ef
              exact fun c dx σ5 H5 G5 g5 fx5 xr good5 => hq c dx σ5 H5 G5 (g12.trans g5) (fx.trans fx5) xr good5
theorem ds_while {tA : TT} {gA : Mr Bool} {cnd : PySem.Expr} (n : Nat) (hp : PassesOwn (model X.prog X.w) X.A X.env X.xe) (h : DT X K Γ Ek cnd tA gA) (hb : DSs X K Γ Ek rm io body t f) : DS X K Γ Ek rm io (.While cnd body [] pos) (tWhile tA t) (whileM gA f n) := ⟨ps_while hp h.pt hb.ps, snd_while n h.sn hb.sn⟩
end
end Dl
/-! Dl, eighth part: comprehensions. -/
namespace Dl
open PySem L2
local macro_rules | `(tactic| walk_at "fle") => `(tactic| (intro P; simp only [List.countP_append, List.countP_cons, List.countP_nil, List.append_nil, List.nil_append]; first | omega | (split <;> omega)))

def wipeD (ρ : De) : List Nat → De
  | [] => ρ
  | v :: vs => (wipeD ρ vs).set v none
theorem wipe_get {σ : St} {i : Nat} : ∀ {vs : List Nat}, i ∉ vs → (wipe σ vs)[i]? = σ[i]?
  | [], _ => rfl
  | v :: vs, h => by
    have h1 : v ≠ i := fun e => h (e ▸ List.mem_cons_self)
    have h2 : i ∉ vs := fun e => h (List.mem_cons_of_mem _ e)
    unfold wipe
    rw [List.getElem?_set_ne h1, wipe_get h2]
theorem wipeD_some {ρ : De} {i : Nat} {d : D} : ∀ {vs : List Nat}, (wipeD ρ vs)[i]? = some (some d) → ρ[i]? = some (some d) ∧ i ∉ vs
  | [], h => ⟨h, by simp⟩
  | v :: vs, h => by
    unfold wipeD at h
    by_cases hi : v = i
    · subst hi
      by_cases hv : v < (wipeD ρ vs).length
      · rw [List.getElem?_set_self hv] at h; cases h
      · rw [List.getElem?_eq_none (by simpa using hv)] at h; cases h
    · rw [List.getElem?_set_ne hi] at h
      obtain ⟨h1, h2⟩ := wipeD_some h
      exact ⟨h1, by simp only [List.mem_cons, not_or]; exact ⟨fun e => hi e.symm, h2⟩⟩
theorem wipeD_length (ρ : De) : ∀ vs : List Nat, (wipeD ρ vs).length = ρ.length
  | [] => rfl
  | v :: vs => by unfold wipeD; rw [List.length_set, wipeD_length ρ vs]
section
variable {K : PySem.W.Frag} {X : Cx} {Γ : List Md} {Ek : WX} {G G' H H' : Hp} {C : Fg} {σ σ2 : St} {ρ : De} {vs : List Nat}
/-- the slots vs forgotten, whatever they hold -/
theorem Good.wipes (h : Good K Γ G H C σ2 ρ) (hl : σ.length = σ2.length) (e : ∀ i, i ∉ vs → σ2[i]? = σ[i]?) : Good K Γ G H C σ (wipeD ρ vs) := by
  obtain ⟨os, a, b⟩ := h.ex
  refine ⟨os, ⟨by rw [wipeD_length, hl]; exact a.ls, by rw [hl]; exact a.lo, by rw [hl]; exact a.lg, fun i d ei => ?_⟩, b⟩
  obtain ⟨h1, h2⟩ := wipeD_some ei
  obtain ⟨v, m, o, e1, e2, e3, r⟩ := a.at_ i d h1
  exact ⟨v, m, o, by rw [← e i h2]; exact e1, e2, e3, r⟩
theorem wipe_eq {io' : List Nat} (hl : σ2.length = σ.length) (hio : ∀ i, i < σ.length → i ∉ vs → i ∈ io') (fx : Fix io' (wipe σ vs) σ2) : wipe σ2 vs = wipe σ vs := by
  apply List.ext_getElem?
  intro i
  by_cases hv : i ∈ vs
  · by_cases hi : i < σ.length
    · have z : ∀ (τ : St) (ws : List Nat), i ∈ ws → i < τ.length → (wipe τ ws)[i]? = some none := by
        intro τ ws
        induction ws with
        | nil => intro h; cases h
        | cons w ws ih =>
          intro h hi
          unfold wipe
          by_cases hw : w = i
          · subst hw
            rw [List.getElem?_set_self (by rw [wipe_length]; exact hi)]
          · rw [List.getElem?_set_ne hw]
            exact ih ((List.mem_cons.mp h).elim (fun e => absurd e.symm hw) id) hi
      rw [z σ2 vs hv (by rw [hl]; exact hi), z σ vs hv hi]
    · rw [List.getElem?_eq_none (by rw [wipe_length]; omega), List.getElem?_eq_none (by rw [wipe_length]; omega)]
  · rw [wipe_get hv]
    by_cases hi : i < σ.length
    · exact fx i (hio i hi hv)
    · rw [List.getElem?_eq_none (by omega), List.getElem?_eq_none (by rw [wipe_length]; omega)]
theorem get_of_wipe_eq {i : Nat} (e : wipe σ2 vs = wipe σ vs) (h : i ∉ vs) : σ2[i]? = σ[i]? := by
  rw [← wipe_get (σ := σ2) h, e, wipe_get h]
theorem len_of_wipe_eq (e : wipe σ2 vs = wipe σ vs) : σ2.length = σ.length := by
  rw [← wipe_length σ2 vs, e, wipe_length]

/-- the loop of a comprehension -/
def lcM (vs : List Nat) (gt : D → De → Option De) (ft : Mr Bool) (fe : Mr D) : List D → List D → De → Option (List D × De)
  | [], acc, ρ => some (acc, ρ)
  | d :: ds, acc, ρ => match gt d ρ with
    | none => none
    | some ρ1 => match ft ρ1 with
      | some (.ok true ρ2) => (match fe ρ2 with
        | some (.ok y ρ3) => if acc.length < lim then lcM vs gt ft fe ds (acc ++ [y]) (wipeD ρ3 vs) else none
        | _ => none)
      | some (.ok false ρ2) => lcM vs gt ft fe ds acc (wipeD ρ2 vs)
      | _ => none
def mLc (fi : Mr (List D)) (vs : List Nat) (gt : D → De → Option De) (ft : Mr Bool) (fe : Mr D) : Mr D := bnd fi fun ds ρ => match lcM vs gt ft fe ds [] (wipeD ρ vs) with
  | none => none
  | some (ys, ρ') => some (.ok (.lst ys) (wipeD ρ' vs))
abbrev Ek0 : WX := fun _ _ _ _ => False
theorem snd_lc {c : Md} {wi : TI} {fi : Mr (List D)} {g : TG} {gt : D → De → Option De} {tt : TT} {ft : Mr Bool} {te : TE} {fe : Mr D} {io' : List Nat} (hi : SndG K Γ Ek (ItR K) wi fi) (hg' : SndT K Γ io' .sh g gt) (ht : SndG K Γ Ek0 RB tt ft) (he : Snd K Γ Ek0 c te fe)
    (hio : ∀ i, i < Γ.length → i ∉ vs → i ∈ io') : Snd K Γ Ek (.own c) (tLc wi g tt te vs) (mLc fi vs gt ft fe) := by
  intro σ H G C ρ Q r hg hf hq
  rcases bnd_inv hf with ⟨ds, ρ1, e1, e2⟩ | ⟨x, ρ1, e1, e2⟩
  · refine hi σ H G C ρ _ _ hg e1 fun J H1 G1 o g1 rel good => ?_
    obtain ⟨rfl, walk⟩ := rel
    intro Dn hD
    cases e3 : lcM vs gt ft fe ds [] (wipeD ρ1 vs) with
    | none => rw [e3] at e2; cases e2
    | some yr =>
      obtain ⟨ys, ρ2⟩ := yr
      rw [e3] at e2
      cases e2
      have lσ : Γ.length = σ.length := hg.lenΓ
      refine ⟨fun i m H' => m = ds.length - i ∧ i ≤ ds.length ∧ ∃ G' ρ' acc accv oa, GLe G1 G' ∧ RL K G' acc c accv oa ∧ Good K Γ G' H' ((Dn, .lst accv) :: (oa ++ C)) (wipe σ vs) ρ' ∧ lcM vs gt ft fe (ds.drop i) acc ρ' = some (ys, ρ2),
        ⟨ds.length, by simp, Nat.zero_le _, G1, wipeD ρ1 vs, [], [], [], GLe.refl G1, ⟨rfl, rfl⟩, ?_, e3⟩, ?_⟩
      · have good1 : Good K Γ G1 H1 C (wipe σ vs) (wipeD ρ1 vs) := good.wipes (by rw [wipe_length]) fun i hi => (wipe_get hi).symm
        exact good1.step (GLe.refl G1) fun O s => (s.newO (u := .lst []) hD).re (by walk_at "fle")
      rintro i m H' ⟨rfl, hil, G', ρ', acc, accv, oa, g', racc, good', ef⟩
      obtain ⟨os, sl, s⟩ := good'.ex
      obtain ⟨w1, w2⟩ := walk i H' G' _ g' s
      by_cases hlt : i < ds.length
      · have ei : ds[i]? = some ds[i] := by simp [hlt]
        have ed : ds.drop i = ds[i] :: ds.drop (i + 1) := List.drop_eq_getElem_cons hlt
        rw [ed] at ef
        obtain ⟨hgo, hy⟩ := w1 _ ei
        refine .inr ⟨hgo, fun H2 => ∃ G2 ρ2' acc2 accv2 oa2, GLe G1 G2 ∧ RL K G2 acc2 c accv2 oa2 ∧ Good K Γ G2 H2 ((Dn, .lst accv2) :: (oa2 ++ C)) (wipe σ vs) ρ2' ∧ lcM vs gt ft fe (ds.drop (i + 1)) acc2 ρ2' = some (ys, ρ2),
          fun H2 z => ⟨ds.length - (i + 1), by omega, rfl, hlt, z⟩, fun x H2 y => ?_⟩
        obtain ⟨G2, g2, s2, rx⟩ := hy x H2 y
        unfold lcM at ef
        cases e4 : gt ds[i] ρ' with
        | none => rw [e4] at ef; cases ef
        | some ρ3 =>
          rw [e4] at ef
          dsimp only at ef
          refine hg' G2 H2 _ [] (wipe σ vs) ρ' ρ3 ds[i] x _ (R.of_sh rx) ⟨os, sl.mono g2, s2⟩ e4 fun σ3 H3 G3 g3 fx3 good3 => ?_
          have hl3 : σ3.length = σ.length := by rw [← good3.lenΓ, lσ]
          have ew : wipe σ3 vs = wipe σ vs := wipe_eq hl3 (fun i hi hv => hio i (by rw [lσ]; exact hi) hv) fx3
          refine ⟨ew, ?_⟩
          cases e5 : ft ρ3 with
          | none => rw [e5] at ef; cases ef
          | some r5 =>
            rw [e5] at ef
            refine ht σ3 H3 G3 _ ρ3 _ r5 good3 e5 ?_
            cases r5 with
            | ex x5 ρ5 => cases ef
            | ok k ρ5 =>
              intro b H5 G5 o5 g5 rel5 good5
              obtain ⟨rfl, rfl⟩ := rel5
              have g15 : GLe G' G5 := g2.trans (g3.trans g5)
              cases k with
              | false =>
                rw [if_neg Bool.false_ne_true]
                exact ⟨G5, wipeD ρ5 vs, acc, accv, oa, g'.trans g15, RL.mono g15 _ racc, good5.wipes (by rw [wipe_length, hl3]) fun j hj => by rw [wipe_get hj]; exact get_of_wipe_eq ew hj, ef⟩
              | true =>
                rw [if_pos rfl]
                have ef : (match fe ρ5 with
                  | some (.ok y ρ3) => if acc.length < lim then lcM vs gt ft fe (ds.drop (i + 1)) (acc ++ [y]) (wipeD ρ3 vs) else none
                  | _ => none) = some (ys, ρ2) := ef
                cases e6 : fe ρ5 with
                | none => rw [e6] at ef; cases ef
                | some r6 =>
                  rw [e6] at ef
                  refine he σ3 H5 G5 _ ρ5 _ r6 good5 e6 ?_
                  cases r6 with
                  | ex x6 ρ6 => cases ef
                  | ok yd ρ6 =>
                    intro yv H6 G6 oy g6 ry good6
                    dsimp only at ef
                    split at ef
                    · rename_i hlim
                      refine ⟨accv, ?_, by rw [(RL.len racc), ← lim_eq]; exact hlim, ?_⟩
                      · have s6 := good6.sat
                        exact (s6.re (O' := (Dn, .lst accv) :: (oy ++ (oa ++ C))) (by walk_at "fle")).own
                      · have g16 : GLe G' G6 := g15.trans g6
                        refine ⟨G6, wipeD ρ6 vs, acc ++ [yd], accv ++ [yv], oa ++ (oy ++ []), g'.trans g16, RL.append (RL.mono g16 _ racc) ⟨yv, [], oy, [], rfl, rfl, ry, rfl, rfl⟩, ?_, ef⟩
                        have good7 : Good K Γ G6 H6 (oy ++ (Dn, .lst accv) :: (oa ++ C)) (wipe σ vs) (wipeD ρ6 vs) := good6.wipes (by rw [wipe_length, hl3]) fun j hj => by rw [wipe_get hj]; exact get_of_wipe_eq ew hj
                        refine good7.step (GLe.refl G6) fun O s7 => ?_
                        have s8 : Sat H6 G6 ((Dn, .lst accv) :: (O ++ (oy ++ (oa ++ C)))) := s7.re (by walk_at "fle")
                        exact (s8.write (u' := .lst (accv ++ [yv]))).re (by walk_at "fle")
                    · cases ef
      · have e : i = ds.length := by omega
        subst e
        rw [List.drop_length] at ef
        cases ef
        refine .inl ⟨w2 (Nat.le_refl _), hq (.ref Dn) H' G' ((Dn, .lst accv) :: oa) (g1.trans g') ⟨Dn, accv, oa, rfl, rfl, racc⟩ ?_⟩
        exact good'.wipes (by rw [wipe_length]) fun j hj => wipe_get hj
  · subst e2
    exact hi σ H G C ρ _ _ hg e1 fun c dx H' G' g' xr good => hq c dx H' G' g' xr good
end
structure DTs (X : Cx) (K : PySem.W.Frag) (Γ : List Md) (Ek : WX) (es : List PySem.Expr) (t : TT) (f : Mr Bool) : Prop where
  pt : PTs X es t
  sn : SndG K Γ Ek RB t f
section
variable {X : Cx} {K : PySem.W.Frag} {Γ : List Md} {Ek : WX} {c rm : Md} {io : List Nat} {e tg elt iter : PySem.Expr} {te : TE} {fe : Mr D} {tt : TT} {ft : Mr Bool} {pos p : Pos} {ifs : List PySem.Expr} {scope : Scope} {own : List (Str × Nat)} {wi : TI} {fi : Mr (List D)} {g : TG} {gt : D → De → Option De} {io' : List Nat}
theorem dts_nil : DTs X K Γ Ek [] tYes (ret true) := ⟨pts_nil, fun σ H G C ρ Q r hg hf hq => by cases hf; exact hq true H G [] (GLe.refl G) ⟨rfl, rfl⟩ hg⟩
theorem dts_one (h : DT X K Γ Ek e tt ft) : DTs X K Γ Ek [e] tt ft := ⟨pts_one h.pt, h.sn⟩
theorem de_lc (own : List (Str × Nat)) (hc : X.calm = true) (hN : X.N.Nodup) (hi : DI X K Γ Ek tg iter wi fi) (ok : BlkOk X.N X.env.scope scope own)
    (hg : ∀ (s : Shared) (H : Hp) (C : Addr) (cl : List (Str × Addr)) (fp : List Addr), DG (X.blk s H scope (compEnvC scope cl C X.env) fp) K Γ io' .sh tg g gt)
    (ht : ∀ (s : Shared) (H : Hp) (C : Addr) (cl : List (Str × Addr)) (fp : List Addr), DTs (X.blk s H scope (compEnvC scope cl C X.env) fp) K Γ Ek0 ifs tt ft)
    (he : ∀ (s : Shared) (H : Hp) (C : Addr) (cl : List (Str × Addr)) (fp : List Addr), DE (X.blk s H scope (compEnvC scope cl C X.env) fp) K Γ Ek0 c elt te fe)
    (hio : ∀ i, i < Γ.length → i ∉ own.map (·.2) → i ∈ io' := by decide) (hs : ∀ x, foldedSetIterable iter X.env x = pure x := by intro _; rfl) :
    DE X K Γ Ek (.own c) (.ListComp elt [⟨tg, iter, ifs, 0⟩] scope pos) (tLc wi g tt te (own.map (·.2))) (mLc fi (own.map (·.2)) gt ft fe) :=
  ⟨pe_lc hc hN hi.pi ok (fun s H C cl fp => (hg s H C cl fp).pg) (fun s H C cl fp => (ht s H C cl fp).pt) (fun s H C cl fp => (he s H C cl fp).pe) hs,
    snd_lc hi.sn (hg X.s_0 (fun _ => none) 0 [] []).sn (ht X.s_0 (fun _ => none) 0 [] []).sn (he X.s_0 (fun _ => none) 0 [] []).sn hio⟩
theorem ds_setLc (i : Nat) {y : Str} {py spos : Pos} (own : List (Str × Nat)) (hc : X.calm = true) (hN : X.N.Nodup) (hi : DI X K Γ Ek tg iter wi fi) (ok : BlkOk X.N X.env.scope scope own)
    (hg : ∀ (s : Shared) (H : Hp) (C : Addr) (cl : List (Str × Addr)) (fp : List Addr), DG (X.blk s H scope (compEnvC scope cl C X.env) fp) K Γ io' .sh tg g gt)
    (ht : ∀ (s : Shared) (H : Hp) (C : Addr) (cl : List (Str × Addr)) (fp : List Addr), DTs (X.blk s H scope (compEnvC scope cl C X.env) fp) K Γ Ek0 ifs tt ft)
    (he : ∀ (s : Shared) (H : Hp) (C : Addr) (cl : List (Str × Addr)) (fp : List Addr), DE (X.blk s H scope (compEnvC scope cl C X.env) fp) K Γ Ek0 c elt te fe)
    (hsw : swapsWith (.ListComp elt [⟨tg, iter, ifs, 0⟩] scope pos) (some (.Name y py)) spos.line X.env = pure true) (hm : Γ[i]? = some (.own c) := by rfl) (hio0 : i ∉ io := by decide)
    (hy : X.N[i]? = some y := by rfl) (hyl : X.env.scope.names.lookup y = some .local := by rfl)
    (hio : ∀ i, i < Γ.length → i ∉ own.map (·.2) → i ∈ io' := by decide) (hs : ∀ x, foldedSetIterable iter X.env x = pure x := by intro _; rfl) :
    DS X K Γ Ek rm io (.Assign [.Name y py] (.ListComp elt [⟨tg, iter, ifs, 0⟩] scope pos) spos) (tAsg (tLc wi g tt te (own.map (·.2))) (gName i)) (mAsg (mLc fi (own.map (·.2)) gt ft fe) (gtName i)) :=
  ⟨ps_setLc hc hN hy hyl hsw hi.pi ok (fun s H C cl fp => (hg s H C cl fp).pg) (fun s H C cl fp => (ht s H C cl fp).pt) (fun s H C cl fp => (he s H C cl fp).pe) hs,
    snd_asg (snd_lc hi.sn (hg X.s_0 (fun _ => none) 0 [] []).sn (ht X.s_0 (fun _ => none) 0 [] []).sn (he X.s_0 (fun _ => none) 0 [] []).sn hio) (snt_name hm hio0)⟩
/-- .. into a slot that is shared -/
theorem ds_setLcS (i : Nat) {y : Str} {py spos : Pos} (own : List (Str × Nat)) (hc : X.calm = true) (hN : X.N.Nodup) (hi : DI X K Γ Ek tg iter wi fi) (ok : BlkOk X.N X.env.scope scope own)
    (hg : ∀ (s : Shared) (H : Hp) (C : Addr) (cl : List (Str × Addr)) (fp : List Addr), DG (X.blk s H scope (compEnvC scope cl C X.env) fp) K Γ io' .sh tg g gt)
    (ht : ∀ (s : Shared) (H : Hp) (C : Addr) (cl : List (Str × Addr)) (fp : List Addr), DTs (X.blk s H scope (compEnvC scope cl C X.env) fp) K Γ Ek0 ifs tt ft)
    (he : ∀ (s : Shared) (H : Hp) (C : Addr) (cl : List (Str × Addr)) (fp : List Addr), DE (X.blk s H scope (compEnvC scope cl C X.env) fp) K Γ Ek0 c elt te fe)
    (hsw : swapsWith (.ListComp elt [⟨tg, iter, ifs, 0⟩] scope pos) (some (.Name y py)) spos.line X.env = pure true) (hm : Γ[i]? = some .sh := by rfl) (hio0 : i ∉ io := by decide)
    (hy : X.N[i]? = some y := by rfl) (hyl : X.env.scope.names.lookup y = some .local := by rfl)
    (hio : ∀ i, i < Γ.length → i ∉ own.map (·.2) → i ∈ io' := by decide) (hs : ∀ x, foldedSetIterable iter X.env x = pure x := by intro _; rfl) :
    DS X K Γ Ek rm io (.Assign [.Name y py] (.ListComp elt [⟨tg, iter, ifs, 0⟩] scope pos) spos) (tAsg (tLc wi g tt te (own.map (·.2))) (gName i)) (mAsg (mLc fi (own.map (·.2)) gt ft fe) (gtName i)) :=
  ⟨ps_setLc hc hN hy hyl hsw hi.pi ok (fun s H C cl fp => (hg s H C cl fp).pg) (fun s H C cl fp => (ht s H C cl fp).pt) (fun s H C cl fp => (he s H C cl fp).pe) hs,
    snd_asg (snd_lc hi.sn (hg X.s_0 (fun _ => none) 0 [] []).sn (ht X.s_0 (fun _ => none) 0 [] []).sn (he X.s_0 (fun _ => none) 0 [] []).sn hio).froze (snt_name hm hio0)⟩
end
end Dl
/-! Dl, ninth part: defs and their calls. -/
namespace Dl
open PySem L2
local macro_rules | `(tactic| walk_at "fle") => `(tactic| (intro P; simp only [List.countP_append, List.countP_cons, List.countP_nil, List.append_nil, List.nil_append]; first | omega | (split <;> omega)))

/-- a def's promise: ms the modes of the parameters, rm of the answer; F: data to the answer and what the parameters hold then -/
def spD (K : PySem.W.Frag) (ms : List Md) (rm : Md) (F : List D → Option (Rs D)) : Sp := fun vs H Q E => ∃ (G : Hp) (C : Fg) (ds : List D) (r : Rs D), vs.length = ms.length ∧ Good K ms G H C (vs.map some) (ds.map some) ∧ F ds = some r ∧
  match r with
  | .ok d fs => ∀ v H' G' o, GLe G G' → R K G' d rm v o → Good K ms G' H' (o ++ C) (vs.map some) fs → Q v H'
  | .ex x fs => ∀ c dx H' G', GLe G G' → XR K G' x c dx → Good K ms G' H' C (vs.map some) fs → E c dx H'
def maskIo (io : List Nat) (n : Nat) (ρ : De) : De := (List.range n).map fun i => if i ∈ io then (ρ[i]?).join else none
def bodyF (n : Nat) (io : List Nat) (f : Mr Fl) (ds : List D) : Option (Rs D) := match f (ds.map some ++ List.replicate (n - ds.length) none) with
  | some (.ok (.rt d) ρ) => some (.ok d (maskIo io ds.length ρ))
  | some (.ok .nx ρ) => some (.ok .non (maskIo io ds.length ρ))
  | some (.ex x ρ) => some (.ex x (maskIo io ds.length ρ))
  | _ => none
/-- .. of a def that lets no exception out -/
def bodyF0 (n : Nat) (io : List Nat) (f : Mr Fl) (ds : List D) : Option (Rs D) := match f (ds.map some ++ List.replicate (n - ds.length) none) with
  | some (.ok (.rt d) ρ) => some (.ok d (maskIo io ds.length ρ))
  | some (.ok .nx ρ) => some (.ok .non (maskIo io ds.length ρ))
  | _ => none
section
variable {K : PySem.W.Frag} {Γ ms : List Md} {G H : Hp} {C : Fg} {σ : St} {ρ : De} {io : List Nat} {vs : List V} {ds : List D} {N : List Str}
theorem Good.extend (h : Good K ms G H C (vs.map some) (ds.map some)) (hΓ : Γ.length = N.length) (hm : Γ.take ms.length = ms) (hl : vs.length = ms.length) : Good K Γ G H C (start N vs) (ds.map some ++ List.replicate (N.length - ds.length) none) := by
  obtain ⟨os, a, b⟩ := h.ex
  have l1 : ds.length = vs.length := by simpa using a.ls
  have l2 : os.length = vs.length := by simpa using a.lo
  have l3 : ms.length ≤ Γ.length := by
    have := congrArg List.length hm
    rw [List.length_take] at this; omega
  have l4 : (start N vs).length = N.length := by
    unfold L2.start
    rw [List.length_append, List.length_map, List.length_replicate]; omega
  refine ⟨os ++ List.replicate (N.length - os.length) [], ⟨?_, ?_, ?_, fun i d e => ?_⟩, b.re fun P => ?_⟩
  · rw [l4, List.length_append, List.length_map, List.length_replicate]; omega
  · rw [l4, List.length_append, List.length_replicate]; omega
  · rw [l4]; exact hΓ
  · by_cases hi : i < ds.length
    · have e' : (ds.map some)[i]? = some (some d) := by rw [List.getElem?_append_left (by simpa using hi)] at e; exact e
      obtain ⟨v, m, o, e1, e2, e3, r⟩ := a.at_ i d e'
      refine ⟨v, m, o, ?_, ?_, ?_, r⟩
      · unfold L2.start
        rw [List.getElem?_append_left (by rw [List.length_map]; omega)]; exact e1
      · rw [← hm] at e2
        rw [List.getElem?_take] at e2
        split at e2
        · exact e2
        · cases e2
      · rw [List.getElem?_append_left (by omega)]; exact e3
    · rw [List.getElem?_append_right (by simpa using hi), List.getElem?_replicate] at e
      split at e <;> cases e
  · have z : ∀ n : Nat, (List.replicate n ([] : Fg)).flatten = [] := fun n => by induction n with
      | zero => rfl
      | succ n ih => rw [List.replicate_succ, List.flatten_cons, ih]; rfl
    rw [List.flatten_append, z, List.append_nil]
    exact Nat.le_refl _
theorem flat_take (P : Addr × HO → Bool) : ∀ (os : List Fg) (n : Nat), (os.take n).flatten.countP P ≤ os.flatten.countP P
  | [], n => by simp
  | x :: r, 0 => by simp
  | x :: r, n + 1 => by
    have := flat_take P r n
    simp only [List.take_succ_cons, List.flatten_cons, List.countP_append]
    omega
theorem Good.restrict (h : Good K Γ G H C σ ρ) (fx : Fix io (start N vs) σ) (hm : Γ.take ms.length = ms) (hl : vs.length = ms.length) (hn : ms.length ≤ N.length) (hσ : Γ.length = N.length) : Good K ms G H C (vs.map some) (maskIo io ms.length ρ) := by
  obtain ⟨os, a, b⟩ := h.ex
  have l2 : os.length = N.length := by rw [a.lo, ← a.lg, hσ]
  refine ⟨os.take ms.length, ⟨?_, ?_, ?_, fun i d e => ?_⟩, b.re fun P => ?_⟩
  · unfold maskIo
    rw [List.length_map, List.length_range, List.length_map, hl]
  · rw [List.length_take, List.length_map]; omega
  · rw [List.length_map, hl]
  · unfold maskIo at e
    rw [List.getElem?_map] at e
    obtain ⟨j, e1, e2⟩ := Option.map_eq_some_iff.mp e
    obtain ⟨h3, h4⟩ := List.getElem?_eq_some_iff.mp e1
    rw [List.getElem_range] at h4
    rw [List.length_range] at h3
    subst h4
    split at e2
    · rename_i hio
      have e3 : ρ[i]? = some (some d) := by
        cases e4 : ρ[i]? with
        | none => rw [e4] at e2; cases e2
        | some x => rw [e4] at e2; rw [show x = some d from e2]
      obtain ⟨v, m, o, e4, e5, e6, r⟩ := a.at_ i d e3
      have e7 : (start N vs)[i]? = some (some v) := by rw [← fx i hio]; exact e4
      refine ⟨v, m, o, ?_, ?_, ?_, r⟩
      · unfold L2.start at e7
        rw [List.getElem?_append_left (by rw [List.length_map]; omega)] at e7
        exact e7
      · rw [← hm, List.getElem?_take, if_pos h3]; exact e5
      · rw [List.getElem?_take, if_pos h3]; exact e6
    · cases e2
  · have := flat_take P os ms.length
    simp only [List.countP_append]; omega
end
section
variable {P : Program} {w : World} {K : PySem.W.Frag} {mg : Str → Option Value} {base : Heap}
/-- a def keeps its promise -/
theorem fn_ok {x qual : Str} {st : Stmt} {f : Addr} {fd : FuncData} {N ps : List Str} {k : Nat} {Γ : List Md} {rm : Md} {io : List Nat} {ms : List Md} {fb : Mr Fl} (F : Fun K x qual st f fd) (S : FnScope N ps (defScope st)) (hΓ : Γ.length = N.length) (hp : ps.length = ms.length) (hm : Γ.take ms.length = ms)
    (hbody : ∀ (cdv : Value) (A : Around) (outer : List Env) (s : Shared) (H : Hp) (E : XK), Room k (A.deeper (PyProof.Rows.envOfC qual (defScope st) s.heap.objs.size f cdv)) →
      ∃ t, DSs (cxOf CX0 P w K mg base N qual (defScope st) f cdv A outer s H E).nox K Γ Ek0 rm io (defBody st) t fb) : FnOk P w K mg base CX0 (k + 1) f fd ps (spD K ms rm (bodyF0 N.length io fb)) := by
  refine F.ok S (fun vs H Q E h => ?_) (fun cdv A outer s H vs Q E hr h => ?_)
  · obtain ⟨G, C, ds, r, hl, _⟩ := h
    rw [hl, hp]
  · obtain ⟨G, C, ds, r, hl, good, hF, hr'⟩ := h
    obtain ⟨t, b⟩ := hbody cdv A outer s H E hr
    have ld : ds.length = ms.length := by
      have := good.lenσ
      simp only [List.length_map] at this
      omega
    have hn : ms.length ≤ N.length := by
      have := congrArg List.length hm
      rw [List.length_take] at this; omega
    refine ⟨t, b.ps, ?_⟩
    unfold bodyF0 at hF
    cases e : fb (ds.map some ++ List.replicate (N.length - ds.length) none) with
    | none => rw [e] at hF; cases hF
    | some r1 =>
      rw [e] at hF
      refine b.sn (start N vs) H G C _ _ r1 (good.extend hΓ hm hl) e ?_
      cases r1 with
      | ok fl ρ1 =>
        cases fl with
        | nx =>
          cases hF
          exact fun σ' H' G' g fx good' => hr' .non H' G' [] g ⟨rfl, rfl⟩ (by rw [ld]; exact good'.restrict fx hm hl hn hΓ)
        | rt d =>
          cases hF
          exact fun v σ' H' G' o g fx r good' => hr' v H' G' o g r (by rw [ld]; exact good'.restrict fx hm hl hn hΓ)
        | bk => cases hF
        | ct => cases hF
      | ex x ρ1 => cases hF
/-- a promise for nothing -/
theorem fn_none {cx : CXT} {k : Nat} {f : Addr} {fd : FuncData} {ps : List Str} {ms : List Md} {rm : Md} : FnOk P w K mg base cx k f fd ps (spD K ms rm fun _ => none) :=
  ⟨fun vs H Q E ⟨_, _, _, _, _, _, h, _⟩ => (nomatch h), fun A outer s H args us vs Q E _ _ _ _ ⟨_, _, _, _, _, _, h, _⟩ => (nomatch h)⟩
/-- what the law's end asks -/
theorem law_sp {H : Hp} {a : Addr} {ns : List Int} {F : List D → Option (Rs D)} (hS : SqL K H a (ns.map V.int)) (h : ∃ fs, F [.frl (ns.map .int)] = some (.ok (.bl true) fs)) : spD K [.sh] .sh F [.ref a] H (fun v _ => v = .bl true) fun _ _ _ => False := by
  obtain ⟨fs, e⟩ := h
  have shi : ∀ ns : List Int, ShL K H (ns.map D.int) (ns.map V.int) := fun ns => by
    induction ns with
    | nil => rfl
    | cons n r ih => exact ⟨.int n, r.map V.int, rfl, rfl, ih⟩
  refine ⟨H, [], [.frl (ns.map .int)], _, rfl, ⟨[[]], ⟨rfl, rfl, rfl, fun i d ei => ?_⟩, ⟨GLe.refl H, (fun p hp => by simp at hp), (fun a => by simp)⟩⟩, e, fun v H' G' o g r _ => r.2⟩
  cases i with
  | zero =>
    cases ei
    exact ⟨.ref a, .sh, [], rfl, rfl, rfl, rfl, a, _, rfl, hS, shi ns⟩
  | succ i => simp at ei
/-- a def that may be called by its name -/
structure Cl (P : Program) (w : World) (K : PySem.W.Frag) (mg : Str → Option Value) (base : Heap) (cx : CXT) (k : Nat) (x : Str) (ms : List Md) (rm : Md) (F : List D → Option (Rs D)) : Prop where
  ex : ∃ (f : Addr) (fd : FuncData) (ps : List Str), FnOk P w K mg base cx k f fd ps (spD K ms rm F) ∧ mg x = some (.ref f) ∧ PySem.W.keepIn K (.ref f) = true ∧ Binds K fd ps []
/-- the promise for all that another function gives too -/
theorem spD_mono {ms : List Md} {rm : Md} {F F' : List D → Option (Rs D)} (h : ∀ ds r, F' ds = some r → F ds = some r) : ∀ vs H Q E, spD K ms rm F' vs H Q E → spD K ms rm F vs H Q E :=
  fun _ _ _ _ ⟨G, C, ds, r, h1, h2, h3, h4⟩ => ⟨G, C, ds, r, h1, h2, h _ _ h3, h4⟩
theorem Cl.imp {cx : CXT} {k : Nat} {x : Str} {ms : List Md} {rm : Md} {F F' : List D → Option (Rs D)} (c : Cl P w K mg base cx k x ms rm F) (h : ∀ ds r, F' ds = some r → F ds = some r) : Cl P w K mg base cx k x ms rm F' := by
  obtain ⟨f, fd, ps, a, b⟩ := c.ex
  exact ⟨f, fd, ps, a.imp (spD_mono h), b⟩
theorem Cl.le {cx : CXT} {j k : Nat} {x : Str} {ms : List Md} {rm : Md} {F : List D → Option (Rs D)} (c : Cl P w K mg base cx j x ms rm F) (h : j ≤ k) : Cl P w K mg base cx k x ms rm F := by
  obtain ⟨f, fd, ps, a, b⟩ := c.ex
  exact ⟨f, fd, ps, a.mono h, b⟩
end

/-! ### calls -/
def akM (Γ : List Md) : AK → Option Md
  | .v m => some m
  | .io s => Γ[s]?
/-- what was handed on is laid back -/
def backIo : List AK → De → De → De
  | .io s :: ks, f :: fs, ρ => backIo ks fs (match f with
    | some d => ρ.set s (some d)
    | none => ρ)
  | .v _ :: ks, _ :: fs, ρ => backIo ks fs ρ
  | _, _, ρ => ρ
def mCl0 (ks : List AK) (F : List D → Option (Rs D)) (fr : Mr (List D)) : Mr D := bnd fr fun ds ρ => match F ds with
  | some (.ok d fs) => some (.ok d (backIo ks fs ρ))
  | _ => none
def mClX (ks : List AK) (F : List D → Option (Rs D)) (fr : Mr (List D)) : Mr D := bnd fr fun ds ρ => match F ds with
  | some (.ok d fs) => some (.ok d (backIo ks fs ρ))
  | some (.ex x fs) => some (.ex x (backIo ks fs ρ))
  | none => none
section
variable {K : PySem.W.Frag} {Γ : List Md} {Ek : WX} {G H : Hp} {C : Fg} {σ : St} {ρ : De}
/-- the arguments as a callee wants them; and what it leaves, laid back -/
theorem RA.split : ∀ (ks : List AK) {ms : List Md} {ds : List D} {vs : List V} {o : Fg}, ks.map (akM Γ) = ms.map some → RA K Γ ks σ G ds vs o → ∃ os, Sl K G ms (vs.map some) (ds.map some) os ∧ o = os.flatten ∧ vs.length = ms.length ∧
    ∀ (G' H' : Hp) (C' : Fg) (fs : De) (os' : List Fg) (ρ : De), Sl K G' ms (vs.map some) fs os' → Good K Γ G' H' (os'.flatten ++ C') σ ρ → Good K Γ G' H' C' σ (backIo ks fs ρ)
  | [], ms, ds, vs, o, hk, ⟨e1, e2, e3⟩ => by
    subst e1; subst e2; subst e3
    cases ms with
    | cons => cases hk
    | nil => exact ⟨[], ⟨rfl, rfl, rfl, fun i d e => by simp at e⟩, rfl, rfl, fun G' H' C' fs os' ρ sl good => good.re (by walk_at "fle")⟩
  | k :: ks, ms, ds, vs, o, hk, h => by
    cases ms with
    | nil => cases hk
    | cons m ms =>
      rw [List.map_cons, List.map_cons] at hk
      injection hk with hk1 hk2
      -- the head's datum
      have hd : ∃ d dr v vr o1 o2, ds = d :: dr ∧ vs = v :: vr ∧ o = o1 ++ o2 ∧ R K G d m v o1 ∧ RA K Γ ks σ G dr vr o2 ∧ ∀ s, k = .io s → σ[s]? = some (some v) ∧ Γ[s]? = some m := by
        cases k with
        | v m' =>
          obtain ⟨d, dr, v, vr, o1, o2, e1, e2, e3, r, t⟩ := h
          have e : m' = m := Option.some.inj hk1
          subst e
          exact ⟨d, dr, v, vr, o1, o2, e1, e2, e3, r, t, fun s e => nomatch e⟩
        | io s =>
          obtain ⟨d, dr, v, vr, o1, o2, m', e1, e2, e3, e4, e5, r, t⟩ := h
          have e : some m' = some m := e5.symm.trans hk1
          cases e
          exact ⟨d, dr, v, vr, o1, o2, e1, e2, e3, r, t, fun s' e => by cases e; exact ⟨e4, e5⟩⟩
      obtain ⟨d, dr, v, vr, o1, o2, e1, e2, e3, r, t, hio⟩ := hd
      obtain ⟨os, sl, eo, hl, back⟩ := RA.split ks hk2 t
      subst e1; subst e2; subst e3; subst eo
      refine ⟨o1 :: os, ⟨by simpa using sl.ls, by simpa using sl.lo, by simpa using sl.lg, fun i d' e => ?_⟩, rfl, by simpa using hl, fun G' H' C' fs os' ρ sl' good => ?_⟩
      · cases i with
        | zero =>
          rw [List.map_cons, List.getElem?_cons_zero] at e
          cases e
          exact ⟨v, m, o1, rfl, rfl, rfl, r⟩
        | succ i =>
          rw [List.map_cons, List.getElem?_cons_succ] at e
          obtain ⟨v', m', o', a1, a2, a3, a4⟩ := sl.at_ i d' e
          exact ⟨v', m', o', by simpa using a1, by simpa using a2, by simpa using a3, a4⟩
      · cases fs with
        | nil => have := sl'.ls; simp at this
        | cons f fs =>
          cases os' with
          | nil => have := sl'.lo; simp at this
          | cons oh os' =>
            have slr : Sl K G' ms (vr.map some) fs os' := ⟨by simpa using sl'.ls, by simpa using sl'.lo, by simpa using sl'.lg, fun i d' e => by
              obtain ⟨v', m', o', a1, a2, a3, a4⟩ := sl'.at_ (i + 1) d' (by simpa using e)
              exact ⟨v', m', o', by simpa using a1, by simpa using a2, by simpa using a3, a4⟩⟩
            cases k with
            | v m' => exact back G' H' C' fs os' ρ slr (good.re (by intro P; simp only [List.flatten_cons, List.countP_append]; omega))
            | io s =>
              obtain ⟨hs, hm⟩ := hio s rfl
              cases f with
              | none => exact back G' H' C' fs os' ρ slr (good.re (by intro P; simp only [List.flatten_cons, List.countP_append]; omega))
              | some d1 =>
                obtain ⟨v', m', o', a1, a2, a3, a4⟩ := sl'.at_ 0 d1 rfl
                cases a1; cases a2; cases a3
                refine back G' H' C' fs os' (ρ.set s (some d1)) slr ?_
                exact Good.back (o := oh) (good.re (by intro P; simp only [List.flatten_cons, List.countP_append]; omega)) a4 hs hm
variable {ks : List AK} {ms : List Md} {rm : Md} {F : List D → Option (Rs D)} {tr : TA} {fr : Mr (List D)}
/-- a call whose exceptions the caller's wish takes, slots and all -/
def tCallW (sp : Sp) (W : WX) (ta : TA) : TE := fun σ H Q => ta σ H fun vs H1 => sp (vs ++ []) H1 Q fun c dx H' => W c dx σ H'
theorem snd_call (h : SndG K Γ Ek (RA K Γ ks) tr fr) (hk : ks.map (akM Γ) = ms.map some) : Snd K Γ Ek rm (tCallW (spD K ms rm F) Ek tr) (mClX ks F fr) := by
  refine SndG.bind (t2 := fun vs σ H1 Q => spD K ms rm F (vs ++ []) H1 Q fun c dx H' => Ek c dx σ H') h fun ds vs σ H G C o ρ Q r rel good hf hq => ?_
  obtain ⟨os, sl, eo, hl, back⟩ := RA.split ks hk rel
  subst eo
  obtain ⟨osC, slC, s⟩ := good.ex
  rw [List.append_nil]
  cases e : F ds with
  | none => rw [e] at hf; cases hf
  | some r1 =>
    rw [e] at hf
    refine ⟨G, osC.flatten ++ C, ds, r1, hl, ⟨os, sl, s.re (by walk_at "fle")⟩, e, ?_⟩
    cases r1 with
    | ok d fs =>
      cases hf
      intro v H' G' o' g r good'
      obtain ⟨os', sl', s'⟩ := good'.ex
      exact hq v H' G' o' g r (back G' H' (o' ++ C) fs os' ρ sl' ⟨osC, slC.mono g, s'.re (by walk_at "fle")⟩)
    | ex x fs =>
      cases hf
      intro c dx H' G' g xr good'
      obtain ⟨os', sl', s'⟩ := good'.ex
      exact hq c dx H' G' g xr (back G' H' C fs os' ρ sl' ⟨osC, slC.mono g, s'.re (by walk_at "fle")⟩)
theorem snd_call0 {E : XK} (h : SndG K Γ Ek (RA K Γ ks) tr fr) (hk : ks.map (akM Γ) = ms.map some) : Snd K Γ Ek rm (tCall (spD K ms rm F) [] E tr) (mCl0 ks F fr) := by
  refine SndG.bind (t2 := fun vs _ H1 Q => spD K ms rm F (vs ++ []) H1 Q E) h fun ds vs σ H G C o ρ Q r rel good hf hq => ?_
  obtain ⟨os, sl, eo, hl, back⟩ := RA.split ks hk rel
  subst eo
  obtain ⟨osC, slC, s⟩ := good.ex
  rw [List.append_nil]
  cases e : F ds with
  | none => rw [e] at hf; cases hf
  | some r1 =>
    rw [e] at hf
    refine ⟨G, osC.flatten ++ C, ds, r1, hl, ⟨os, sl, s.re (by walk_at "fle")⟩, e, ?_⟩
    cases r1 with
    | ok d fs =>
      cases hf
      intro v H' G' o' g r good'
      obtain ⟨os', sl', s'⟩ := good'.ex
      exact hq v H' G' o' g r (back G' H' (o' ++ C) fs os' ρ sl' ⟨osC, slC.mono g, s'.re (by walk_at "fle")⟩)
    | ex x fs => cases hf
end
section
variable {X : Cx} {K : PySem.W.Frag} {Γ : List Md} {Ek : WX} {k j : Nat} {x : Str} {ms : List Md} {rm : Md} {F : List D → Option (Rs D)} {ks : List AK} {e : PySem.Expr} {es : List PySem.Expr} {tr : TA} {fr : Mr (List D)} {p pos : Pos}
theorem de_call (c : Cl X.prog X.w K X.mg X.base CX0 k x ms rm F) (hr : Room j X.A) (ha : DA X K Γ Ek ks (e :: es) tr fr) (hk : k ≤ j := by omega) (hks : ks.map (akM Γ) = ms.map some := by rfl) (hg : Gl X x := by rfl)
    (hdb : (x == ("__debug__" : Str)) = false := by decide) (he : starEach (e :: es) X.env = (false, eval e X.env) :: starEach es X.env := by rfl) (hpl : (backTo pos (starEach es X.env)).any (·.1) = false := by rfl) (hK : X.K = K := by rfl) :
    DE X K Γ Ek rm (.Call (.Name x p) (e :: es) [] pos) (tCall (spD K ms rm F) [] E0 tr) (mCl0 ks F fr) := by
  subst hK
  obtain ⟨f, fd, ps, a, hm, kp, b⟩ := c.ex
  exact ⟨pe_call a (hr.mono hk) hg hm kp b .nil pass0 ha.pa hdb he hpl, snd_call0 ha.sn hks⟩
end
end Dl
/-! Dl, tenth part: owned things by their place: items, stores, append, pop. -/
namespace Dl
open PySem L2
local macro_rules | `(tactic| walk_at "fle") => `(tactic| (intro P; simp only [List.countP_append, List.countP_cons, List.countP_nil, List.append_nil, List.nil_append]; first | omega | (split <;> omega)))

def kid (d : D) (k : Nat) : Option D := match d with
  | .lst ds => ds[k]?
  | .tup ds => ds[k]?
  | .dK _ ds => ds[k]?
  | .dT _ ds => ds[k]?
  | .shd (.lst ds) => (ds[k]?).map .shd
  | .shd (.frl ds) => (ds[k]?).map .shd
  | .shd (.tup ds) => (ds[k]?).map .shd
  | _ => none
def putKid (d : D) (k : Nat) (x : D) : D := match d with
  | .lst ds => .lst (ds.set k x)
  | .tup ds => .tup (ds.set k x)
  | .dK ks ds => .dK ks (ds.set k x)
  | .dT ks ds => .dT ks (ds.set k x)
  | d => d
def getP : D → List Nat → Option D
  | d, [] => some d
  | d, k :: ks => (kid d k).bind fun x => getP x ks
def setP : D → List Nat → D → D
  | _, [], x => x
  | d, k :: ks, x => match kid d k with
    | some y => putKid d k (setP y ks x)
    | none => d
theorem getP_snoc : ∀ (p : List Nat) (d : D) (k : Nat), getP d (p ++ [k]) = (getP d p).bind fun x => kid x k
  | [], d, k => by
    show (kid d k).bind (fun x => some x) = kid d k
    cases kid d k <;> rfl
  | j :: p, d, k => by
    show (kid d j).bind (fun x => getP x (p ++ [k])) = ((kid d j).bind fun x => getP x p).bind fun x => kid x k
    cases kid d j with
    | none => rfl
    | some y => exact getP_snoc p y k
theorem setP_snoc : ∀ (p : List Nat) (d y z x : D) (k : Nat), getP d p = some y → kid y k = some z → setP d (p ++ [k]) x = setP d p (putKid y k x)
  | [], d, y, z, x, k, h, hk => by
    cases h
    show (match kid d k with | some y => putKid d k x | none => d) = putKid d k x
    rw [hk]
  | j :: p, d, y, z, x, k, h, hk => by
    have h : ((kid d j).bind fun x => getP x p) = some y := h
    show (match kid d j with | some w => putKid d j (setP w (p ++ [k]) x) | none => d) = (match kid d j with | some w => putKid d j (setP w p (putKid y k x)) | none => d)
    cases e : kid d j with
    | none => rw [e] at h; first | done | cases h
    | some w =>
      rw [e] at h
      dsimp only
      rw [setP_snoc p w y z x k h hk]

section
variable {K : PySem.W.Frag} {G H : Hp}
theorem RL.split : ∀ {ds : List D} {c : Md} {vs : List V} {o : Fg} {k : Nat} {d : D}, RL K G ds c vs o → ds[k]? = some d → ∃ (v : V) (o' rest : Fg), vs[k]? = some v ∧ R K G d c v o' ∧ (∀ P, o.countP P = o'.countP P + rest.countP P) ∧
    ∀ (G2 : Hp) (d2 : D) (o2 : Fg), GLe G G2 → R K G2 d2 c v o2 → ∃ o3, RL K G2 (ds.set k d2) c vs o3 ∧ ∀ P, o3.countP P = o2.countP P + rest.countP P
  | [], _, _, _, _, _, _, h => by simp at h
  | d :: ds, c, _, _, 0, d', ⟨v, r, o1, o2, e, e2, q, t⟩, h => by
    simp at h; subst h; subst e; subst e2
    exact ⟨v, o1, o2, rfl, q, fun P => List.countP_append, fun G2 d2 o3 g r2 => ⟨o3 ++ o2, ⟨v, r, o3, o2, rfl, rfl, r2, RL.mono g ds t⟩, fun P => List.countP_append⟩⟩
  | d :: ds, c, _, _, k + 1, d', ⟨v, r, o1, o2, e, e2, q, t⟩, h => by
    subst e; subst e2
    obtain ⟨v', o', rest, h1, h2, h3, h4⟩ := RL.split (k := k) t (by simpa using h)
    refine ⟨v', o', o1 ++ rest, by simpa using h1, h2, fun P => by have := h3 P; simp only [List.countP_append]; omega, fun G2 d2 o3 g r2 => ?_⟩
    obtain ⟨o4, h5, h6⟩ := h4 G2 d2 o3 g r2
    exact ⟨o1 ++ o4, ⟨v, r, o1, o4, rfl, rfl, R.mono g d q, h5⟩, fun P => by have := h6 P; simp only [List.countP_append]; omega⟩
theorem RL.setAt : ∀ {ds : List D} {c : Md} {vs : List V} {o o2 : Fg} {v2 : V} {d2 : D} (k : Nat), RL K G ds c vs o → R K G d2 c v2 o2 → ∃ o3, RL K G (ds.set k d2) c (vs.set k v2) o3 ∧ ∀ P, o3.countP P ≤ o.countP P + o2.countP P
  | [], c, vs, o, o2, v2, d2, k, ⟨e1, e2⟩, _ => by subst e1; subst e2; exact ⟨[], ⟨rfl, rfl⟩, fun P => by simp⟩
  | d :: ds, c, _, _, o2, v2, d2, 0, ⟨v, r, p1, p2, e, e2, q, t⟩, r2 => by
    subst e; subst e2
    exact ⟨o2 ++ p2, ⟨v2, r, o2, p2, rfl, rfl, r2, t⟩, fun P => by simp only [List.countP_append]; omega⟩
  | d :: ds, c, _, _, o2, v2, d2, k + 1, ⟨v, r, p1, p2, e, e2, q, t⟩, r2 => by
    subst e; subst e2
    obtain ⟨o3, h1, h2⟩ := RL.setAt k t r2
    exact ⟨p1 ++ o3, ⟨v, r.set k v2, p1, o3, rfl, rfl, q, h1⟩, fun P => by have := h2 P; simp only [List.countP_append]; omega⟩
/-- within root, at the path p, stands w of the mode m' -/
def Foc (K : PySem.W.Frag) (G : Hp) (root : D) (m : Md) (v : V) (o : Fg) (p : List Nat) (w : V) (m' : Md) : Prop := ∃ (d' : D) (o' rest : Fg), getP root p = some d' ∧ R K G d' m' w o' ∧ (∀ P, o.countP P = o'.countP P + rest.countP P) ∧
  ∀ (G2 : Hp) (d2 : D) (o2 : Fg), GLe G G2 → R K G2 d2 m' w o2 → ∃ o3, R K G2 (setP root p d2) m v o3 ∧ ∀ P, o3.countP P ≤ o2.countP P + rest.countP P
theorem Foc.mono {G' : Hp} {root : D} {m : Md} {v : V} {o : Fg} {p : List Nat} {w : V} {m' : Md} (g : GLe G G') (h : Foc K G root m v o p w m') : Foc K G' root m v o p w m' := by
  obtain ⟨d', o', rest, h1, h2, h3, h4⟩ := h
  exact ⟨d', o', rest, h1, R.mono g d' h2, h3, fun G2 d2 o2 g2 => h4 G2 d2 o2 (g.trans g2)⟩
/-- a list within: its items -/
theorem Foc.step {root : D} {m c : Md} {v : V} {o : Fg} {p : List Nat} {w : V} {ds : List D} {k : Nat} {d : D} (h : Foc K G root m v o p w (.own c)) (hp : getP root p = some (.lst ds)) (hk : ds[k]? = some d) :
    ∃ a vs v', w = .ref a ∧ (a, HO.lst vs) ∈ o ∧ vs.length = ds.length ∧ vs[k]? = some v' ∧ Foc K G root m v o (p ++ [k]) v' c := by
  obtain ⟨d', o', rest, h1, h2, h3, h4⟩ := h
  rw [hp] at h1; cases h1
  obtain ⟨a, vs, o1, ew, eo, rl⟩ := h2
  obtain ⟨v', o2, rest2, g1, g2, g3, g4⟩ := rl.split hk
  refine ⟨a, vs, v', ew, ?_, rl.len, g1, d, o2, (a, .lst vs) :: (rest2 ++ rest), ?_, g2, fun P => ?_, fun G2 d2 o3 g r2 => ?_⟩
  · have hle : Le o' o := fun P => by have := h3 P; omega
    exact hle.mem (by rw [eo]; exact List.mem_cons_self)
  · rw [getP_snoc, hp]; exact hk
  · have e1 := h3 P
    have e2 := g3 P
    subst eo
    simp only [List.countP_cons, List.countP_append] at e1 ⊢
    omega
  · obtain ⟨o4, r4, e4⟩ := g4 G2 d2 o3 g r2
    obtain ⟨o5, r5, e5⟩ := h4 G2 (.lst (ds.set k d2)) ((a, .lst vs) :: o4) g ⟨a, vs, o4, ew, rfl, r4⟩
    refine ⟨o5, ?_, fun P => ?_⟩
    · rw [setP_snoc p root (.lst ds) d d2 k hp hk]; exact r5
    · have e1 := e5 P
      have e2 := e4 P
      simp only [List.countP_cons, List.countP_append] at e1 ⊢
      omega
theorem Foc.stepT {root : D} {m c : Md} {v : V} {o : Fg} {p : List Nat} {w : V} {ds : List D} {k : Nat} {d : D} (h : Foc K G root m v o p w (.own c)) (hp : getP root p = some (.tup ds)) (hk : ds[k]? = some d) :
    ∃ a vs v', w = .ref a ∧ G a = some (.tup vs) ∧ vs.length = ds.length ∧ vs[k]? = some v' ∧ Foc K G root m v o (p ++ [k]) v' c := by
  obtain ⟨d', o', rest, h1, h2, h3, h4⟩ := h
  rw [hp] at h1; cases h1
  obtain ⟨a, vs, ew, et, rl⟩ := h2
  obtain ⟨v', o2, rest2, g1, g2, g3, g4⟩ := rl.split hk
  refine ⟨a, vs, v', ew, et, rl.len, g1, d, o2, rest2 ++ rest, ?_, g2, fun P => ?_, fun G2 d2 o3 g r2 => ?_⟩
  · rw [getP_snoc, hp]; exact hk
  · have e1 := h3 P
    have e2 := g3 P
    simp only [List.countP_append]
    omega
  · obtain ⟨o4, r4, e4⟩ := g4 G2 d2 o3 g r2
    obtain ⟨o5, r5, e5⟩ := h4 G2 (.tup (ds.set k d2)) o4 g ⟨a, vs, ew, g _ _ et, r4⟩
    refine ⟨o5, ?_, fun P => ?_⟩
    · rw [setP_snoc p root (.tup ds) d d2 k hp hk]; exact r5
    · have e1 := e5 P
      have e2 := e4 P
      simp only [List.countP_append]
      omega
end

/-- the items of a list or a tuple that is shared now -/
def shItems : D → Option (List D)
  | .shd (.lst ds) => some ds
  | .shd (.frl ds) => some ds
  | .shd (.tup ds) => some ds
  | _ => none
section
variable {K : PySem.W.Frag} {G H : Hp}
theorem shItems_of {d : D} {m : Md} {w : V} {o : Fg} {ds : List D} (h : shItems d = some ds) (r : R K G d m w o) : o = [] ∧ ∃ a vs e, w = .ref a ∧ (SqL K G a vs ∨ SqT K G a vs) ∧ ShL K G ds vs ∧ d = .shd e ∧ (∀ k, kid d k = (ds[k]?).map .shd) ∧ (∀ k x, putKid d k x = d) := by
  cases d <;> first | (cases h; done) | skip
  rename_i e
  obtain ⟨z, r⟩ := r
  cases e <;> first | (cases h; done) | skip
  · cases h; obtain ⟨a, vs, ew, q, t⟩ := r; exact ⟨z, a, vs, _, ew, .inl (.inl (.inl q)), t, rfl, fun k => rfl, fun k x => rfl⟩
  · cases h; obtain ⟨a, vs, ew, q, t⟩ := r; exact ⟨z, a, vs, _, ew, .inl q, t, rfl, fun k => rfl, fun k x => rfl⟩
  · cases h; obtain ⟨a, vs, ew, q, t⟩ := r; exact ⟨z, a, vs, _, ew, .inr (.inl (.inl q)), t, rfl, fun k => rfl, fun k x => rfl⟩
theorem Foc.stepS {root : D} {m m' c : Md} {v : V} {o : Fg} {p : List Nat} {w : V} {d0 : D} {ds : List D} {k : Nat} {d : D} (h : Foc K G root m v o p w m') (hp : getP root p = some d0) (hs : shItems d0 = some ds) (hk : ds[k]? = some d) :
    ∃ a vs v', w = .ref a ∧ (SqL K G a vs ∨ SqT K G a vs) ∧ vs.length = ds.length ∧ vs[k]? = some v' ∧ Foc K G root m v o (p ++ [k]) v' c := by
  obtain ⟨d', o', rest, h1, h2, h3, h4⟩ := h
  rw [hp] at h1; cases h1
  obtain ⟨z, a, vs, e, ew, hq, r, ed, hkid, hput⟩ := shItems_of hs h2
  subst z
  obtain ⟨v', hv, rv⟩ := r.get hk
  have hkk : kid d0 k = some (.shd d) := by rw [hkid, hk]; rfl
  refine ⟨a, vs, v', ew, hq, r.len, hv, .shd d, [], rest, ?_, ⟨rfl, rv⟩, h3, fun G2 d2 o2 g r2 => ?_⟩
  · rw [getP_snoc, hp]; exact hkk
  · obtain ⟨o5, r5, e5⟩ := h4 G2 d0 [] g (R.mono g _ h2)
    refine ⟨o5, ?_, fun P => ?_⟩
    · rw [setP_snoc p root d0 (.shd d) d2 k hp hkk, hput]; exact r5
    · have := e5 P
      simp only [List.countP_nil] at this
      omega
end
/-- taken out of its slot, owned or not -/
def mTk (i : Nat) : Mr D := fun ρ => match ρ[i]? with
  | some (some d) => some (.ok d (ρ.set i none))
  | _ => none
/-- a place within slot i, the slot being empty meanwhile -/
def PR (K : PySem.W.Frag) (Γ : List Md) (i : Nat) (m' : Md) : St → Hp → D × List Nat → V → Fg → Prop := fun σ G rp w o => ∃ v m, σ[i]? = some (some v) ∧ Γ[i]? = some m ∧ R K G rp.1 m v o ∧ Foc K G rp.1 m v o rp.2 w m'
theorem PR.mono {K : PySem.W.Frag} {Γ : List Md} {i : Nat} {m' : Md} : RMono (PR K Γ i m') := fun σ G G' rp w o g ⟨v, m, h1, h2, h3, h4⟩ => ⟨v, m, h1, h2, R.mono g _ h3, h4.mono g⟩
structure DP (X : Cx) (K : PySem.W.Frag) (Γ : List Md) (Ek : WX) (i : Nat) (m : Md) (e : PySem.Expr) (t : TE) (f : Mr (D × List Nat)) : Prop where
  pe : PE X e t
  sn : SndG K Γ Ek (PR K Γ i m) t f
section
variable {K : PySem.W.Frag} {X : Cx} {Γ : List Md} {Ek : WX} {i : Nat} {m c rm : Md} {e a b : PySem.Expr} {t ta tb te : TE} {f : Mr (D × List Nat)} {fb fe : Mr D} {pos p : Pos} {io : List Nat}
theorem dp_var (i : Nat) {x : Str} {p : Pos} (hN : X.N[i]? = some x := by rfl) (hv : Vis X.env.scope x := by first | exact Or.inl rfl | exact Or.inr (Or.inl rfl) | exact Or.inr (Or.inr rfl)) (h : Γ[i]? = some m := by rfl) (hd : (x == ("__debug__" : Str)) = false := by decide)
    (hcd : (x == ("__classdict__" : Str)) = false := by decide) : DP X K Γ Ek i m (.Name x p) (tVar i) (bnd (mTk i) fun d => ret (d, [])) := ⟨pe_var hN hv hd hcd, by
  intro σ H G C ρ Q r hg hf hq
  rcases bnd_inv hf with ⟨d, ρ1, e1, e2⟩ | ⟨x, ρ1, e1, e2⟩
  · unfold mTk at e1
    split at e1
    · rename_i d' e
      cases e1
      cases e2
      obtain ⟨v, m', o, h1, h2, r, g2⟩ := hg.take e
      rw [h] at h2; cases h2
      exact ⟨v, h1, hq v H G o (GLe.refl G) ⟨v, m, h1, h, r, d, o, [], rfl, r, fun P => by simp, fun G2 d2 o2 g r2 => ⟨o2, r2, fun P => by simp⟩⟩ g2⟩
    · cases e1
  · unfold mTk at e1
    split at e1 <;> cases e1⟩
def anyItems (d : D) : Option (List D) := match d with
  | .lst ds => some ds
  | .tup ds => some ds
  | d => shItems d
def ixP (rp : D × List Nat) (j : D) : Option (D × List Nat) := match j with
  | .int jj => (getP rp.1 rp.2).bind fun d => (anyItems d).bind fun ds => (ixN ds.length jj).map fun k => (rp.1, rp.2 ++ [k])
  | _ => none
theorem ixN_lt {n : Nat} {i : Int} {k : Nat} (h : ixN n i = some k) : k < n := (ixN_seq h).2.1
theorem atI_of {xs : List V} {n : Nat} {j : Int} {k : Nat} {v : V} (hn : xs.length = n) (h : ixN n j = some k) (hv : xs[k]? = some v) : atI xs j = some v := by
  unfold atI
  rw [hn, h]; exact hv
theorem snd_ixP (h : SndG K Γ Ek (PR K Γ i (.own c)) ta f) (hb : Snd K Γ Ek .sh tb fb) : SndG K Γ Ek (PR K Γ i c) (tOp (rIx K) ta tb) (bnd (mPair f fb) fun p => lft (ixP p.1 p.2)) := by
  refine SndG.bind (t1 := tPair ta tb) (t2 := fun p _ H Q => rIx K p.1 p.2 H Q) (SndG.pair h hb PR.mono) fun a b σ H G C o ρ Q r rel good hf hq => ?_
  obtain ⟨o1, o2, eo, ⟨v, m, h1, h2, h3, h4⟩, r2⟩ := rel
  obtain ⟨z2, q2⟩ := (R.sh_iff _).mp r2
  subst z2; subst eo
  obtain ⟨⟨root, pth⟩, j⟩ := a
  obtain ⟨w, y⟩ := b
  dsimp only at h3 h4 q2 ⊢
  have s := good.sat
  cases e : ixP (root, pth) j with
  | none => dsimp only at hf; rw [e] at hf; cases hf
  | some rp =>
    dsimp only at hf
    rw [e] at hf
    cases hf
    cases j <;> first | (cases e; done) | skip
    rename_i jj
    obtain ⟨d0, e1, e⟩ := Option.bind_eq_some_iff.mp e
    obtain ⟨ds, e4, e⟩ := Option.bind_eq_some_iff.mp e
    obtain ⟨k, e2, e3⟩ := Option.map_eq_some_iff.mp e
    subst e3
    have hkl := ixN_lt e2
    have hk : ds[k]? = some ds[k] := List.getElem?_eq_getElem hkl
    have shc : shItems d0 = some ds → rIx K w y H Q := fun hs => by
      obtain ⟨a, vs, v', ew, hm, hl, hv, foc⟩ := h4.stepS (c := c) e1 hs hk
      have fin := hq v' H G o1 (GLe.refl G) ⟨v, m, h1, h2, h3, foc⟩ (good.re (by walk_at "fle"))
      rcases hm with hm | hm
      · exact .inl ⟨a, vs, jj, v', ew, q2, s.le.sqL hm, atI_of hl e2 hv, fin⟩
      · exact .inr (.inl ⟨a, vs, jj, v', ew, q2, s.le.sqTT hm, atI_of hl e2 hv, fin⟩)
    unfold anyItems at e4
    split at e4
    · cases e4
      obtain ⟨a, vs, v', ew, hm, hl, hv, foc⟩ := h4.step e1 hk
      have ha : H a = some (.lst vs) := (s.at_ (a, .lst vs) (List.mem_append_left _ (by simpa using hm))).1
      exact .inl ⟨a, vs, jj, v', ew, q2, .inl (.inl ha), atI_of hl e2 hv, hq v' H G o1 (GLe.refl G) ⟨v, m, h1, h2, h3, foc⟩ (good.re (by walk_at "fle"))⟩
    · cases e4
      obtain ⟨a, vs, v', ew, et, hl, hv, foc⟩ := h4.stepT e1 hk
      exact .inr (.inl ⟨a, vs, jj, v', ew, q2, s.le.sqT et, atI_of hl e2 hv, hq v' H G o1 (GLe.refl G) ⟨v, m, h1, h2, h3, foc⟩ (good.re (by walk_at "fle"))⟩)
    · exact shc e4
theorem dp_ix (h : DP X K Γ Ek i (.own c) a ta f) (hb : DE X K Γ Ek .sh b tb fb) (hs : PlainIx b := by exact fun _ _ => rfl) (hK : X.K = K := by rfl) : DP X K Γ Ek i c (.Subscript a b pos) (tOp (rIx K) ta tb) (bnd (mPair f fb) fun p => lft (ixP p.1 p.2)) := by subst hK; exact ⟨pe_ix ix_seq h.pe hb.pe hs, snd_ixP h.sn hb.sn⟩
/-- what stands there as something shared -/
def shOf (d : D) : Option D := match d with
  | .shd e => some e
  | d => if scal d = true then some d else none
theorem shOf_of {G : Hp} {d e : D} {m' : Md} {v : V} {o : Fg} (h : shOf d = some e) (r : R K G d m' v o) : o = [] ∧ Sh K G e v := by
  unfold shOf at h
  split at h
  · cases h; exact r
  · split at h
    · rename_i hs
      cases h
      exact (R.sh_iff _).mp (R.scal (m' := .sh) hs r)
    · cases h
/-- what stands there is shared, or no object: a value; the slot is full again -/
def mRead (i : Nat) (f : Mr (D × List Nat)) : Mr D := bnd f fun rp ρ => match getP rp.1 rp.2 with
  | some d => some (.ok (unsh d) (ρ.set i (some rp.1)))
  | none => none
theorem snd_read (h : SndG K Γ Ek (PR K Γ i .sh) t f) : Snd K Γ Ek .sh t (mRead i f) := by
  intro σ H G C ρ Q r hg hf hq
  rcases bnd_inv hf with ⟨rp, ρ1, e1, e2⟩ | ⟨x, ρ1, e1, e2⟩
  · refine h σ H G C ρ _ _ hg e1 fun w H' G' o g rel good => ?_
    obtain ⟨v, m, h1, h2, h3, d', o', rest, f1, f2, f3, f4⟩ := rel
    rw [f1] at e2
    cases e2
    obtain ⟨z, q⟩ := (R.sh_iff _).mp f2
    exact hq w H' G' [] g (R.of_sh (Sh.unsh q)) (Good.back good h3 h1 h2)
  · subst e2
    exact h σ H G C ρ _ _ hg e1 fun c dx H' G' g xr good => hq c dx H' G' g xr good
theorem de_read (h : DP X K Γ Ek i .sh e t f) : DE X K Γ Ek .sh e t (mRead i f) := ⟨h.pe, snd_read h.sn⟩
/-- .. whatever the mode there: something that is shared by now, or no object -/
def mReadU (i : Nat) (f : Mr (D × List Nat)) : Mr D := bnd f fun rp ρ => match (getP rp.1 rp.2).bind shOf with
  | some d => some (.ok d (ρ.set i (some rp.1)))
  | none => none
theorem snd_readU (h : SndG K Γ Ek (PR K Γ i m) t f) : Snd K Γ Ek .sh t (mReadU i f) := by
  intro σ H G C ρ Q r hg hf hq
  rcases bnd_inv hf with ⟨rp, ρ1, e1, e2⟩ | ⟨x, ρ1, e1, e2⟩
  · refine h σ H G C ρ _ _ hg e1 fun w H' G' o g rel good => ?_
    obtain ⟨v, m, h1, h2, h3, d', o', rest, f1, f2, f3, f4⟩ := rel
    rw [f1] at e2
    split at e2
    · rename_i d e3
      cases e2
      obtain ⟨z, q⟩ := shOf_of (show shOf d' = some d from e3) f2
      exact hq w H' G' [] g (R.of_sh q) (Good.back good h3 h1 h2)
    · cases e2
  · subst e2
    exact h σ H G C ρ _ _ hg e1 fun c dx H' G' g xr good => hq c dx H' G' g xr good
theorem de_readU (h : DP X K Γ Ek i m e t f) : DE X K Γ Ek .sh e t (mReadU i f) := ⟨h.pe, snd_readU h.sn⟩
theorem de_readS {m' : Md} (h : DP X K Γ Ek i m e t f) : DE X K Γ Ek m' e t (mScal (mReadU i f)) := (de_readU h).sc

/-! ### x[..] = v -/
def gtSub (i : Nat) (f : Mr (D × List Nat)) (fb : Mr D) (d : D) (ρ : De) : Option De := match bnd (mPair f fb) (fun p => ret p) ρ with
  | some (.ok ((root, pth), .int j) ρ2) => (match getP root pth with
    | some (.lst ds) => (ixN ds.length j).map fun k => ρ2.set i (some (setP root pth (.lst (ds.set k d))))
    | _ => none)
  | _ => none
theorem snt_sub {ti : TE} (h : SndG K Γ Ek0 (PR K Γ i (.own m)) ta f) (hb : Snd K Γ Ek0 .sh ti fb) : SndT K Γ io m (gSub ta ti rSetL) (gtSub i f fb) := by
  intro G H C o σ ρ ρ' d v Q r good e hq
  unfold gtSub at e
  split at e
  · rename_i root pth j ρ2 e1
    split at e
    · rename_i ds e2
      obtain ⟨k, e3, e4⟩ := Option.map_eq_some_iff.mp e
      subst e4
      have hb2 := SndG.pair h hb PR.mono
      have e5 : mPair f fb ρ = some (.ok ((root, pth), .int j) ρ2) := by
        rcases bnd_inv e1 with ⟨x, ρ3, a1, a2⟩ | ⟨x, ρ3, a1, a2⟩
        · cases a2; exact a1
        · cases a2
      refine hb2 σ H G (o ++ C) ρ (fun p H2 => rSetL p.1 p.2 v H2 fun H3 => Q σ H3) _ good e5 fun b H' G' o' g rel good' => ?_
      obtain ⟨o1, o2, eo, ⟨vr, mr, h1, h2, h3, foc⟩, r2⟩ := rel
      obtain ⟨z2, q2⟩ := (R.sh_iff _).mp r2
      subst z2; subst eo
      have q2 : b.2 = .int j := q2
      obtain ⟨d', od, rest, f1, f2, f3, f4⟩ := id foc
      have f1' : getP root pth = some d' := f1
      rw [e2] at f1'; cases f1'
      obtain ⟨a, vs, oc, ew, eo, rl⟩ := f2
      obtain ⟨osC, slC, s⟩ := good'.ex
      have s1 : Sat H' G' ((a, .lst vs) :: (oc ++ (rest ++ (osC.flatten ++ (o ++ C))))) := s.re fun P => by
        have := f3 P
        subst eo
        simp only [List.countP_append, List.countP_cons, List.countP_nil, List.append_nil] at this ⊢
        omega
      refine ⟨a, vs, j, k, ew, q2, s1.own, by rw [rl.len]; exact e3, ?_⟩
      obtain ⟨oc2, rl2, le2⟩ := rl.setAt k (R.mono g d r)
      obtain ⟨o3, r3, c3⟩ := f4 G' (.lst (ds.set k d)) ((a, .lst (vs.set k v)) :: oc2) (GLe.refl G') ⟨a, vs.set k v, oc2, ew, rfl, rl2⟩
      refine hq σ _ G' g (Fix.refl σ) (Good.back (o := o3) ⟨osC, slC, (s1.write (u' := .lst (vs.set k v))).re fun P => ?_⟩ r3 h1 h2)
      have x1 := c3 P
      have x2 := le2 P
      simp only [List.countP_append, List.countP_cons] at x1 x2 ⊢
      omega
    · cases e
  · cases e
theorem dg_sub {ti : TE} (h : DP X K Γ Ek0 i (.own m) a ta f) (hb : DE X K Γ Ek0 .sh b ti fb)
    (ha : ∀ v, assign (.Subscript a b pos) X.env v = (do
      let ov ← holding [v] (eval a X.env)
      let iv ← holding [v, ov] (eval b X.env)
      standAt pos
      holding [v, ov, iv] (setItem ov iv v)
      release [v, ov, iv] []) := by intro _; rfl) : DG X K Γ io m (.Subscript a b pos) (gSub ta ti rSetL) (gtSub i f fb) := ⟨pg_sub h.pe hb.pe set_list ha, snt_sub h.sn hb.sn⟩

/-! ### x[..] += v, ints -/
def mAugS (i : Nat) (g : Int → Int → Int) (f : Mr (D × List Nat)) (fb fe : Mr D) : Mr Fl := bnd (mPair f fb) fun p ρ => match p with
  | ((root, pth), .int j) => (match getP root pth with
    | some (.lst ds) => (match ixN ds.length j with
      | some k => (match ds[k]? with
        | some (.int x) => (match fe ρ with
          | some (.ok (.int y) ρ') => some (.ok .nx (ρ'.set i (some (setP root pth (.lst (ds.set k (.int (g x y))))))))
          | _ => none)
        | _ => none)
      | none => none)
    | _ => none)
  | _ => none
end
section
open PySem.Spec PyProof.Rows
theorem get_listI {X : Cx} : PGet X (rIxL X.K) := by
  intro pins s σ H x y v u Q I rx ry h
  obtain ⟨p, xs, i, z, rfl, rfl, hq, he, q⟩ := h
  cases rx
  obtain ⟨t, rfl⟩ := ry
  obtain ⟨its, r, pl, hz⟩ := I.list hq
  obtain ⟨j, h1, h2, h3, h4, h5⟩ := atI_get he
  obtain ⟨w, ew, rw'⟩ := r.get h2
  have hl := r.length
  have hn := line63
  have fin : EP X pins σ Q w s := ⟨z, H, I, rw', q⟩
  by_cases h0 : 0 ≤ i
  · have hj : i.toNat = j := by
      rw [seqIndex_of h0 h5] at h1
      exact Option.some.inj h1
    exact wpAny_getItem_list pl.isList h0 (by omega) (by rw [hj]; simpa using ew) fin
  · have hj : (i + (its.toArray.size : Int)).toNat = j := by
      rw [seqIndex_neg (by omega) h4] at h1
      rw [List.size_toArray, ← hl]
      exact Option.some.inj h1
    exact wpAny_getItem_list_neg pl.isList (by omega) (by rw [List.size_toArray] <;> omega) (by omega) (by rw [hj]; simpa using ew) fin
end
section
variable {K : PySem.W.Frag} {X : Cx} {Γ : List Md} {Ek : WX} {i : Nat} {m c rm : Md} {e a b : PySem.Expr} {t ta tb te ti to : TE} {f : Mr (D × List Nat)} {fb fe : Mr D} {pos p : Pos} {io : List Nat}
/-- an owned list within is changed: what was there, what is there now -/
theorem Foc.lst {G H : Hp} {root : D} {mr c : Md} {vr w : V} {o C : Fg} {pth : List Nat} {ds : List D} (foc : Foc K G root mr vr o pth w (.own c)) (hp : getP root pth = some (.lst ds)) (s : Sat H G (o ++ C)) :
    ∃ a vs oc, w = .ref a ∧ H a = some (.lst vs) ∧ vs.length = ds.length ∧ RL K G ds c vs oc ∧ Sat H G ((a, .lst vs) :: (oc ++ C)) ∧
      ∀ (G2 H2 : Hp) (ds2 : List D) (vs2 : List V) (oc2 C2 : Fg), GLe G G2 → RL K G2 ds2 c vs2 oc2 → (∀ rest, Sat H G ((a, .lst vs) :: (oc ++ (rest ++ C))) → Sat H2 G2 ((a, .lst vs2) :: (oc2 ++ (rest ++ C2)))) →
        ∃ o3, R K G2 (setP root pth (.lst ds2)) mr vr o3 ∧ Sat H2 G2 (o3 ++ C2) := by
  obtain ⟨d', od, rest, f1, f2, f3, f4⟩ := foc
  rw [hp] at f1; cases f1
  obtain ⟨a, vs, oc, ew, eo, rl⟩ := f2
  have s1 : Sat H G ((a, .lst vs) :: (oc ++ (rest ++ C))) := s.re fun P => by
    have := f3 P
    subst eo
    simp only [List.countP_append, List.countP_cons] at this ⊢
    omega
  refine ⟨a, vs, oc, ew, s1.own, rl.len, rl, s1.re (by walk_at "fle"), fun G2 H2 ds2 vs2 oc2 C2 g r2 k => ?_⟩
  obtain ⟨o3, r3, c3⟩ := f4 G2 (.lst ds2) ((a, .lst vs2) :: oc2) g ⟨a, vs2, oc2, ew, rfl, r2⟩
  refine ⟨o3, r3, (k rest s1).re fun P => ?_⟩
  have x1 := c3 P
  simp only [List.countP_append, List.countP_cons] at x1 ⊢
  omega
theorem snd_augS {g : Int → Int → Int} (h : SndG K Γ Ek (PR K Γ i (.own m)) to f) (hb : Snd K Γ Ek .sh ti fb) (he : Snd K Γ Ek .sh te fe) : SndS K Γ Ek rm io (tAugS to ti te (rIxL K) (ipI g) rSetL) (mAugS i g f fb fe) := by
  intro σ H G C ρ E r hg hf hq
  unfold mAugS at hf
  rcases bnd_inv hf with ⟨⟨⟨root, pth⟩, j⟩, ρ2, e3, e2⟩ | ⟨x, ρ2, e3, e2⟩
  · refine SndG.pair h hb PR.mono σ H G C ρ (fun p H2 => rIxL K p.1 p.2 H2 fun x H3 => te σ H3 fun y H4 => ipI g x y H4 fun z H5 => rSetL p.1 p.2 z H5 fun H6 => E.nx σ H6) _ hg e3 fun b H1 G1 o g1 rel good1 => ?_
    obtain ⟨o1, o2, eo, ⟨vr, mr, h1, h2, h3, foc⟩, r2⟩ := rel
    obtain ⟨z2, q2⟩ := (R.sh_iff _).mp r2
    subst z2; subst eo
    cases j <;> first | (cases e2; done) | skip
    rename_i j
    have q2 : b.2 = .int j := q2
    dsimp only at e2 foc h3
    split at e2
    · rename_i ds e7
      split at e2
      · rename_i k e8
        split at e2
        · rename_i x e9
          split at e2
          · rename_i y ρ3 e5
            cases e2
            obtain ⟨os1, sl1, s1⟩ := good1.ex
            obtain ⟨a, vs, oc, ew, ha, hl, rl, s2, upd2⟩ := foc.lst (C := os1.flatten ++ C) e7 (s1.re (by walk_at "fle"))
            obtain ⟨vx, ox, restx, k1, k2, k3, k4⟩ := rl.split e9
            have k2 : ox = [] ∧ vx = .int x := k2
            obtain ⟨rfl, rfl⟩ := k2
            refine ⟨a, vs, j, .int x, ew, q2, .inl (.inl ha), atI_of hl e8 k1, ?_⟩
            refine he σ H1 G1 (o1 ++ C) ρ2 _ _ (good1.re (by walk_at "fle")) e5 fun yv H2 G2 oy g2 ry good2 => ?_
            obtain ⟨rfl, rfl⟩ := (show oy = [] ∧ yv = .int y from ry)
            refine ⟨x, y, rfl, rfl, ?_⟩
            obtain ⟨os2, sl2, s3⟩ := good2.ex
            obtain ⟨a', vs', oc', ew', ha', hl', rl', s4, upd4⟩ := (foc.mono g2).lst (C := os2.flatten ++ C) e7 (s3.re (by walk_at "fle"))
            refine ⟨a', vs', j, k, ew', q2, ha', by rw [hl']; exact e8, ?_⟩
            obtain ⟨oc2, rl2, le2⟩ := rl'.setAt (o2 := []) (v2 := .int (g x y)) (d2 := .int (g x y)) k ⟨rfl, rfl⟩
            obtain ⟨o3, r3, s5⟩ := upd4 G2 (upd H2 a' (.lst (vs'.set k (.int (g x y))))) (ds.set k (.int (g x y))) (vs'.set k (.int (g x y))) oc2 (os2.flatten ++ C) (GLe.refl G2) rl2 fun rest s6 => (s6.write (u' := .lst (vs'.set k (.int (g x y))))).re fun P => by
              have := le2 P
              simp only [List.countP_append, List.countP_cons, List.countP_nil] at this ⊢
              omega
            exact hq σ _ G2 (g1.trans g2) (Fix.refl σ) (Good.back (o := o3) ⟨os2, sl2, s5.re (by walk_at "fle")⟩ r3 h1 h2)
          · cases e2
        · cases e2
      · cases e2
    · cases e2
  · subst e2
    exact SndG.pair h hb PR.mono σ H G C ρ (fun p H2 => rIxL K p.1 p.2 H2 fun x H3 => te σ H3 fun y H4 => ipI g x y H4 fun z H5 => rSetL p.1 p.2 z H5 fun H6 => E.nx σ H6) _ hg e3 fun c dx H' G' g' xr good => hq c dx σ H' G' g' (Fix.refl σ) xr good
theorem ds_augSub {op : Operator} {g : Int → Int → Int} {tpos : Pos} (h : DP X K Γ Ek i (.own m) a to f) (hb : DE X K Γ Ek .sh b ti fb) (he : DE X K Γ Ek .sh e te fe) (hp : PIp X op (ipI g))
    (ha : ∀ ov iv new, augStore b ov iv new = (do holding [new, ov, iv] (setItem ov iv new); release [new, ov, iv] []; pure .next) := by intros; rfl) (hK : X.K = K := by rfl) :
    DS X K Γ Ek rm io (.AugAssign (.Subscript a b tpos) op e pos) (tAugS to ti te (rIxL K) (ipI g) rSetL) (mAugS i g f fb fe) := by subst hK; exact ⟨ps_augS h.pe hb.pe get_listI he.pe hp set_list ha, snd_augS h.sn hb.sn he.sn⟩
/-- x += v, ints -/
def mAug (i : Nat) (g : Int → Int → Int) (fe : Mr D) : Mr Fl := fun ρ => match ρ[i]? with
  | some (some (.int x)) => (match fe ρ with
    | some (.ok (.int y) ρ') => some (.ok .nx (ρ'.set i (some (.int (g x y)))))
    | _ => none)
  | _ => none
theorem snd_aug {g : Int → Int → Int} (he : Snd K Γ Ek .sh te fe) (hi : i ∉ io) : SndS K Γ Ek rm io (tAug i te (ipI g)) (mAug i g fe) := by
  intro σ H G C ρ E r hg hf hq
  unfold mAug at hf
  split at hf
  · rename_i x e1
    split at hf
    · rename_i y ρ' e2
      cases hf
      obtain ⟨v, m, o, h1, h2, h3, h4⟩ := hg.take e1
      obtain ⟨rfl, rfl⟩ := (show o = [] ∧ v = .int x from h3)
      refine ⟨.int x, h1, he σ H G C ρ _ _ hg e2 fun yv H2 G2 oy g2 ry good2 => ?_⟩
      obtain ⟨rfl, rfl⟩ := (show oy = [] ∧ yv = .int y from ry)
      exact ⟨x, y, rfl, rfl, hq _ H2 G2 g2 (Fix.set hi) (Good.put (o := []) good2 ⟨rfl, rfl⟩ h2)⟩
    · cases hf
  · cases hf
theorem ds_aug (i : Nat) {x : Str} {op : Operator} {g : Int → Int → Int} {pos' : Pos} (nd : X.N.Nodup) (he : DE X K Γ Ek .sh e te fe) (hp : PIp X op (ipI g)) (hi : X.N[i]? = some x := by rfl) (hx : Loc X.env.scope x := by first | exact Or.inl rfl | exact Or.inr rfl) (hio : i ∉ io := by decide)
    (hf : X.fn x = true ∨ X.env.scope.names.lookup x = some .local := by first | exact .inl rfl | exact .inr rfl) : DS X K Γ Ek rm io (.AugAssign (.Name x pos') op e pos) (tAug i te (ipI g)) (mAug i g fe) := ⟨ps_aug nd hi hx he.pe hp hf, snd_aug he.sn hio⟩

/-! ### x.append(v) -/
def mApp (i : Nat) (f : Mr (D × List Nat)) (fe : Mr (List D)) : Mr D := bnd f fun rp ρ => match getP rp.1 rp.2 with
  | some (.lst ds) => (match fe ρ with
    | some (.ok [d] ρ') => if ds.length < lim then some (.ok .non (ρ'.set i (some (setP rp.1 rp.2 (.lst (ds ++ [d])))))) else none
    | _ => none)
  | _ => none
theorem foc_ty {G H : Hp} {root : D} {mr c : Md} {vr w : V} {o C : Fg} {pth : List Nat} (foc : Foc K G root mr vr o pth w (.own c)) (s : Sat H G (o ++ C)) (ds : List D) (hp : getP root pth = some (.lst ds)) : tyV K "list" w H := by
  obtain ⟨a, vs, oc, ew, ha, _⟩ := foc.lst hp s
  subst ew
  exact .inl ⟨rfl, vs, .inl (.inl ha)⟩
theorem snd_app {tr : TA} {fr : Mr (List D)} (h : SndG K Γ Ek (PR K Γ i (.own m)) to f) (he : SndG K Γ Ek (RA K Γ [.v m]) tr fr) : Snd K Γ Ek c (tBM K "list" rAppend to tr) (mApp i f fr) := by
  intro σ H G C ρ Q r hg hf hq
  unfold mApp at hf
  rcases bnd_inv hf with ⟨⟨root, pth⟩, ρ1, e4, e2⟩ | ⟨x, ρ1, e4, e2⟩
  · dsimp only at e2
    split at e2
    · rename_i ds e8
      split at e2
      · rename_i d ρ2 e6
        split at e2
        · rename_i hlim
          cases e2
          refine h σ H G C ρ _ _ hg e4 fun w H1 G1 o1 g1 rel good1 => ?_
          obtain ⟨vr, mr, h1, h2, h3, foc⟩ := rel
          refine ⟨foc_ty foc good1.sat ds e8, ?_⟩
          refine he σ H1 G1 (o1 ++ C) ρ1 _ _ good1 e6 fun vs1 H2 G2 oy g2 ry good2 => ?_
          obtain ⟨d', dr, y, vr', o3, o4, z1, z2, z3, ry, z4, z5, z6⟩ := ry
          cases z1
          subst z5; subst z2; subst z6; subst z3
          obtain ⟨os2, sl2, s3⟩ := good2.ex
          obtain ⟨a, vs, oc, ew, ha, hl, rl, s4, upd4⟩ := (foc.mono g2).lst (C := os2.flatten ++ (o3 ++ C)) e8 (s3.re (by walk_at "fle"))
          refine ⟨a, vs, y, ew, rfl, ha, by rw [hl, ← lim_eq]; exact hlim, ?_⟩
          obtain ⟨o5, r5, s5⟩ := upd4 G2 (upd H2 a (.lst (vs ++ [y]))) (ds ++ [d]) (vs ++ [y]) (oc ++ (o3 ++ [])) (os2.flatten ++ C) (GLe.refl G2) (RL.append rl ⟨y, [], o3, [], rfl, rfl, ry, rfl, rfl⟩) fun rest s6 => (s6.write (u' := .lst (vs ++ [y]))).re (by walk_at "fle")
          exact hq .non _ G2 [] (g1.trans g2) ⟨rfl, rfl⟩ (Good.back (o := o5) ⟨os2, sl2, s5.re (by walk_at "fle")⟩ r5 h1 h2)
        · cases e2
      · cases e2
    · cases e2
  · subst e2
    exact h σ H G C ρ _ _ hg e4 fun c dx H' G' g' xr good => hq c dx H' G' g' xr good
theorem de_app {apos cpos : Pos} {tr : TA} {fr : Mr (List D)} (h : DP X K Γ Ek i (.own m) a to f) (he : DA X K Γ Ek [.v m] [e] tr fr) (hbase : attributeBase a "append" X.env (eval a X.env) = eval a X.env := by rfl)
    (hfew : ((backTo cpos (starEach [e] X.env)).all (fun x => !x.1) && (backToKw cpos (keywordEach [] X.env)).all (fun x => x.1.isSome) && decide ([e].length + ([] : List Keyword).length + (if ([] : List Keyword).isEmpty then 0 else 1) < 30)) = true := by rfl)
    (hline : (apos.endLine == cpos.line) = true := by rfl) (hs : starEach [e] X.env = (false, eval e X.env) :: starEach [] X.env := by rfl) (hplain : (backTo cpos (starEach [] X.env)).any (·.1) = false := by rfl) (hK : X.K = K := by rfl) :
    DE X K Γ Ek c (.Call (.Attribute a "append" apos) [e] [] cpos) (tBM K "list" rAppend to tr) (mApp i f fr) := by subst hK; exact ⟨pe_bm PySem.F.plainAttrs_list PySem.F.slot_list_append PySem.F.type_list_append mt_append h.pe he.pa hbase hfew hline hs hplain, snd_app h.sn he.sn⟩

/-! ### x.pop(), x.pop(k) -/
theorem RL.drop_at : ∀ {ds : List D} {c : Md} {vs : List V} {o : Fg} {k : Nat} {d : D}, RL K G ds c vs o → ds[k]? = some d → ∃ (v : V) (o' rest : Fg), vs[k]? = some v ∧ R K G d c v o' ∧ RL K G (ds.eraseIdx k) c (vs.eraseIdx k) rest ∧ ∀ P, o.countP P = o'.countP P + rest.countP P
  | [], _, _, _, _, _, _, h => by simp at h
  | d :: ds, c, _, _, 0, d', ⟨v, r, o1, o2, e, e2, q, t⟩, h => by
    simp at h; subst h; subst e; subst e2
    exact ⟨v, o1, o2, rfl, q, t, fun P => List.countP_append⟩
  | d :: ds, c, _, _, k + 1, d', ⟨v, r, o1, o2, e, e2, q, t⟩, h => by
    subst e; subst e2
    obtain ⟨v', o', rest, h1, h2, h3, h4⟩ := RL.drop_at (k := k) t (by simpa using h)
    exact ⟨v', o', o1 ++ rest, by simpa using h1, h2, ⟨v, r.eraseIdx k, o1, rest, rfl, rfl, q, h3⟩, fun P => by have := h4 P; simp only [List.countP_append]; omega⟩
/-- the place that pop takes -/
def popIx (n : Nat) : List D → Option Nat
  | [] => if n = 0 then none else some (n - 1)
  | [.int j] => if ok62 j = true then ixN n j else none
  | _ => none
def mPop (i : Nat) (f : Mr (D × List Nat)) (fe : Mr (List D)) : Mr D := bnd f fun rp ρ => match getP rp.1 rp.2 with
  | some (.lst ds) => (match fe ρ with
    | some (.ok as ρ') => (match popIx ds.length as with
      | some k => (match ds[k]? with
        | some d => some (.ok d (ρ'.set i (some (setP rp.1 rp.2 (.lst (ds.eraseIdx k))))))
        | none => none)
      | none => none)
    | _ => none)
  | _ => none
def rPopA : V → List V → Hp → VK → Prop := fun x vs H Q => rPop x vs H Q ∨ rPopAt x vs H Q
theorem mt_popA {X : Cx} : MtM X "list.pop" rPopA := by
  intro pins s σ H x vs v us Q I rx rv h
  rcases h with h | h
  · exact mt_pop pins s σ H x vs v us Q I rx rv h
  · exact mt_popAt pins s σ H x vs v us Q I rx rv h
theorem snd_pop {ks : List AK} {tr : TA} {fr : Mr (List D)} (h : SndG K Γ Ek (PR K Γ i (.own m)) to f) (he : SndG K Γ Ek (RA K Γ ks) tr fr) (hk : ∀ k ∈ ks, isV .sh k) : Snd K Γ Ek m (tBM K "list" rPopA to tr) (mPop i f fr) := by
  intro σ H G C ρ Q r hg hf hq
  unfold mPop at hf
  rcases bnd_inv hf with ⟨⟨root, pth⟩, ρ1, e4, e2⟩ | ⟨x, ρ1, e4, e2⟩
  · dsimp only at e2
    split at e2
    · rename_i ds0 e8
      split at e2
      · rename_i as ρ2 e6
        split at e2
        · rename_i k e9
          split at e2
          · rename_i d e10
            cases e2
            refine h σ H G C ρ _ _ hg e4 fun w H1 G1 o1 g1 rel good1 => ?_
            obtain ⟨vr, mr, h1, h2, h3, foc⟩ := rel
            refine ⟨foc_ty foc good1.sat ds0 e8, ?_⟩
            refine he σ H1 G1 (o1 ++ C) ρ1 _ _ good1 e6 fun vs1 H2 G2 oy g2 ry good2 => ?_
            obtain ⟨z, qy⟩ := ra_sh ry hk
            subst z
            obtain ⟨os2, sl2, s3⟩ := good2.ex
            obtain ⟨a, vs, oc, ew, ha, hl, rl, s4, upd4⟩ := (foc.mono g2).lst (C := os2.flatten ++ C) e8 (s3.re (by walk_at "fle"))
            obtain ⟨v, ov, rest, k1, k2, k3, k4⟩ := rl.drop_at e10
            obtain ⟨o5, r5, s5⟩ := upd4 G2 (upd H2 a (.lst (vs.eraseIdx k))) (ds0.eraseIdx k) (vs.eraseIdx k) rest (ov ++ (os2.flatten ++ C)) (GLe.refl G2) k3 fun rest' s6 => (s6.write (u' := .lst (vs.eraseIdx k))).re fun P => by
              have := k4 P
              simp only [List.countP_append, List.countP_cons] at this ⊢
              omega
            have fin : Q v (upd H2 a (.lst (vs.eraseIdx k))) := hq v _ G2 ov (g1.trans g2) k2 (Good.back (o := o5) ⟨os2, sl2, s5.re (by walk_at "fle")⟩ r5 h1 h2)
            have hkl : k < ds0.length := (List.getElem?_eq_some_iff.mp e10).1
            unfold popIx at e9
            split at e9
            · split at e9
              · cases e9
              · cases e9
                refine .inl ⟨a, vs, v, ew, show vs1 = [] from qy, ha, by rw [hl]; exact k1, ?_⟩
                have ee : vs.eraseIdx (ds0.length - 1) = vs.dropLast := by
                  rw [← hl, List.eraseIdx_eq_dropLast]
                  omega
                rw [← ee]; exact fin
            · rename_i j
              split at e9
              · rename_i h62
                obtain ⟨b1, b2⟩ := ok62_mp h62
                obtain ⟨u1, u2, u3, u4⟩ := ixN_seq e9
                exact .inr ⟨a, vs, j, k, v, ew, shl1 qy, ha, by omega, by omega, by rw [hl]; exact u1, k1, fin⟩
              · cases e9
            · cases e9
          · cases e2
        · cases e2
      · cases e2
    · cases e2
  · subst e2
    exact h σ H G C ρ _ _ hg e4 fun c dx H' G' g' xr good => hq c dx H' G' g' xr good
theorem de_pop {apos cpos : Pos} {es : List PySem.Expr} {ks : List AK} {tr : TA} {fr : Mr (List D)} (h : DP X K Γ Ek i (.own m) a to f) (he : DA X K Γ Ek ks (e :: es) tr fr) (hk : ks = List.replicate (es.length + 1) (.v .sh) := by rfl) (hbase : attributeBase a "pop" X.env (eval a X.env) = eval a X.env := by rfl)
    (hfew : ((backTo cpos (starEach (e :: es) X.env)).all (fun x => !x.1) && (backToKw cpos (keywordEach [] X.env)).all (fun x => x.1.isSome) && decide ((e :: es).length + ([] : List Keyword).length + (if ([] : List Keyword).isEmpty then 0 else 1) < 30)) = true := by rfl)
    (hline : (apos.endLine == cpos.line) = true := by rfl) (hs : starEach (e :: es) X.env = (false, eval e X.env) :: starEach es X.env := by rfl) (hplain : (backTo cpos (starEach es X.env)).any (·.1) = false := by rfl) (hK : X.K = K := by rfl) :
    DE X K Γ Ek m (.Call (.Attribute a "pop" apos) (e :: es) [] cpos) (tBM K "list" rPopA to tr) (mPop i f fr) := by subst hK; exact ⟨pe_bm PySem.F.plainAttrs_list PySem.F.slot_list_pop PySem.F.type_list_pop mt_popA h.pe he.pa hbase hfew hline hs hplain, snd_pop h.sn he.sn (isV_rep hk)⟩
theorem de_pop0 {apos cpos : Pos} (h : DP X K Γ Ek i (.own m) a to f) (hbase : attributeBase a "pop" X.env (eval a X.env) = eval a X.env := by rfl) (hline : (apos.endLine == cpos.line) = true := by rfl) (hK : X.K = K := by rfl) :
    DE X K Γ Ek m (.Call (.Attribute a "pop" apos) [] [] cpos) (tBM0 K "list" rPopA to) (mPop i f mNil) := by subst hK; exact ⟨pe_bm0 PySem.F.plainAttrs_list PySem.F.slot_list_pop PySem.F.type_list_pop mt_popA h.pe hbase hline, snd_pop (tr := tNil) (ks := []) h.sn (da_nil (X := X)).sn (by simp)⟩

/-! ### reading an owned thing as a whole: len, truth, == -/
def mLen (i : Nat) (f : Mr (D × List Nat)) : Mr D := bnd f fun rp ρ => match getP rp.1 rp.2 with
  | some d => (match anyItems d with
    | some ds => some (.ok (.int ds.length) (ρ.set i (some rp.1)))
    | none => none)
  | none => none
theorem snd_len {r : List V → Hp → VK → Prop} (h : SndG K Γ Ek (PR K Γ i m) to f) (hr : ∀ w H Q n, LenV K w H n → Q (.int (n : Nat)) H → r [w] H Q) : Snd K Γ Ek c (tCB r (tCons to tNil)) (mLen i f) := by
  intro σ H G C ρ Q r' hg hf hq
  rcases bnd_inv hf with ⟨⟨root, pth⟩, ρ1, e4, e2⟩ | ⟨x, ρ1, e4, e2⟩
  · refine h σ H G C ρ _ _ hg e4 fun w H1 G1 o1 g1 rel good1 => ?_
    obtain ⟨vr, mr, h1, h2, h3, foc⟩ := rel
    obtain ⟨d', o', rest, f1, f2, f3, f4⟩ := id foc
    have s := good1.sat
    dsimp only at e2 f1 h3 foc
    rw [f1] at e2
    have fin : ∀ n : Nat, r' = .ok (.int n) (ρ1.set i (some root)) → Q (.int n) H1 := fun n e => by
      subst e
      exact hq (.int n) H1 G1 [] g1 ⟨rfl, rfl⟩ (Good.back good1 h3 h1 h2)
    dsimp only at e2
    split at e2
    · rename_i ds e5
      cases e2
      refine hr w H1 Q ds.length ?_ (fin _ rfl)
      have shc : shItems d' = some ds → LenV K w H1 ds.length := fun hs => by
        obtain ⟨z, a, vs, e, ew, hq', r, _⟩ := shItems_of hs f2
        subst ew
        rcases hq' with hq' | hq'
        · exact .inl ⟨vs, s.le.sqL hq', r.len.symm⟩
        · exact .inr ⟨vs, s.le.sqTT hq', r.len.symm⟩
      unfold anyItems at e5
      split at e5
      · cases e5
        cases m with
        | sh =>
          obtain ⟨z, a, vs, ew, e5, r⟩ := f2
          subst ew
          exact .inl ⟨vs, .inl (.inl (s.le _ _ e5)), r.len.symm⟩
        | own c =>
          obtain ⟨a, vs, oc, ew, ha, hl, rl, _⟩ := foc.lst f1 s
          subst ew
          exact .inl ⟨vs, .inl (.inl ha), hl.symm⟩
      · cases e5
        cases m with
        | sh =>
          obtain ⟨z, a, vs, ew, e5, r⟩ := f2
          subst ew
          exact .inr ⟨vs, s.le.sqT e5, r.len.symm⟩
        | own c =>
          obtain ⟨a, vs, ew, e5, r⟩ := f2
          subst ew
          exact .inr ⟨vs, s.le.sqT e5, r.len.symm⟩
      · exact shc e5
    · cases e2
  · subst e2
    exact h σ H G C ρ _ _ hg e4 fun c dx H' G' g xr good => hq c dx H' G' g xr good
theorem de_lenP {p : Pos} (hm : X.mg "len" = none) (h : DP X K Γ Ek i m a to f) (hg : Gl X "len" := by rfl) (he : starEach [a] X.env = (false, eval a X.env) :: starEach [] X.env := by rfl) (hpl : (backTo pos (starEach [] X.env)).any (·.1) = false := by rfl) (hK : X.K = K := by rfl) :
    DE X K Γ Ek c (.Call (.Name "len" p) [a] [] pos) (tCB (fun xs H Q => ∃ x n, xs = [x] ∧ LenV K x H n ∧ Q (.int n) H) (tCons to tNil)) (mLen i f) := by subst hK; exact ⟨pe_callB call_len hg hm boot_len (pa_cons h.pe pa_nil he) (by decide) (by decide) he hpl, snd_len h.sn fun w H Q n hl q => ⟨w, n, rfl, hl, q⟩⟩
end
end Dl
/-! Dl, eleventh part: built-in functions. -/
namespace Dl
open PySem L2
local macro_rules | `(tactic| walk_at "fle") => `(tactic| (intro P; simp only [List.countP_append, List.countP_cons, List.countP_nil, List.append_nil, List.nil_append]; first | omega | (split <;> omega)))
section
variable {K : PySem.W.Frag} {X : Cx} {m : Md} {G H : Hp}
theorem shl_one {d : D} {vs : List V} (h : ShL K G [d] vs) : ∃ v, vs = [v] ∧ Sh K G d v := by
  obtain ⟨v, r, e, q, t⟩ := h
  exact ⟨v, by rw [e, show r = [] from t], q⟩
theorem shl_two {d e : D} {vs : List V} (h : ShL K G [d, e] vs) : ∃ v w, vs = [v, w] ∧ Sh K G d v ∧ Sh K G e w := by
  obtain ⟨v, r, e, q, t⟩ := h
  obtain ⟨w, e2, q2⟩ := shl_one t
  exact ⟨v, w, by rw [e, e2], q, q2⟩
/-- all intsD -/
def intsD : List D → Option (List Int)
  | [] => some []
  | .int i :: r => (intsD r).map (i :: ·)
  | _ => none
theorem intsD_of : ∀ {ds : List D} {ns : List Int} {vs : List V}, intsD ds = some ns → ShL K G ds vs → vs = ns.map V.int
  | [], _, _, h, e => by cases h; exact e
  | d :: ds, ns, vs, h, ⟨v, r, e, q, t⟩ => by
    cases d <;> first | (cases h; done) | skip
    rename_i i
    obtain ⟨ms, h1, h2⟩ := Option.map_eq_some_iff.mp h
    subst h2; subst e
    rw [intsD_of h1 t, show v = .int i from q]; rfl
def boolsD : List D → Option (List Bool)
  | [] => some []
  | .bl i :: r => (boolsD r).map (i :: ·)
  | _ => none
theorem boolsD_of : ∀ {ds : List D} {ns : List Bool} {vs : List V}, boolsD ds = some ns → ShL K G ds vs → vs = ns.map V.bl
  | [], _, _, h, e => by cases h; exact e
  | d :: ds, ns, vs, h, ⟨v, r, e, q, t⟩ => by
    cases d <;> first | (cases h; done) | skip
    rename_i i
    obtain ⟨ms, h1, h2⟩ := Option.map_eq_some_iff.mp h
    subst h2; subst e
    rw [boolsD_of h1 t, show v = .bl i from q]; rfl

def bLen : List D → Option D
  | [.lst xs] => some (.int xs.length)
  | [.frl xs] => some (.int xs.length)
  | [.tup xs] => some (.int xs.length)
  | [.str x] => if x.length ≤ lim then some (.int x.length) else none
  | [.dK ks _] => some (.int ks.length)
  | _ => none
def rLenA (K : PySem.W.Frag) : List V → Hp → VK → Prop := fun xs H Q => (∃ x n, xs = [x] ∧ LenV K x H n ∧ Q (.int (n : Nat)) H) ∨ ∃ a kvs, xs = [V.ref a] ∧ H a = some (.dK kvs) ∧ Q (.int (kvs.length : Nat)) H
theorem b_len (hK : X.K = K := by rfl) : CallR X (.builtin "len") (rLenA K) ∧ VOpL K m (rLenA K) bLen := by subst hK; exact ⟨call_len.or call_lenD, by
  intro G H C vs ds d Q hx s hg hq
  unfold bLen at hg
  split at hg
  · cases hg
    obtain ⟨v, e, a, us, e1, e2, r⟩ := shl_one hx
    subst e; subst e1
    exact .inl ⟨_, us.length, rfl, .inl ⟨us, .inl (.inl (s.le _ _ e2)), rfl⟩, hq _ H G [] (GLe.refl G) ⟨rfl, by rw [r.len]⟩ s⟩
  · cases hg
    obtain ⟨v, e, a, us, e1, e2, r⟩ := shl_one hx
    subst e; subst e1
    exact .inl ⟨_, us.length, rfl, .inl ⟨us, s.le.sqL e2, rfl⟩, hq _ H G [] (GLe.refl G) ⟨rfl, by rw [r.len]⟩ s⟩
  · cases hg
    obtain ⟨v, e, a, us, e1, e2, r⟩ := shl_one hx
    subst e; subst e1
    exact .inl ⟨_, us.length, rfl, .inr ⟨us, s.le.sqT e2, rfl⟩, hq _ H G [] (GLe.refl G) ⟨rfl, by rw [r.len]⟩ s⟩
  · split at hg
    · rename_i x hl
      cases hg
      obtain ⟨v, e, q⟩ := shl_one hx
      subst e
      exact .inl ⟨v, x.length, rfl, by rw [show v = .str x from q]; exact ⟨by rw [← lim_eq]; exact hl, rfl⟩, hq _ H G [] (GLe.refl G) ⟨rfl, rfl⟩ s⟩
    · cases hg
  · rename_i ks xs
    cases hg
    obtain ⟨v, e, a, us, e1, e2, l, r⟩ := shl_one hx
    subst e; subst e1
    exact .inr ⟨a, ks.zip us, rfl, s.le _ _ e2, hq _ H G [] (GLe.refl G) ⟨rfl, by rw [List.length_zip, l, Nat.min_self]⟩ s⟩
  · cases hg⟩
def bAbs : List D → Option D
  | [.int i] => some (.int (if i < 0 then -i else i))
  | _ => none
theorem b_abs : CallR X (.builtin "abs") (fun xs H Q => ∃ i, xs = [.int i] ∧ Q (.int (if i < 0 then -i else i)) H) ∧ VOpL K m (fun xs H Q => ∃ i, xs = [.int i] ∧ Q (.int (if i < 0 then -i else i)) H) bAbs := ⟨call_abs, by
  intro G H C vs ds d Q hx s hg hq
  unfold bAbs at hg
  split at hg
  · cases hg
    exact ⟨_, shl1 hx, hq _ H G [] (GLe.refl G) ⟨rfl, rfl⟩ s⟩
  · cases hg⟩
def maxI (ns : List Int) : Option Int := match ns with
  | [] => none
  | n :: r => some (r.foldl (fun a b => if b > a then b else a) n)
def minI (ns : List Int) : Option Int := match ns with
  | [] => none
  | n :: r => some (r.foldl (fun a b => if b < a then b else a) n)
theorem maxI_spec {ns : List Int} {m : Int} (h : maxI ns = some m) : m ∈ ns ∧ ∀ y ∈ ns, y ≤ m := by
  cases ns with
  | nil => cases h
  | cons n r =>
    cases h
    have key : ∀ (r : List Int) (n : Int), (r.foldl (fun a b => if b > a then b else a) n = n ∨ r.foldl (fun a b => if b > a then b else a) n ∈ r) ∧ n ≤ r.foldl (fun a b => if b > a then b else a) n ∧ ∀ y ∈ r, y ≤ r.foldl (fun a b => if b > a then b else a) n := by
      intro r
      induction r with
      | nil => intro n; exact ⟨.inl rfl, Int.le_refl n, fun y hy => nomatch hy⟩
      | cons b r ih =>
        intro n
        rw [List.foldl_cons]
        obtain ⟨h1, h2, h3⟩ := ih (if b > n then b else n)
        refine ⟨?_, ?_, fun y hy => ?_⟩
        · rcases h1 with h1 | h1
          · rw [h1]; split
            · exact .inr List.mem_cons_self
            · exact .inl rfl
          · exact .inr (List.mem_cons_of_mem _ h1)
        · refine Int.le_trans ?_ h2
          split <;> omega
        · rcases List.mem_cons.mp hy with e | hy
          · subst e; refine Int.le_trans ?_ h2; split <;> omega
          · exact h3 y hy
    obtain ⟨h1, h2, h3⟩ := key r n
    refine ⟨?_, fun y hy => ?_⟩
    · rcases h1 with h1 | h1
      · rw [h1]; exact List.mem_cons_self
      · exact List.mem_cons_of_mem _ h1
    · rcases List.mem_cons.mp hy with e | hy
      · rw [e]; exact h2
      · exact h3 y hy
theorem minI_spec {ns : List Int} {m : Int} (h : minI ns = some m) : m ∈ ns ∧ ∀ y ∈ ns, m ≤ y := by
  cases ns with
  | nil => cases h
  | cons n r =>
    cases h
    have key : ∀ (r : List Int) (n : Int), (r.foldl (fun a b => if b < a then b else a) n = n ∨ r.foldl (fun a b => if b < a then b else a) n ∈ r) ∧ r.foldl (fun a b => if b < a then b else a) n ≤ n ∧ ∀ y ∈ r, r.foldl (fun a b => if b < a then b else a) n ≤ y := by
      intro r
      induction r with
      | nil => intro n; exact ⟨.inl rfl, Int.le_refl n, fun y hy => nomatch hy⟩
      | cons b r ih =>
        intro n
        rw [List.foldl_cons]
        obtain ⟨h1, h2, h3⟩ := ih (if b < n then b else n)
        refine ⟨?_, ?_, fun y hy => ?_⟩
        · rcases h1 with h1 | h1
          · rw [h1]; split
            · exact .inr List.mem_cons_self
            · exact .inl rfl
          · exact .inr (List.mem_cons_of_mem _ h1)
        · refine Int.le_trans h2 ?_
          split <;> omega
        · rcases List.mem_cons.mp hy with e | hy
          · subst e; refine Int.le_trans h2 ?_; split <;> omega
          · exact h3 y hy
    obtain ⟨h1, h2, h3⟩ := key r n
    refine ⟨?_, fun y hy => ?_⟩
    · rcases h1 with h1 | h1
      · rw [h1]; exact List.mem_cons_self
      · exact List.mem_cons_of_mem _ h1
    · rcases List.mem_cons.mp hy with e | hy
      · rw [e]; exact h2
      · exact h3 y hy
def seqOf : D → Option (List D)
  | .lst xs => some xs
  | .frl xs => some xs
  | .tup xs => some xs
  | _ => none
def bMax : List D → Option D
  | [.int i, .int j] => some (.int (if j > i then j else i))
  | [d] => (dSeqL d).bind fun xs => (intsD xs).bind fun ns => (maxI ns).map .int
  | _ => none
def bMin : List D → Option D
  | [.int i, .int j] => some (.int (if j < i then j else i))
  | [d] => (dSeqL d).bind fun xs => (intsD xs).bind fun ns => (minI ns).map .int
  | _ => none
def rMaxA (K : PySem.W.Frag) : List V → Hp → VK → Prop := fun xs H Q => (∃ i j, xs = [.int i, .int j] ∧ Q (.int (if j > i then j else i)) H) ∨ rMax K xs H Q
def rMinA (K : PySem.W.Frag) : List V → Hp → VK → Prop := fun xs H Q => (∃ i j, xs = [.int i, .int j] ∧ Q (.int (if j < i then j else i)) H) ∨ rMin K xs H Q
theorem b_max (hc : X.calm = true) (hK : X.K = K := by rfl) : CallR X (.builtin "max") (rMaxA K) ∧ VOpL K m (rMaxA K) bMax := by subst hK; exact ⟨(call_max2 hc).or (cr_max hc), by
  intro G H C vs ds d Q hx s hg hq
  unfold bMax at hg
  split at hg
  · cases hg
    exact .inl ⟨_, _, shl2 hx, hq _ H G [] (GLe.refl G) ⟨rfl, rfl⟩ s⟩
  · rename_i d0
    obtain ⟨xs, e1, hg⟩ := Option.bind_eq_some_iff.mp hg
    obtain ⟨ns, e2, hg⟩ := Option.bind_eq_some_iff.mp hg
    obtain ⟨mm, e3, e4⟩ := Option.map_eq_some_iff.mp hg
    subst e4
    obtain ⟨v, e, q⟩ := shl_one hx
    obtain ⟨a, us, e5, e6, r⟩ := dSeqL_of (H := H) e1 q
    have e7 := intsD_of e2 r
    subst e; subst e5; subst e7
    obtain ⟨h1, h2⟩ := maxI_spec e3
    refine .inr ⟨a, ns, rfl, s.le.sqL e6, List.length_pos_of_mem h1, fun m' hm hle => ?_⟩
    have : m' = mm := Int.le_antisymm (h2 m' hm) (hle mm h1)
    subst this
    exact hq _ H G [] (GLe.refl G) ⟨rfl, rfl⟩ s
  · cases hg⟩
theorem b_min (hc : X.calm = true) (hK : X.K = K := by rfl) : CallR X (.builtin "min") (rMinA K) ∧ VOpL K m (rMinA K) bMin := by subst hK; exact ⟨(call_min2 hc).or (cr_min hc), by
  intro G H C vs ds d Q hx s hg hq
  unfold bMin at hg
  split at hg
  · cases hg
    exact .inl ⟨_, _, shl2 hx, hq _ H G [] (GLe.refl G) ⟨rfl, rfl⟩ s⟩
  · rename_i d0
    obtain ⟨xs, e1, hg⟩ := Option.bind_eq_some_iff.mp hg
    obtain ⟨ns, e2, hg⟩ := Option.bind_eq_some_iff.mp hg
    obtain ⟨mm, e3, e4⟩ := Option.map_eq_some_iff.mp hg
    subst e4
    obtain ⟨v, e, q⟩ := shl_one hx
    obtain ⟨a, us, e5, e6, r⟩ := dSeqL_of (H := H) e1 q
    have e7 := intsD_of e2 r
    subst e; subst e5; subst e7
    obtain ⟨h1, h2⟩ := minI_spec e3
    refine .inr ⟨a, ns, rfl, s.le.sqL e6, List.length_pos_of_mem h1, fun m' hm hle => ?_⟩
    have : m' = mm := Int.le_antisymm (hle mm h1) (h2 m' hm)
    subst this
    exact hq _ H G [] (GLe.refl G) ⟨rfl, rfl⟩ s
  · cases hg⟩
def bInt : List D → Option D
  | [.int i] => some (.int i)
  | [.bl k] => some (.int (if k then 1 else 0))
  | _ => none
theorem b_int : CallR X (.type "int") (fun xs H Q => (∃ i, xs = [.int i] ∧ Q (.int i) H) ∨ ∃ k, xs = [.bl k] ∧ Q (.int (if k then 1 else 0)) H) ∧ VOpL K m (fun xs H Q => (∃ i, xs = [.int i] ∧ Q (.int i) H) ∨ ∃ k, xs = [.bl k] ∧ Q (.int (if k then 1 else 0)) H) bInt := ⟨call_int1, by
  intro G H C vs ds d Q hx s hg hq
  unfold bInt at hg
  split at hg
  · cases hg
    exact .inl ⟨_, shl1 hx, hq _ H G [] (GLe.refl G) ⟨rfl, rfl⟩ s⟩
  · cases hg
    obtain ⟨v, e, q⟩ := shl_one hx
    exact .inr ⟨_, by rw [e, show v = .bl _ from q], hq _ H G [] (GLe.refl G) ⟨rfl, rfl⟩ s⟩
  · cases hg⟩
def bList : List D → Option D
  | [.lst xs] => some (.lst xs)
  | [.frl xs] => some (.lst xs)
  | [.tup xs] => some (.lst xs)
  | _ => none
theorem b_list (hK : X.K = K := by rfl) : CallR X (.type "list") (fun xs H Q => ∃ p ys, xs = [.ref p] ∧ (SqL K H p ys ∨ SqT K H p ys) ∧ ∀ l, H l = none → Q (.ref l) (upd H l (.lst ys))) ∧ VOpL K (.own .sh) (fun xs H Q => ∃ p ys, xs = [.ref p] ∧ (SqL K H p ys ∨ SqT K H p ys) ∧ ∀ l, H l = none → Q (.ref l) (upd H l (.lst ys))) bList := by subst hK; exact ⟨call_list_of, by
  intro G H C vs ds d Q hx s hg hq
  unfold bList at hg
  split at hg
  · cases hg
    obtain ⟨v, e, a, us, e1, e2, r⟩ := shl_one hx
    subst e; subst e1
    exact ⟨a, us, rfl, .inl (.inl (.inl (s.le _ _ e2))), fun l hl => hq _ _ G _ (GLe.refl G) ⟨l, us, [], rfl, rfl, (RL.sh_iff _).mpr ⟨rfl, r⟩⟩ (s.newO hl)⟩
  · cases hg
    obtain ⟨v, e, a, us, e1, e2, r⟩ := shl_one hx
    subst e; subst e1
    exact ⟨a, us, rfl, .inl (s.le.sqL e2), fun l hl => hq _ _ G _ (GLe.refl G) ⟨l, us, [], rfl, rfl, (RL.sh_iff _).mpr ⟨rfl, r⟩⟩ (s.newO hl)⟩
  · cases hg
    obtain ⟨v, e, a, us, e1, e2, r⟩ := shl_one hx
    subst e; subst e1
    exact ⟨a, us, rfl, .inr (s.le.sqT e2), fun l hl => hq _ _ G _ (GLe.refl G) ⟨l, us, [], rfl, rfl, (RL.sh_iff _).mpr ⟨rfl, r⟩⟩ (s.newO hl)⟩
  · cases hg⟩
def bTuple : List D → Option D
  | [.lst xs] => some (.tup xs)
  | [.frl xs] => some (.tup xs)
  | [.tup xs] => some (.tup xs)
  | _ => none
def rTupA (K : PySem.W.Frag) : List V → Hp → VK → Prop := fun xs H Q => ∃ p ys, xs = [.ref p] ∧ ((SqL K H p ys ∧ ∀ l, H l = none → Q (.ref l) (upd H l (.tup ys))) ∨ (SqT K H p ys ∧ Q (.ref p) H))
theorem b_tuple (hK : X.K = K := by rfl) : CallR X (.type "tuple") (rTupA K) ∧ VOpL K (.own .sh) (rTupA K) bTuple := by subst hK; exact ⟨call_tuple_of, by
  intro G H C vs ds d Q hx s hg hq
  have new : ∀ (us : List V) (xs : List D) l, ShL X.K G xs us → H l = none → (∀ v H' G' o', GLe G G' → R X.K G' (.tup xs) (.own .sh) v o' → Sat H' G' (o' ++ C) → Q v H') → Q (.ref l) (upd H l (.tup us)) := fun us xs l r hl hq => by
    obtain ⟨s', g'⟩ := s.newG (u := .tup us) hl
    exact hq _ _ _ [] g' ⟨l, us, rfl, upd_same, (RL.sh_iff _).mpr ⟨rfl, ShL.mono g' _ r⟩⟩ s'
  unfold bTuple at hg
  split at hg
  · cases hg
    obtain ⟨v, e, a, us, e1, e2, r⟩ := shl_one hx
    subst e; subst e1
    exact ⟨a, us, rfl, .inl ⟨.inl (.inl (s.le _ _ e2)), fun l hl => new us _ l r hl hq⟩⟩
  · cases hg
    obtain ⟨v, e, a, us, e1, e2, r⟩ := shl_one hx
    subst e; subst e1
    exact ⟨a, us, rfl, .inl ⟨s.le.sqL e2, fun l hl => new us _ l r hl hq⟩⟩
  · cases hg
    obtain ⟨v, e, a, us, e1, e2, r⟩ := shl_one hx
    subst e; subst e1
    exact ⟨a, us, rfl, .inr ⟨s.le.sqT e2, hq _ H G [] (GLe.refl G) ⟨a, us, rfl, e2, (RL.sh_iff _).mpr ⟨rfl, r⟩⟩ s⟩⟩
  · cases hg⟩
def bSum : List D → Option D
  | [d] => (dSeqL d).bind fun xs => (intsD xs).map fun ns => D.int ns.sum
  | _ => none
theorem b_sum (hc : X.calm = true) (hK : X.K = K := by rfl) : CallR X (.builtin "sum") (rSum K) ∧ VOpL K m (rSum K) bSum := by subst hK; exact ⟨cr_sum hc, by
  intro G H C vs ds d Q hx s hg hq
  unfold bSum at hg
  split at hg
  · obtain ⟨xs, e1, hg⟩ := Option.bind_eq_some_iff.mp hg
    obtain ⟨ns, e2, e3⟩ := Option.map_eq_some_iff.mp hg
    subst e3
    obtain ⟨v, e, q⟩ := shl_one hx
    obtain ⟨a, us, e5, e6, r⟩ := dSeqL_of (H := H) e1 q
    have e7 := intsD_of e2 r
    subst e; subst e5; subst e7
    exact ⟨a, ns, rfl, s.le.sqL e6, hq _ H G [] (GLe.refl G) ⟨rfl, rfl⟩ s⟩
  · cases hg⟩
def bAny : List D → Option D
  | [d] => (dSeqL d).bind fun xs => (boolsD xs).map fun ns => D.bl (ns.any id)
  | _ => none
def bAll : List D → Option D
  | [d] => (dSeqL d).bind fun xs => (boolsD xs).map fun ns => D.bl (ns.all id)
  | _ => none
theorem b_any (hc : X.calm = true) (hK : X.K = K := by rfl) : CallR X (.builtin "any") (rAny K) ∧ VOpL K m (rAny K) bAny := by subst hK; exact ⟨cr_any hc, by
  intro G H C vs ds d Q hx s hg hq
  unfold bAny at hg
  split at hg
  · obtain ⟨xs, e1, hg⟩ := Option.bind_eq_some_iff.mp hg
    obtain ⟨ns, e2, e3⟩ := Option.map_eq_some_iff.mp hg
    subst e3
    obtain ⟨v, e, q⟩ := shl_one hx
    obtain ⟨a, us, e5, e6, r⟩ := dSeqL_of (H := H) e1 q
    have e7 := boolsD_of e2 r
    subst e; subst e5; subst e7
    exact ⟨a, ns, rfl, s.le.sqL e6, hq _ H G [] (GLe.refl G) ⟨rfl, rfl⟩ s⟩
  · cases hg⟩
theorem b_all (hc : X.calm = true) (hK : X.K = K := by rfl) : CallR X (.builtin "all") (rAll K) ∧ VOpL K m (rAll K) bAll := by subst hK; exact ⟨cr_all hc, by
  intro G H C vs ds d Q hx s hg hq
  unfold bAll at hg
  split at hg
  · obtain ⟨xs, e1, hg⟩ := Option.bind_eq_some_iff.mp hg
    obtain ⟨ns, e2, e3⟩ := Option.map_eq_some_iff.mp hg
    subst e3
    obtain ⟨v, e, q⟩ := shl_one hx
    obtain ⟨a, us, e5, e6, r⟩ := dSeqL_of (H := H) e1 q
    have e7 := boolsD_of e2 r
    subst e; subst e5; subst e7
    exact ⟨a, ns, rfl, s.le.sqL e6, hq _ H G [] (GLe.refl G) ⟨rfl, rfl⟩ s⟩
  · cases hg⟩

/-! ### isinstance, of one built-in type -/
inductive Ty where
  | int | bool | str | list | tuple | dict
  deriving DecidableEq
def Ty.nm : Ty → String
  | .int => "int" | .bool => "bool" | .str => "str" | .list => "list" | .tuple => "tuple" | .dict => "dict"
def isiD (T : Ty) : D → Option Bool
  | .non => some false
  | .bl _ => some (decide (T = .bool) || decide (T = .int))
  | .int _ => some (decide (T = .int))
  | .str _ => some (decide (T = .str))
  | .lst _ => some (decide (T = .list))
  | .tup _ => some (decide (T = .tuple))
  | .ctu _ => some (decide (T = .tuple))
  | .dK _ _ => some (decide (T = .dict))
  | .dT _ _ => some (decide (T = .dict))
  | _ => none
theorem kit_all : ∀ T : Ty, kitB "NoneType" T.nm = some false ∧ kitB "bool" T.nm = some (decide (T = .bool) || decide (T = .int)) ∧ kitB "int" T.nm = some (decide (T = .int)) ∧ kitB "str" T.nm = some (decide (T = .str)) ∧ kitB "list" T.nm = some (decide (T = .list)) ∧ kitB "tuple" T.nm = some (decide (T = .tuple)) ∧ kitB "dict" T.nm = some (decide (T = .dict)) := by
  intro T
  cases T <;> refine ⟨?_, ?_, ?_, ?_, ?_, ?_, ?_⟩ <;> decide +kernel
def bIsi (T : Ty) : List D → Option D
  | [d, .val (.ty n)] => if n = T.nm then (isiD T d).map .bl else none
  | _ => none
theorem tup_ty {a : Addr} {xs : List V} (h : SqT K H a xs) : TyX K H (.ref a) (.type "tuple") := by
  rcases h with (h | ⟨o, h⟩) | ⟨o, its, n, h1, h2, _⟩
  · exact .base (.tup h)
  · exact .fTuple h
  · exact .kTuple h1 h2
theorem b_isi (T : Ty) (hK : X.K = K := by rfl) : CallR X (.builtin "isinstance") (rIsi K) ∧ VOpL K m (rIsi K) (bIsi T) := by subst hK; exact ⟨call_isi, by
  intro G H C vs ds d Q hx s hg hq
  unfold bIsi at hg
  split at hg
  · rename_i d0 n
    split at hg
    · rename_i hn
      obtain ⟨b, e1, e2⟩ := Option.map_eq_some_iff.mp hg
      subst e2; subst hn
      obtain ⟨v, w, e, q, q2⟩ := shl_two hx
      have q2 : w = .ty T.nm := q2
      subst q2
      obtain ⟨k1, k2, k3, k4, k5, k6, k7⟩ := kit_all T
      have fin : ∀ t : String, TyX X.K H v (.type t) → kitB t T.nm = some b → rIsi X.K vs H Q := fun t ty hk => ⟨v, .ty T.nm, .type t, .type T.nm, b, e, .ty _, ty, kit_ty hk, hq _ H G [] (GLe.refl G) ⟨rfl, rfl⟩ s⟩
      cases d0 <;> first | (cases e1; done) | skip
      · cases e1; rw [show v = .non from q] at fin; exact fin _ (.base .non) k1
      · cases e1; rw [show v = .bl _ from q] at fin; exact fin _ (.base (.bl _)) k2
      · cases e1; rw [show v = .int _ from q] at fin; exact fin _ (.base (.int _)) k3
      · cases e1; rw [show v = .str _ from q] at fin; exact fin _ (.base (.str _)) k4
      · cases e1; obtain ⟨a, us, e5, e6, r⟩ := q; subst e5; exact fin _ (.base (.lst (s.le _ _ e6))) k5
      · cases e1; obtain ⟨a, us, e5, e6, r⟩ := q; subst e5; exact fin _ (tup_ty (s.le.sqT e6)) k6
      · cases e1; obtain ⟨a, us, e5, e6, r⟩ := q; subst e5; exact fin _ (tup_ty (s.le.sqTT e6)) k6
      · cases e1; obtain ⟨a, us, e5, e6, r⟩ := q; subst e5; exact fin _ (.base (.dK (s.le _ _ e6))) k7
      · cases e1; obtain ⟨a, us, e5, e6, r⟩ := q; subst e5; exact fin _ (.base (.dT (s.le _ _ e6))) k7
    · cases hg
  · cases hg⟩

/-! ### str of an int -/
def bStr : List D → Option D
  | [.int i] => if i.natAbs < 2 ^ 1900 then some (.str (toString i)) else none
  | _ => none
end
section
variable {K : PySem.W.Frag} {X : Cx} {Γ : List Md} {Ek : WX} {m rm : Md} {io : List Nat} {e : PySem.Expr} {te : TE} {fe : Mr D} {pos : Pos}
def dRev : D → Option D
  | .lst xs => some (.lst xs.reverse)
  | .frl xs => some (.lst xs.reverse)
  | _ => none
theorem vop_rev : VOp1 K (.own .sh) (fun x H Q => ∃ a xs, x = .ref a ∧ SqL K H a xs ∧ ∀ p, H p = none → Q (.ref p) (upd H p (.lst xs.reverse))) dRev := by
  intro G H C x dx d Q hx s hg hq
  cases dx <;> first | (cases hg; done) | skip
  · cases hg
    obtain ⟨a, vs, e1, e2, r⟩ := hx
    exact ⟨a, vs, e1, .inl (.inl (s.le _ _ e2)), fun p hp => hq _ _ G _ (GLe.refl G) ⟨p, _, [], rfl, rfl, (RL.sh_iff _).mpr ⟨rfl, r.reverse⟩⟩ (s.newO hp)⟩
  · cases hg
    obtain ⟨a, vs, e1, e2, r⟩ := hx
    exact ⟨a, vs, e1, s.le.sqL e2, fun p hp => hq _ _ G _ (GLe.refl G) ⟨p, _, [], rfl, rfl, (RL.sh_iff _).mpr ⟨rfl, r.reverse⟩⟩ (s.newO hp)⟩
theorem de_rev {k : Nat} {p1 p2 p3 : Pos} (h : DE X K Γ Ek .sh e te fe) (hK : X.K = K := by rfl) : DE X K Γ Ek (.own .sh) (.Subscript e (.Slice none none (some (.UnaryOp .USub (.Constant (.int 1) k p1) p2)) p3) pos) (tRevL K te) (mUn dRev fe) := by subst hK; exact ⟨pe_revL h.pe, snd_un (r := fun x H Q => ∃ a xs, x = .ref a ∧ SqL X.K H a xs ∧ ∀ p, H p = none → Q (.ref p) (upd H p (.lst xs.reverse))) h.sn vop_rev⟩
theorem ds_expr0 (h : DE X K Γ Ek m e te fe) (hs : swapsWith e none pos.line X.env = pure false := by rfl) : DS X K Γ Ek rm io (.Expr e pos) (tDrop te) (bnd fe fun _ => mSkip) := ds_expr h (ps_expr h.pe hs)
end
/-- a list or tuple of values that are no objects fits every mode of its items -/
def scal1 : D → Bool
  | .lst ds => ds.all scal
  | .tup ds => ds.all scal
  | d => scal d
def mScl1 (f : Mr D) : Mr D := bnd f fun d => if scal1 d then ret d else fun _ => none
section
variable {K : PySem.W.Frag} {X : Cx} {Γ : List Md} {Ek : WX} {c c' : Md} {e : PySem.Expr} {t : TE} {f : Mr D}
theorem R.scal1 {G : Hp} {d : D} {v : V} {o : Fg} (h : Dl.scal1 d = true) (r : R K G d (.own c) v o) : R K G d (.own c') v o := by
  cases d <;> first | exact R.scal h r | skip
  · obtain ⟨a, vs, o', e1, e2, r⟩ := r
    exact ⟨a, vs, o', e1, e2, RL.scal h r⟩
  · obtain ⟨a, vs, e1, e2, r⟩ := r
    exact ⟨a, vs, e1, e2, RL.scal h r⟩
theorem Snd.scal1 (h : Snd K Γ Ek (.own c) t f) : Snd K Γ Ek (.own c') t (mScl1 f) := by
  intro σ H G C ρ Q r hg hf hq
  cases e : f ρ with
  | none => rw [mScl1, bnd_none e] at hf; cases hf
  | some r1 =>
    refine h σ H G C ρ Q r1 hg e ?_
    cases r1 with
    | ok a ρ1 =>
      rw [mScl1, bnd_ok e] at hf
      split at hf
      · rename_i hs
        cases hf
        exact fun b H' G' o g rel good => hq b H' G' o g (R.scal1 hs rel) good
      · cases hf
    | ex x ρ1 =>
      rw [mScl1, bnd_ex e] at hf
      cases hf
      exact hq
theorem DE.sc1 (h : DE X K Γ Ek (.own c) e t f) : DE X K Γ Ek (.own c') e t (mScl1 f) := ⟨h.pe, h.sn.scal1⟩
end
local macro_rules | `(tactic| walk_at "fle") => `(tactic| (intro P; simp only [List.countP_append, List.countP_cons, List.countP_nil, List.append_nil, List.nil_append]; first | omega | (split <;> omega)))
/-! ### x.pop(..) where what is handed on may look at x -/
def mPopV (i : Nat) (fe : Mr (List D)) : Mr D := fun ρ => match ρ[i]? with
  | some (some (.lst _)) => (match fe ρ with
    | some (.ok as ρ') => (match ρ'[i]? with
      | some (some (.lst ds)) => (match popIx ds.length as with
        | some k => (match ds[k]? with
          | some d => some (.ok d ((ρ'.set i none).set i (some (.lst (ds.eraseIdx k)))))
          | none => none)
        | none => none)
      | _ => none)
    | _ => none)
  | _ => none
section
variable {K : PySem.W.Frag} {X : Cx} {Γ : List Md} {Ek : WX} {i : Nat} {m : Md} {e : PySem.Expr}
theorem Foc.self {G : Hp} {d : D} {m : Md} {v : V} {o : Fg} (r : R K G d m v o) : Foc K G d m v o [] v m := ⟨d, o, [], rfl, r, fun P => by simp, fun G2 d2 o2 g r2 => ⟨o2, r2, fun P => by simp⟩⟩
theorem snd_popV {ks : List AK} {tr : TA} {fr : Mr (List D)} (hΓ : Γ[i]? = some (.own m)) (he : SndG K Γ Ek (RA K Γ ks) tr fr) (hk : ∀ k ∈ ks, isV .sh k) : Snd K Γ Ek m (tBM K "list" rPopA (tVar i) tr) (mPopV i fr) := by
  intro σ H G C ρ Q r hg hf hq
  unfold mPopV at hf
  split at hf
  · rename_i ds9 e5
    obtain ⟨v0, m0, o0, h1, h2, r0, g0⟩ := hg.take e5
    rw [hΓ] at h2; cases h2
    refine ⟨v0, h1, foc_ty (Foc.self r0) g0.sat ds9 rfl, ?_⟩
    split at hf
    · rename_i as ρ2 e6
      split at hf
      · rename_i ds0 e7
        split at hf
        · rename_i k e9
          split at hf
          · rename_i d e10
            cases hf
            refine he σ H G C ρ _ _ hg e6 fun vs1 H2 G2 oy g2 ry good2 => ?_
            obtain ⟨z, qy⟩ := ra_sh ry hk
            subst z
            obtain ⟨v1, m1, o1, h3, h4, r1, good3⟩ := good2.take e7
            rw [hΓ] at h4; cases h4
            rw [h1] at h3; cases h3
            obtain ⟨os2, sl2, s3⟩ := good3.ex
            obtain ⟨a, vs, oc, ew, ha, hl, rl, s4, upd4⟩ := (Foc.self r1).lst (C := os2.flatten ++ C) rfl (s3.re (by walk_at "fle"))
            obtain ⟨v, ov, rest, k1, k2, k3, k4⟩ := rl.drop_at e10
            obtain ⟨o5, r5, s5⟩ := upd4 G2 (upd H2 a (.lst (vs.eraseIdx k))) (ds0.eraseIdx k) (vs.eraseIdx k) rest (ov ++ (os2.flatten ++ C)) (GLe.refl G2) k3 fun rest' s6 => (s6.write (u' := .lst (vs.eraseIdx k))).re fun P => by
              have := k4 P
              simp only [List.countP_append, List.countP_cons] at this ⊢
              omega
            have fin : Q v (upd H2 a (.lst (vs.eraseIdx k))) := hq v _ G2 ov g2 k2 (Good.back (o := o5) ⟨os2, sl2, s5.re (by walk_at "fle")⟩ r5 h1 hΓ)
            have hkl : k < ds0.length := (List.getElem?_eq_some_iff.mp e10).1
            unfold popIx at e9
            split at e9
            · split at e9
              · cases e9
              · cases e9
                refine .inl ⟨a, vs, v, ew, show vs1 = [] from qy, ha, by rw [hl]; exact k1, ?_⟩
                have ee : vs.eraseIdx (ds0.length - 1) = vs.dropLast := by
                  rw [← hl, List.eraseIdx_eq_dropLast]
                  omega
                rw [← ee]; exact fin
            · rename_i j
              split at e9
              · rename_i h62
                obtain ⟨b1, b2⟩ := ok62_mp h62
                obtain ⟨u1, u2, u3, u4⟩ := ixN_seq e9
                exact .inr ⟨a, vs, j, k, v, ew, shl1 qy, ha, by omega, by omega, by rw [hl]; exact u1, k1, fin⟩
              · cases e9
            · cases e9
          · cases hf
        · cases hf
      · cases hf
    · cases hf
  · cases hf
theorem de_popV {apos cpos p : Pos} {x : Str} {es : List PySem.Expr} {ks : List AK} {tr : TA} {fr : Mr (List D)} (i : Nat) (he : DA X K Γ Ek ks (e :: es) tr fr) (hN : X.N[i]? = some x := by rfl) (hv : Vis X.env.scope x := by first | exact Or.inl rfl | exact Or.inr (Or.inl rfl) | exact Or.inr (Or.inr rfl)) (h : Γ[i]? = some (.own m) := by rfl)
    (hd : (x == ("__debug__" : Str)) = false := by decide) (hcd : (x == ("__classdict__" : Str)) = false := by decide) (hk : ks = List.replicate (es.length + 1) (.v .sh) := by rfl) (hbase : attributeBase (.Name x p) "pop" X.env (eval (.Name x p) X.env) = eval (.Name x p) X.env := by rfl)
    (hfew : ((backTo cpos (starEach (e :: es) X.env)).all (fun x => !x.1) && (backToKw cpos (keywordEach [] X.env)).all (fun x => x.1.isSome) && decide ((e :: es).length + ([] : List Keyword).length + (if ([] : List Keyword).isEmpty then 0 else 1) < 30)) = true := by rfl)
    (hline : (apos.endLine == cpos.line) = true := by rfl) (hs : starEach (e :: es) X.env = (false, eval e X.env) :: starEach es X.env := by rfl) (hplain : (backTo cpos (starEach es X.env)).any (·.1) = false := by rfl) (hK : X.K = K := by rfl) :
    DE X K Γ Ek m (.Call (.Attribute (.Name x p) "pop" apos) (e :: es) [] cpos) (tBM K "list" rPopA (tVar i) tr) (mPopV i fr) := by subst hK; exact ⟨pe_bm PySem.F.plainAttrs_list PySem.F.slot_list_pop PySem.F.type_list_pop mt_popA (pe_var hN hv hd hcd) he.pa hbase hfew hline hs hplain, snd_popV h he.sn (isV_rep hk)⟩
end
end Dl
/-! Dl: dicts that are owned, keys ints and texts. -/
namespace Dl
open PySem L2
local macro_rules | `(tactic| walk_at "fle") => `(tactic| (intro P; simp only [List.countP_append, List.countP_cons, List.countP_nil, List.append_nil, List.nil_append]; first | omega | (split <;> omega)))
theorem hu1 {A : Around} {k : Nat} (hr : Room k A) : A.units + 1 < cLine := by have := hu64 hr; omega
def keyOf : D → Option Key
  | .int i => some (.inl i)
  | .str x => some (.inr x)
  | _ => none
theorem keyOf_sh {K : PySem.W.Frag} {G : Hp} {d : D} {k : Key} {v : V} (h : keyOf d = some k) (r : Sh K G d v) : v = kV k := by
  cases d <;> first | (cases h; done) | (cases h; exact r)
def kMem (k : Key) : List Key → Bool
  | [] => false
  | a :: r => if a = k then true else kMem k r
theorem kMem_no {k : Key} : ∀ {r : List Key}, kMem k r = false → k ∉ r
  | [], _, q => nomatch q
  | a :: r, h, q => by
    unfold kMem at h
    split at h
    · cases h
    · rename_i ha
      rcases List.mem_cons.mp q with e | q
      · exact ha e.symm
      · exact kMem_no h q
/-- the place of a key that stands once -/
def kIx : List Key → Key → Option Nat
  | [], _ => none
  | a :: r, k => if a = k then (if kMem k r = true then none else some 0) else (kIx r k).map (· + 1)
theorem kIx_lt : ∀ {ks : List Key} {k : Key} {i : Nat}, kIx ks k = some i → i < ks.length
  | a :: r, k, i, h => by
    unfold kIx at h
    split at h
    · split at h
      · cases h
      · cases h; simp
    · obtain ⟨j, h1, h2⟩ := Option.map_eq_some_iff.mp h
      have := kIx_lt h1
      simp; omega
theorem kIx_val : ∀ {ks : List Key} {vs : List V} {k : Key} {i : Nat} {v : V}, kIx ks k = some i → vs[i]? = some v → valV (ks.zip vs) k = some v
  | a :: r, [], k, i, v, h, e => by simp at e
  | a :: r, x :: vs, k, i, v, h, e => by
    unfold kIx at h
    split at h
    · rename_i ha
      split at h
      · cases h
      · cases h
        simp at e
        subst e
        exact valV_pos ha
    · rename_i ha
      obtain ⟨j, h1, h2⟩ := Option.map_eq_some_iff.mp h
      subst h2
      have := kIx_val h1 (v := v) (vs := vs) (by simpa using e)
      rw [List.zip_cons_cons]
      unfold valV at this ⊢
      rw [List.find?_cons_of_neg (by simpa using ha)]
      exact this
theorem put_no : ∀ {ks : List Key} {vs : List V} {k : Key} {v : V}, k ∉ ks → (ks.zip vs).map (fun kv => if kv.1 = k then (kv.1, v) else kv) = ks.zip vs
  | [], _, _, _, _ => by simp
  | a :: r, [], k, v, h => by simp
  | a :: r, x :: vs, k, v, h => by
    rw [List.zip_cons_cons, List.map_cons, put_no (fun q => h (List.mem_cons_of_mem _ q)), if_neg (fun q => h (by rw [← show a = k from q]; exact List.mem_cons_self))]
theorem kIx_put : ∀ {ks : List Key} {vs : List V} {k : Key} {i : Nat} (v : V), kIx ks k = some i → vs.length = ks.length → putK (ks.zip vs) k v = ks.zip (vs.set i v) := by
  intro ks vs k i v h hl
  have h1 : ((ks.zip vs).any fun kv => decide (kv.1 = k)) = true := by
    have hi := kIx_lt h
    have e := kIx_val (vs := vs) (v := vs[i]) h (List.getElem?_eq_getElem (by omega))
    unfold valV at e
    obtain ⟨p, hp, _⟩ := Option.map_eq_some_iff.mp e
    rw [List.any_eq_true]
    exact ⟨p, List.mem_of_find?_eq_some hp, by simpa using List.find?_some hp⟩
  unfold putK
  rw [if_pos h1]
  clear h1
  induction ks generalizing vs i with
  | nil => cases h
  | cons a r ih =>
    cases vs with
    | nil => simp at hl
    | cons x vs =>
      unfold kIx at h
      split at h
      · rename_i ha
        split at h
        · cases h
        · rename_i hn
          cases h
          rw [List.zip_cons_cons, List.map_cons, put_no (kMem_no (by simpa using hn)), if_pos ha]
          rfl
      · rename_i ha
        obtain ⟨j, h1, h2⟩ := Option.map_eq_some_iff.mp h
        subst h2
        rw [List.zip_cons_cons, List.map_cons, if_neg ha, ih h1 (by simpa using hl)]
        rfl
theorem put_new {ks : List Key} {vs : List V} {k : Key} (v : V) (h : k ∉ ks) (hl : vs.length = ks.length) : putK (ks.zip vs) k v = (ks ++ [k]).zip (vs ++ [v]) := by
  unfold putK
  rw [if_neg, List.zip_append hl.symm]
  · rfl
  · intro q
    rw [List.any_eq_true] at q
    obtain ⟨p, hp, e⟩ := q
    have := (List.of_mem_zip hp).1
    have e : p.1 = k := by simpa using e
    rw [e] at this
    exact h this
section
variable {K : PySem.W.Frag} {G H : Hp}
theorem Foc.stepK {root : D} {m c : Md} {v : V} {o : Fg} {p : List Nat} {w : V} {ks : List Key} {ds : List D} {k : Nat} {d : D} (h : Foc K G root m v o p w (.own c)) (hp : getP root p = some (.dK ks ds)) (hk : ds[k]? = some d) :
    ∃ a vs v', w = .ref a ∧ (a, HO.dK (ks.zip vs)) ∈ o ∧ vs.length = ks.length ∧ vs[k]? = some v' ∧ Foc K G root m v o (p ++ [k]) v' c := by
  obtain ⟨d', o', rest, h1, h2, h3, h4⟩ := h
  rw [hp] at h1; cases h1
  obtain ⟨a, vs, o1, ew, eo, hl, rl⟩ := h2
  obtain ⟨v', o2, rest2, g1, g2, g3, g4⟩ := rl.split hk
  refine ⟨a, vs, v', ew, ?_, hl, g1, d, o2, (a, .dK (ks.zip vs)) :: (rest2 ++ rest), ?_, g2, fun P => ?_, fun G2 d2 o3 g r2 => ?_⟩
  · have hle : Le o' o := fun P => by have := h3 P; omega
    exact hle.mem (by rw [eo]; exact List.mem_cons_self)
  · rw [getP_snoc, hp]; exact hk
  · have e1 := h3 P
    have e2 := g3 P
    subst eo
    simp only [List.countP_cons, List.countP_append] at e1 ⊢
    omega
  · obtain ⟨o4, r4, e4⟩ := g4 G2 d2 o3 g r2
    obtain ⟨o5, r5, e5⟩ := h4 G2 (.dK ks (ds.set k d2)) ((a, .dK (ks.zip vs)) :: o4) g ⟨a, vs, o4, ew, rfl, hl, r4⟩
    refine ⟨o5, ?_, fun P => ?_⟩
    · rw [setP_snoc p root (.dK ks ds) d d2 k hp hk]; exact r5
    · have e1 := e5 P
      have e2 := e4 P
      simp only [List.countP_cons, List.countP_append] at e1 ⊢
      omega
end
def ixD (rp : D × List Nat) (j : D) : Option (D × List Nat) := match keyOf j, getP rp.1 rp.2 with
  | some key, some (.dK ks ds) => (kIx ks key).bind fun k => if k < ds.length then some (rp.1, rp.2 ++ [k]) else none
  | _, _ => none
section
variable {K : PySem.W.Frag} {X : Cx} {Γ : List Md} {Ek : WX} {i : Nat} {m c rm : Md} {e a b : PySem.Expr} {t ta tb te ti : TE} {f : Mr (D × List Nat)} {fb fe : Mr D} {pos p : Pos} {io : List Nat}
theorem snd_ixD (h : SndG K Γ Ek (PR K Γ i (.own c)) ta f) (hb : Snd K Γ Ek .sh tb fb) : SndG K Γ Ek (PR K Γ i c) (tDGet ta tb) (bnd (mPair f fb) fun p => lft (ixD p.1 p.2)) := by
  refine SndG.bind (t1 := tPair ta tb) (t2 := fun p _ H Q => ∃ a v, p.1 = V.ref a ∧ DGet H a p.2 (some v) ∧ Q v H) (SndG.pair h hb PR.mono) fun a b σ H G C o ρ Q r rel good hf hq => ?_
  obtain ⟨o1, o2, eo, ⟨v, m, h1, h2, h3, h4⟩, r2⟩ := rel
  obtain ⟨z2, q2⟩ := (R.sh_iff _).mp r2
  subst z2; subst eo
  obtain ⟨⟨root, pth⟩, j⟩ := a
  obtain ⟨w, y⟩ := b
  dsimp only at h3 h4 q2 ⊢
  have s := good.sat
  cases e : ixD (root, pth) j with
  | none => dsimp only at hf; rw [e] at hf; cases hf
  | some rp =>
    dsimp only at hf
    rw [e] at hf
    cases hf
    unfold ixD at e
    split at e
    · rename_i key ks ds e1 e2
      obtain ⟨k, e3, e4⟩ := Option.bind_eq_some_iff.mp e
      split at e4
      · rename_i hk
        cases e4
        have hk' : ds[k]? = some ds[k] := List.getElem?_eq_getElem hk
        obtain ⟨a, vs, v', ew, hm, hl, hv, foc⟩ := h4.stepK e2 hk'
        have ha : H a = some (.dK (ks.zip vs)) := (s.at_ (a, .dK (ks.zip vs)) (List.mem_append_left _ (by simpa using hm))).1
        refine ⟨a, v', ew, ?_, hq v' H G o1 (GLe.refl G) ⟨v, m, h1, h2, h3, foc⟩ (good.re (by walk_at "fle"))⟩
        have hy : y = kV key := keyOf_sh e1 q2
        rw [hy, ← kIx_val e3 hv]
        exact DGet.k ha
      · cases e4
    · cases e
theorem dp_key (hu : X.A.units + 1 < cLine) (h : DP X K Γ Ek i (.own c) a ta f) (hb : DE X K Γ Ek .sh b tb fb) (hs : NoSl b := by exact fun _ _ => rfl) : DP X K Γ Ek i c (.Subscript a b pos) (tDGet ta tb) (bnd (mPair f fb) fun p => lft (ixD p.1 p.2)) := ⟨pe_dget hu h.pe hb.pe hs, snd_ixD h.sn hb.sn⟩
/-! ### d[k] = v -/
def rSetD : TSet := fun o i v H Q => ∃ (a : Addr) (H4 : Hp), o = .ref a ∧ DPut H a i v H4 ∧ Q H4
theorem set_dict (hu : X.A.units + 1 < cLine) : PSet X rSetD := by
  intro pins s σ H o i v ov iv u Q I ro ri rv ⟨a, H4, eo, g, q⟩
  subst eo
  obtain rfl : ov = Value.ref a := ro
  exact d_setItem hu I g ri rv fun s' I' => ⟨H4, I', q⟩
def gtSubD (i : Nat) (f : Mr (D × List Nat)) (fb : Mr D) (d : D) (ρ : De) : Option De := match bnd (mPair f fb) (fun p => ret p) ρ with
  | some (.ok ((root, pth), j) ρ2) => (match keyOf j, getP root pth with
    | some key, some (.dK ks ds) => (match kIx ks key with
      | some k => if ks.length < lim then some (ρ2.set i (some (setP root pth (.dK ks (ds.set k d))))) else none
      | none => if kMem key ks = false ∧ ks.length < lim then some (ρ2.set i (some (setP root pth (.dK (ks ++ [key]) (ds ++ [d]))))) else none)
    | _, _ => none)
  | _ => none
theorem snt_subD (h : SndG K Γ Ek0 (PR K Γ i (.own m)) ta f) (hb : Snd K Γ Ek0 .sh ti fb) : SndT K Γ io m (gSub ta ti rSetD) (gtSubD i f fb) := by
  intro G H C o σ ρ ρ' d v Q r good e hq
  unfold gtSubD at e
  split at e
  · rename_i root pth j ρ2 e1
    have hb2 := SndG.pair h hb PR.mono
    have e5 : mPair f fb ρ = some (.ok ((root, pth), j) ρ2) := by
      rcases bnd_inv e1 with ⟨x, ρ3, a1, a2⟩ | ⟨x, ρ3, a1, a2⟩
      · cases a2; exact a1
      · cases a2
    split at e
    · rename_i key ks ds ek e2
      refine hb2 σ H G (o ++ C) ρ (fun p H2 => rSetD p.1 p.2 v H2 fun H3 => Q σ H3) _ good e5 fun b H' G' o' g rel good' => ?_
      obtain ⟨o1, o2, eo, ⟨vr, mr, h1, h2, h3, foc⟩, r2⟩ := rel
      obtain ⟨z2, q2⟩ := (R.sh_iff _).mp r2
      subst z2; subst eo
      have q2 : b.2 = kV key := keyOf_sh ek q2
      obtain ⟨d', od, rest, f1, f2, f3, f4⟩ := id foc
      have f1' : getP root pth = some d' := f1
      rw [e2] at f1'; cases f1'
      obtain ⟨a, vs, oc, ew, eo, hl, rl⟩ := f2
      obtain ⟨osC, slC, s⟩ := good'.ex
      have s1 : Sat H' G' ((a, .dK (ks.zip vs)) :: (oc ++ (rest ++ (osC.flatten ++ (o ++ C))))) := s.re fun P => by
        have := f3 P
        subst eo
        simp only [List.countP_append, List.countP_cons, List.countP_nil, List.append_nil] at this ⊢
        omega
      have hlz : (ks.zip vs).length = ks.length := by rw [List.length_zip, hl]; omega
      split at e
      · rename_i k e3
        split at e
        · rename_i hlim
          cases e
          refine ⟨a, _, ew, by rw [q2]; exact DPut.k s1.own (by rw [hlz, ← lim_eq]; exact hlim), ?_⟩
          rw [kIx_put v e3 hl]
          obtain ⟨oc2, rl2, le2⟩ := rl.setAt k (R.mono g d r)
          obtain ⟨o3, r3, c3⟩ := f4 G' (.dK ks (ds.set k d)) ((a, .dK (ks.zip (vs.set k v))) :: oc2) (GLe.refl G') ⟨a, vs.set k v, oc2, ew, rfl, by rw [List.length_set]; exact hl, rl2⟩
          refine hq σ _ G' g (Fix.refl σ) (Good.back (o := o3) ⟨osC, slC, (s1.write (u' := .dK (ks.zip (vs.set k v)))).re fun P => ?_⟩ r3 h1 h2)
          have x1 := c3 P
          have x2 := le2 P
          simp only [List.countP_append, List.countP_cons] at x1 x2 ⊢
          omega
        · cases e
      · split at e
        · rename_i hlim
          cases e
          refine ⟨a, _, ew, by rw [q2]; exact DPut.k s1.own (by rw [hlz, ← lim_eq]; exact hlim.2), ?_⟩
          rw [put_new v (kMem_no hlim.1) hl]
          have rl2 : RL K G' (ds ++ [d]) m (vs ++ [v]) (oc ++ (o ++ [])) := RL.append rl ⟨v, [], o, [], rfl, rfl, R.mono g d r, rfl, rfl⟩
          obtain ⟨o3, r3, c3⟩ := f4 G' (.dK (ks ++ [key]) (ds ++ [d])) ((a, .dK ((ks ++ [key]).zip (vs ++ [v]))) :: (oc ++ (o ++ []))) (GLe.refl G') ⟨a, vs ++ [v], _, ew, rfl, by simp [hl], rl2⟩
          refine hq σ _ G' g (Fix.refl σ) (Good.back (o := o3) ⟨osC, slC, (s1.write (u' := .dK ((ks ++ [key]).zip (vs ++ [v])))).re fun P => ?_⟩ r3 h1 h2)
          have x1 := c3 P
          simp only [List.countP_append, List.countP_cons, List.countP_nil, List.append_nil] at x1 ⊢
          omega
        · cases e
    · cases e
  · cases e
theorem dg_key (hu : X.A.units + 1 < cLine) (h : DP X K Γ Ek0 i (.own m) a ta f) (hb : DE X K Γ Ek0 .sh b ti fb)
    (ha : ∀ v, assign (.Subscript a b pos) X.env v = (do
      let ov ← holding [v] (eval a X.env)
      let iv ← holding [v, ov] (eval b X.env)
      standAt pos
      holding [v, ov, iv] (setItem ov iv v)
      release [v, ov, iv] []) := by intro _; rfl) : DG X K Γ io m (.Subscript a b pos) (gSub ta ti rSetD) (gtSubD i f fb) := ⟨pg_sub h.pe hb.pe (set_dict hu) ha, snt_subD h.sn hb.sn⟩
end
/-! ### {k: v, ..}, the keys constants -/
def RPs (K : PySem.W.Frag) (c : Md) (ks : List Key) : St → Hp → List D → List (V × V) → Fg → Prop := fun _ G ds ps o => ∃ vs, ps = (ks.zip vs).map (fun kv => (kV kv.1, kv.2)) ∧ vs.length = ks.length ∧ RL K G ds c vs o
theorem RPs.mono {K : PySem.W.Frag} {c : Md} {ks : List Key} : RMono (RPs K c ks) := fun σ G G' ds ps o g ⟨vs, a, b, r⟩ => ⟨vs, a, b, RL.mono g _ r⟩
structure DKs (X : Cx) (K : PySem.W.Frag) (Γ : List Md) (Ek : WX) (c : Md) (pos : Pos) (keys : List (Option PySem.Expr)) (values : List PySem.Expr) (ks : List Key) (trs : List (TE × TE)) (fr : Mr (List D)) : Prop where
  pp : PPs X pos keys values trs
  sn : SndG K Γ Ek (RPs K c ks) (tPairs trs) fr
section
variable {K : PySem.W.Frag} {X : Cx} {Γ : List Md} {Ek : WX} {c : Md} {v : PySem.Expr} {tv : TE} {fv : Mr D} {pos p : Pos} {keys : List (Option PySem.Expr)} {values : List PySem.Expr} {ks : List Key} {trs : List (TE × TE)} {fr : Mr (List D)}
theorem dks_nil : DKs X K Γ Ek c pos [] [] [] [] mNil := ⟨pps_nil, by
  intro σ H G C ρ Q r hg hf hq
  cases hf
  exact hq [] H G [] (GLe.refl G) ⟨[], rfl, rfl, rfl, rfl⟩ hg⟩
theorem snd_kcons (k : Key) (hv : Snd K Γ Ek c tv fv) (hr : SndG K Γ Ek (RPs K c ks) (tPairs trs) fr) : SndG K Γ Ek (RPs K c (k :: ks)) (tPairs ((tC (kV k), tv) :: trs)) (mCons fv fr) := by
  refine SndG.bind (Rel1 := RP (RE K c) (RPs K c ks)) (t1 := tPair tv (tPairs trs)) (t2 := fun q _ H Q => Q ((kV k, q.1) :: q.2) H) (SndG.pair hv hr RE.mono) fun a b σ H G C o ρ Q r rel good hf hq => ?_
  obtain ⟨o1, o2, e, r1, vs, e1, e2, r2⟩ := rel
  cases hf
  refine hq _ H G o (GLe.refl G) ⟨b.1 :: vs, ?_, by simp [e2], b.1, vs, o1, o2, rfl, e, r1, r2⟩ good
  rw [e1, List.zip_cons_cons, List.map_cons]
theorem dks_s {k : Str} {j} (hv : DE X K Γ Ek c v tv fv) (hr : DKs X K Γ Ek c pos keys values ks trs fr) : DKs X K Γ Ek c pos (some (.Constant (.str k) j p) :: keys) (v :: values) (.inr k :: ks) ((tC (.str k), tv) :: trs) (mCons fv fr) :=
  ⟨pps_cons (de_str (K := K) (Γ := Γ) (Ek := Ek) (m := .sh)).pe hv.pe hr.pp, snd_kcons (.inr k) hv.sn hr.sn⟩
theorem dks_i {k : Int} {j} (hv : DE X K Γ Ek c v tv fv) (hr : DKs X K Γ Ek c pos keys values ks trs fr) : DKs X K Γ Ek c pos (some (.Constant (.int k) j p) :: keys) (v :: values) (.inl k :: ks) ((tC (.int k), tv) :: trs) (mCons fv fr) :=
  ⟨pps_cons (de_int (K := K) (Γ := Γ) (Ek := Ek) (m := .sh)).pe hv.pe hr.pp, snd_kcons (.inl k) hv.sn hr.sn⟩
def kNodup : List Key → Bool
  | [] => true
  | a :: r => !kMem a r && kNodup r
theorem valV_app {kvs : List (Key × V)} {k k' : Key} {v : V} (h : k ≠ k') : valV (kvs ++ [(k, v)]) k' = valV kvs k' := by
  unfold valV
  rw [List.find?_append]
  simp [h]
theorem mergeK_app : ∀ (ks : List Key) (vs : List V) (acc : List (Key × V)), (∀ k ∈ ks, valV acc k = none) → kNodup ks = true → mergeK acc (ks.zip vs) = acc ++ ks.zip vs
  | [], vs, acc, _, _ => by simp [mergeK]
  | k :: ks, [], acc, _, _ => by simp [mergeK]
  | k :: ks, v :: vs, acc, h, hn => by
    unfold kNodup at hn
    rw [Bool.and_eq_true] at hn
    have hk := kMem_no (by simpa using hn.1)
    have e : putK acc k v = acc ++ [(k, v)] := putK_new v (h k List.mem_cons_self)
    rw [List.zip_cons_cons]
    show mergeK (putK acc k v) (ks.zip vs) = _
    rw [e, mergeK_app ks vs _ (fun k' hk' => by rw [valV_app (k := k) (k' := k') (fun q => hk (by rw [q]; exact hk'))]; exact h k' (List.mem_cons_of_mem _ hk')) hn.2]
    simp
def mDisp (ks : List Key) (fr : Mr (List D)) : Mr D := bnd fr fun ds => ret (.dK ks ds)
theorem snd_disp (hr : SndG K Γ Ek (RPs K c ks) (tPairs trs) fr) (hn : kNodup ks = true) (h15 : ks.length ≤ 15) : Snd K Γ Ek (.own c) (tDisp trs) (mDisp ks fr) := by
  intro σ H G C ρ Q r hg hf hq l hl
  obtain ⟨os, sl, s⟩ := hg.ex
  have hg' : Good K Γ G (upd H l (.dK [])) ((l, .dK []) :: C) σ ρ := ⟨os, sl, (s.newO hl).re (by walk_at "fle")⟩
  rcases bnd_inv hf with ⟨ds, ρ1, e1, e2⟩ | ⟨x, ρ1, e1, e2⟩
  · cases e2
    refine hr σ _ G _ ρ _ _ hg' e1 fun ps H2 G2 o g rel good => ?_
    obtain ⟨vs, e3, e4, r2⟩ := rel
    obtain ⟨os2, sl2, s2⟩ := good.ex
    have s3 : Sat H2 G2 ((l, .dK []) :: (os2.flatten ++ (o ++ C))) := s2.re (by walk_at "fle")
    have hz : (ks.zip vs).length = ks.length := by rw [List.length_zip, e4]; omega
    refine ⟨s3.own, ks.zip vs, e3, by rw [hz]; exact h15, ?_⟩
    have em : mergeK [] (ks.zip vs) = ks.zip vs := mergeK_app ks vs [] (fun k _ => rfl) hn
    rw [em]
    exact hq (.ref l) _ G2 ((l, .dK (ks.zip vs)) :: o) g ⟨l, vs, o, rfl, rfl, e4, r2⟩ ⟨os2, sl2, (s3.write (u' := .dK (ks.zip vs))).re (by walk_at "fle")⟩
  · subst e2
    refine hr σ _ G _ ρ _ _ hg' e1 fun cc dx H2 G2 g xr good => ?_
    obtain ⟨os2, sl2, s2⟩ := good.ex
    exact hq cc dx H2 G2 g xr ⟨os2, sl2, s2.re (by walk_at "fle")⟩
theorem de_disp {p : Pos} (h : DKs X K Γ Ek c p keys values ks trs fr) (hn : kNodup ks = true := by decide +kernel) (h15 : ks.length ≤ 15 := by decide) (hall : keys.all (·.isSome) = true := by rfl) (hl : keys.length = values.length := by rfl) (h0 : keys ≠ [] := by exact List.cons_ne_nil _ _) (hk : keys.length ≤ 15 := by decide) :
    DE X K Γ Ek (.own c) (.Dict keys values p) (tDisp trs) (mDisp ks fr) := ⟨pe_disp h.pp hall hl h0 hk, snd_disp h.sn hn h15⟩
theorem de_dnew {p : Pos} : DE X K Γ Ek (.own c) (.Dict [] [] p) tDNewK (ret (.dK [] [])) := ⟨pe_dnewK, by
  intro σ H G C ρ Q r hg hf hq l hl
  cases hf
  obtain ⟨os, sl, s⟩ := hg.ex
  exact hq (.ref l) _ G [(l, .dK [])] (GLe.refl G) ⟨l, [], [], rfl, rfl, rfl, rfl, rfl⟩ ⟨os, sl, (s.newO hl).re (by walk_at "fle")⟩⟩
end
end Dl
/-! Dl, twelfth part: reckoning with mirrors. -/
namespace Dl
open PySem L2
theorem mSeq_ok {f g : Mr Fl} {ρ ρ' : De} (h : f ρ = some (.ok .nx ρ')) : mSeq f g ρ = g ρ' := by unfold mSeq; rw [h]
theorem mSeq_rt {f g : Mr Fl} {ρ ρ' : De} {d : D} (h : f ρ = some (.ok (.rt d) ρ')) : mSeq f g ρ = some (.ok (.rt d) ρ') := by unfold mSeq; rw [h]
theorem mSeq_as (f g h : Mr Fl) : mSeq (mSeq f g) h = mSeq f (mSeq g h) := by
  funext ρ
  unfold mSeq
  cases f ρ with
  | none => rfl
  | some r =>
    cases r with
    | ok a ρ' => cases a <;> rfl
    | ex x ρ' => rfl
/-! values of the operators -/
theorem log2_lt100 {n : Nat} (h : n < 1606938044258990275541962092341162602522202993782792835301376) : n.log2 < 200 := by
  rcases Nat.eq_zero_or_pos n with h0 | h0
  · subst h0; decide
  · exact (Nat.log2_lt (by omega)).mpr h
theorem dMul_i {i j : Int} (h : i.natAbs ≤ 18446744073709551615 ∨ j.natAbs ≤ 18446744073709551615) : dMul (.int i) (.int j) = some (.int (i * j)) := by
  have e : (Nat.ble i.natAbs 18446744073709551615 || Nat.ble j.natAbs 18446744073709551615) = true := by
    rw [Bool.or_eq_true]
    exact h.imp Nat.ble_eq_true_of_le Nat.ble_eq_true_of_le
  show (if _ then _ else _) = _
  rw [if_pos (by rw [e]; rfl)]
theorem dMul_b {i j : Int} (h : i.natAbs < 1606938044258990275541962092341162602522202993782792835301376) (h' : j.natAbs < 1606938044258990275541962092341162602522202993782792835301376) : dMul (.int i) (.int j) = some (.int (i * j)) := by
  have h1 := log2_lt100 h
  have h2 := log2_lt100 h'
  have e : Nat.blt (i.natAbs.log2 + j.natAbs.log2) 1000000 = true := by simp; omega
  show (if _ then _ else _) = _
  rw [if_pos (by rw [e, Bool.or_true])]
theorem dFdiv_i {i j : Int} (h0 : 0 < j) (h1 : j < 1606938044258990275541962092341162602522202993782792835301376) : dFdiv (.int i) (.int j) = some (.int (i / j)) := by
  have h2 := log2_lt100 (n := j.natAbs) (by omega)
  have e : (decide (0 < j) && Nat.blt j.natAbs.log2 9000) = true := by
    rw [decide_eq_true h0]
    simp
    omega
  show (if _ then _ else _) = _
  rw [if_pos e]
theorem dMod_i {i j : Int} (h0 : 0 < j) : dMod (.int i) (.int j) = some (.int (i % j)) := by
  show (if _ then _ else _) = _
  rw [if_pos (decide_eq_true h0)]
theorem dAdd_i (i j : Int) : dAdd (.int i) (.int j) = some (.int (i + j)) := rfl
theorem dSub_i (i j : Int) : dSub (.int i) (.int j) = some (.int (i - j)) := rfl
theorem dLt_i (i j : Int) : dLt (.int i) (.int j) = some (.bl (decide (i < j))) := rfl
theorem dLe_i (i j : Int) : dLe (.int i) (.int j) = some (.bl (decide (i ≤ j))) := rfl
theorem dGt_i (i j : Int) : dGt (.int i) (.int j) = some (.bl (decide (j < i))) := rfl
theorem dGe_i (i j : Int) : dGe (.int i) (.int j) = some (.bl (decide (j ≤ i))) := rfl
theorem dEq_i (i j : Int) : dEq (.int i) (.int j) = some (.bl (i == j)) := rfl
theorem dNe_i (i j : Int) : dNe (.int i) (.int j) = some (.bl (!(i == j))) := rfl
theorem dEq_bl (i j : Bool) : dEq (.bl i) (.bl j) = some (.bl (i == j)) := rfl
theorem dTup_c {ds : List D} (h : ds.length ≤ 16777216) : dTup ds = some (.tup ds) := if_pos h
theorem dLst_c {ds : List D} (h : ds.length ≤ 16777216) : dLst ds = some (.lst ds) := if_pos h
theorem ixN_nat {n k : Nat} (h : k < n) : ixN n (k : Int) = some k := by
  unfold ixN
  rw [if_pos (by omega), if_pos (by omega)]; simp
theorem ixN_of {n : Nat} {i : Int} (h0 : 0 ≤ i) (h : i < n) : ixN n i = some i.toNat := by
  unfold ixN
  rw [if_pos h0, if_pos h]
theorem atI_natD {α : Type} {xs : List α} {k : Nat} (h : k < xs.length) : atI xs (k : Int) = some xs[k] := by
  unfold atI
  rw [ixN_nat h]
  simp [h]
theorem atI_ofD {α : Type} {xs : List α} {i : Int} (h0 : 0 ≤ i) (h : i < xs.length) : atI xs i = xs[i.toNat]? := by
  unfold atI
  rw [ixN_of h0 h]; rfl
/-! loops -/
/-- a loop by what holds between its turns -/
theorem forM_inv {gt : D → De → Option De} {body : Mr Fl} (I : Nat → De → Prop) : ∀ (ds : List D) (k : Nat) (ρ : De), I k ρ →
    (∀ i d ρ, ds[i]? = some d → I (k + i) ρ → ∃ ρ1 ρ2, gt d ρ = some ρ1 ∧ (body ρ1 = some (.ok .nx ρ2) ∨ body ρ1 = some (.ok .ct ρ2)) ∧ I (k + i + 1) ρ2) → ∃ ρ', forM gt body ds ρ = some (.ok .nx ρ') ∧ I (k + ds.length) ρ'
  | [], k, ρ, h0, _ => ⟨ρ, rfl, h0⟩
  | d :: ds, k, ρ, h0, hs => by
    obtain ⟨ρ1, ρ2, e1, e2, h2⟩ := hs 0 d ρ rfl h0
    obtain ⟨ρ', e3, h3⟩ := forM_inv I ds (k + 1) ρ2 h2 fun i d' ρ e h => by
      have := hs (i + 1) d' ρ (by simpa using e) (by rw [show k + (i + 1) = k + 1 + i by omega]; exact h)
      rw [show k + (i + 1) + 1 = k + 1 + i + 1 by omega] at this
      exact this
    refine ⟨ρ', ?_, ?_⟩
    · unfold forM
      rw [e1]
      dsimp only
      rcases e2 with e2 | e2 <;> rw [e2] <;> exact e3
    · rw [List.length_cons, show k + (ds.length + 1) = k + 1 + ds.length by omega]; exact h3
/-- a loop as a fold -/
theorem forM_fold {σ α : Type} {gt : D → De → Option De} {body : Mr Fl} (E : σ → De → Prop) (enc : α → D) (step : σ → α → σ) : ∀ (xs : List α) (s : σ) (ρ : De), E s ρ →
    (∀ s x ρ, x ∈ xs → E s ρ → ∃ ρ1 ρ2, gt (enc x) ρ = some ρ1 ∧ (body ρ1 = some (.ok .nx ρ2) ∨ body ρ1 = some (.ok .ct ρ2)) ∧ E (step s x) ρ2) → ∃ ρ', forM gt body (xs.map enc) ρ = some (.ok .nx ρ') ∧ E (xs.foldl step s) ρ'
  | [], s, ρ, h0, _ => ⟨ρ, rfl, h0⟩
  | x :: xs, s, ρ, h0, hs => by
    obtain ⟨ρ1, ρ2, e1, e2, h2⟩ := hs s x ρ List.mem_cons_self h0
    obtain ⟨ρ', e3, h3⟩ := forM_fold E enc step xs (step s x) ρ2 h2 fun s y ρ hy h => hs s y ρ (List.mem_cons_of_mem _ hy) h
    refine ⟨ρ', ?_, h3⟩
    rw [List.map_cons]
    unfold forM
    rw [e1]
    dsimp only
    rcases e2 with e2 | e2 <;> rw [e2] <;> exact e3
/-- a comprehension that leaves the names as they are -/
theorem lcM_map {vs : List Nat} {gt : D → De → Option De} {ft : Mr Bool} {fe : Mr D} {α : Type} (enc : α → D) (g : α → D) (I : De → Prop) : ∀ (xs : List α) (acc : List D) (ρ : De), I ρ → acc.length + xs.length ≤ 16777216 →
    (∀ x ρ, x ∈ xs → I ρ → ∃ ρ1 ρ2 ρ3, gt (enc x) ρ = some ρ1 ∧ ft ρ1 = some (.ok true ρ2) ∧ fe ρ2 = some (.ok (g x) ρ3) ∧ I (wipeD ρ3 vs)) → ∃ ρ', lcM vs gt ft fe (xs.map enc) acc ρ = some (acc ++ xs.map g, ρ') ∧ I ρ'
  | [], acc, ρ, h0, _, _ => ⟨ρ, by simp [lcM], h0⟩
  | x :: xs, acc, ρ, h0, hl, hs => by
    obtain ⟨ρ1, ρ2, ρ3, e1, e2, e3, h3⟩ := hs x ρ List.mem_cons_self h0
    obtain ⟨ρ', e4, h4⟩ := lcM_map enc g I xs (acc ++ [g x]) (wipeD ρ3 vs) h3 (by simp at hl ⊢; omega) fun y ρ hy h => hs y ρ (List.mem_cons_of_mem _ hy) h
    refine ⟨ρ', ?_, h4⟩
    rw [List.map_cons]
    unfold lcM
    rw [e1]
    dsimp only
    rw [e2]
    dsimp only
    rw [e3]
    dsimp only
    rw [if_pos (by simp at hl; show acc.length < 16777216; omega), e4]
    simp
/-- .. with a test -/
theorem lcM_filt {vs : List Nat} {gt : D → De → Option De} {ft : Mr Bool} {fe : Mr D} {α : Type} (enc : α → D) (p : α → Bool) (g : α → D) (I : De → Prop) : ∀ (xs : List α) (acc : List D) (ρ : De), I ρ → acc.length + xs.length ≤ 16777216 →
    (∀ x ρ, x ∈ xs → I ρ → ∃ ρ1 ρ2, gt (enc x) ρ = some ρ1 ∧ ft ρ1 = some (.ok (p x) ρ2) ∧ (p x = false → I (wipeD ρ2 vs)) ∧ (p x = true → ∃ ρ3, fe ρ2 = some (.ok (g x) ρ3) ∧ I (wipeD ρ3 vs))) →
      ∃ ρ', lcM vs gt ft fe (xs.map enc) acc ρ = some (acc ++ (xs.filter p).map g, ρ') ∧ I ρ'
  | [], acc, ρ, h0, _, _ => ⟨ρ, by simp [lcM], h0⟩
  | x :: xs, acc, ρ, h0, hl, hs => by
    obtain ⟨ρ1, ρ2, e1, e2, hf, ht⟩ := hs x ρ List.mem_cons_self h0
    rw [List.map_cons]
    unfold lcM
    rw [e1]
    dsimp only
    rw [e2]
    cases hp : p x with
    | false =>
      dsimp only
      rw [hp] at hf
      obtain ⟨ρ', e4, h4⟩ := lcM_filt enc p g I xs acc (wipeD ρ2 vs) (hf rfl) (by simp at hl ⊢; omega) fun y ρ hy h => hs y ρ (List.mem_cons_of_mem _ hy) h
      refine ⟨ρ', ?_, h4⟩
      rw [e4]
      simp [hp]
    | true =>
      dsimp only
      rw [hp] at ht
      obtain ⟨ρ3, e3, h3⟩ := ht rfl
      obtain ⟨ρ', e4, h4⟩ := lcM_filt enc p g I xs (acc ++ [g x]) (wipeD ρ3 vs) h3 (by simp at hl ⊢; omega) fun y ρ hy h => hs y ρ (List.mem_cons_of_mem _ hy) h
      refine ⟨ρ', ?_, h4⟩
      rw [e3]
      dsimp only
      rw [if_pos (by simp at hl; show acc.length < 16777216; omega), e4]
      simp [hp]
theorem rgC_map (n : Nat) : rgC 0 1 n = (List.range n).map fun i => .int (i : Nat) := by
  unfold rgC
  simp
theorem rgC_map1 (lo : Int) (n : Nat) : rgC lo 1 n = (List.range n).map fun i => .int (lo + (i : Nat)) := by
  unfold rgC
  simp
theorem dRng1 {n : Int} (h : n.natAbs ≤ 4611686018427387903) : dRng [.int n] = some (rgC 0 1 n.toNat) := if_pos (ok62_of h)
theorem dRng2 {i n : Int} (h : i.natAbs ≤ 4611686018427387903) (h' : n.natAbs ≤ 4611686018427387903) : dRng [.int i, .int n] = some (rgC i 1 (n - i).toNat) := if_pos (by rw [ok62_of h, ok62_of h']; rfl)
theorem mLc_ok {fi : Mr (List D)} {vs : List Nat} {gt : D → De → Option De} {ft : Mr Bool} {fe : Mr D} {ρ ρ1 ρ2 : De} {ds ys : List D} (h : fi ρ = some (.ok ds ρ1)) (h2 : lcM vs gt ft fe ds [] (wipeD ρ1 vs) = some (ys, ρ2)) : mLc fi vs gt ft fe ρ = some (.ok (.lst ys) (wipeD ρ2 vs)) := by
  unfold mLc
  rw [bnd_ok h, h2]
theorem mFor_ok {fi : Mr (List D)} {gt : D → De → Option De} {body : Mr Fl} {ρ ρ1 : De} {ds : List D} (h : fi ρ = some (.ok ds ρ1)) : mFor fi gt body ρ = forM gt body ds ρ1 := bnd_ok h
theorem mAsg_ok {f : Mr D} {gt : D → De → Option De} {ρ ρ1 ρ2 : De} {d : D} (h : f ρ = some (.ok d ρ1)) (h2 : gt d ρ1 = some ρ2) : mAsg f gt ρ = some (.ok .nx ρ2) := by
  unfold mAsg
  rw [bnd_ok h, h2]
theorem mCl0_ok {ks : List AK} {F : List D → Option (Rs D)} {fr : Mr (List D)} {ρ ρ1 : De} {ds : List D} {d : D} {fs : De} (h : fr ρ = some (.ok ds ρ1)) (h2 : F ds = some (.ok d fs)) : mCl0 ks F fr ρ = some (.ok d (backIo ks fs ρ1)) := by
  unfold mCl0
  rw [bnd_ok h, h2]
end Dl
/-! Dl, thirteenth part: more reckoning. -/
namespace Dl
open PySem L2
theorem maskIo_nil (n : Nat) (ρ : De) : maskIo [] n ρ = List.replicate n none := by
  unfold maskIo
  rw [List.eq_replicate_iff]
  simp
theorem bIsi_bool (d : D) : bIsi .bool [d, .val (.ty "bool")] = (isiD .bool d).map .bl := by cases d <;> rfl
theorem bIsi_int (d : D) : bIsi .int [d, .val (.ty "int")] = (isiD .int d).map .bl := by cases d <;> rfl
theorem bIsi_str (d : D) : bIsi .str [d, .val (.ty "str")] = (isiD .str d).map .bl := by cases d <;> rfl
theorem bIsi_dict (d : D) : bIsi .dict [d, .val (.ty "dict")] = (isiD .dict d).map .bl := by cases d <;> rfl
theorem bIsi_list (d : D) : bIsi .list [d, .val (.ty "list")] = (isiD .list d).map .bl := by cases d <;> rfl
theorem bIsi_tuple (d : D) : bIsi .tuple [d, .val (.ty "tuple")] = (isiD .tuple d).map .bl := by cases d <;> rfl
/-- a comprehension over what is known, of a body that leaves the names as they were -/
theorem mLc_map {fi : Mr (List D)} {vs : List Nat} {gt : D → De → Option De} {fe : Mr D} {ρ ρ1 : De} {α : Type} (enc : α → D) (g : α → D) (xs : List α) (hfi : fi ρ = some (.ok (xs.map enc) ρ1)) (hi : wipeD (wipeD ρ1 vs) vs = wipeD ρ1 vs) (hl : xs.length ≤ 16777216)
    (hs : ∀ x ∈ xs, ∃ ρ2 ρ3, gt (enc x) (wipeD ρ1 vs) = some ρ2 ∧ fe ρ2 = some (.ok (g x) ρ3) ∧ wipeD ρ3 vs = wipeD ρ1 vs) : mLc fi vs gt (ret true) fe ρ = some (.ok (.lst (xs.map g)) (wipeD ρ1 vs)) := by
  obtain ⟨ρ', e, h⟩ := lcM_map (vs := vs) (gt := gt) (ft := ret true) (fe := fe) enc g (fun ρ => ρ = wipeD ρ1 vs) xs [] (wipeD ρ1 vs) rfl (by simpa using hl) fun x ρ hx e => by
    subst e
    obtain ⟨ρ2, ρ3, e1, e2, e3⟩ := hs x hx
    exact ⟨ρ2, ρ2, ρ3, e1, rfl, e2, e3⟩
  rw [mLc_ok hfi e, h, hi]; rfl
theorem mLc_mp {fi : Mr (List D)} {vs : List Nat} {gt : D → De → Option De} {fe : Mr D} {ρ : De} {α : Type} (enc : α → D) (g : α → D) (xs : List α) (hfi : fi ρ = some (.ok (xs.map enc) ρ)) (hi : wipeD (wipeD ρ vs) vs = wipeD ρ vs) (hl : xs.length ≤ 16777216)
    (hs : ∀ x ∈ xs, ∃ ρ2 ρ3, gt (enc x) (wipeD ρ vs) = some ρ2 ∧ fe ρ2 = some (.ok (g x) ρ3) ∧ wipeD ρ3 vs = wipeD ρ vs) : mLc fi vs gt (ret true) fe ρ = some (.ok (.lst (xs.map g)) (wipeD ρ vs)) := mLc_map enc g xs hfi hi hl hs
theorem dIx_l {xs : List D} {i : Nat} (h : i < xs.length) : dIx (.lst xs) (.int i) = some xs[i] := atI_natD h
theorem dIx_t {xs : List D} {i : Nat} (h : i < xs.length) : dIx (.tup xs) (.int i) = some xs[i] := atI_natD h
theorem nat_cast_div (a b : Nat) : ((a : Int) / (b : Int)) = ((a / b : Nat) : Int) := rfl
theorem nat_cast_mod (a b : Nat) : ((a : Int) % (b : Int)) = ((a % b : Nat) : Int) := rfl
theorem nat_cast_mul (a b : Nat) : ((a : Int) * (b : Int)) = ((a * b : Nat) : Int) := rfl
theorem nat_cast_add (a b : Nat) : ((a : Int) + (b : Int)) = ((a + b : Nat) : Int) := rfl
theorem lc_step {gt : D → De → Option De} {fe : Mr D} {vs : List Nat} {ρ ρ2 ρ3 : De} {d y : D} (a : gt d (wipeD ρ vs) = some ρ2) (b : fe ρ2 = some (.ok y ρ3)) (c : wipeD ρ3 vs = wipeD ρ vs) : ∃ ρ2 ρ3, gt d (wipeD ρ vs) = some ρ2 ∧ fe ρ2 = some (.ok y ρ3) ∧ wipeD ρ3 vs = wipeD ρ vs := ⟨_, _, a, b, c⟩
theorem for_nx {gt : D → De → Option De} {body : Mr Fl} {ρ ρ1 ρ2 : De} {d : D} {P : De → Prop} (a : gt d ρ = some ρ1) (b : body ρ1 = some (.ok .nx ρ2)) (c : P ρ2) : ∃ ρ1 ρ2, gt d ρ = some ρ1 ∧ (body ρ1 = some (.ok .nx ρ2) ∨ body ρ1 = some (.ok .ct ρ2)) ∧ P ρ2 := ⟨_, _, a, .inl b, c⟩
theorem mFor_fold {σ α : Type} {fi : Mr (List D)} {gt : D → De → Option De} {body : Mr Fl} {ρ ρ1 : De} (E : σ → De → Prop) (enc : α → D) (step : σ → α → σ) (xs : List α) (s : σ) (hfi : fi ρ = some (.ok (xs.map enc) ρ1)) (h0 : E s ρ1)
    (hs : ∀ s x ρ, x ∈ xs → E s ρ → ∃ ρ1 ρ2, gt (enc x) ρ = some ρ1 ∧ (body ρ1 = some (.ok .nx ρ2) ∨ body ρ1 = some (.ok .ct ρ2)) ∧ E (step s x) ρ2) : ∃ ρ', mFor fi gt body ρ = some (.ok .nx ρ') ∧ E (xs.foldl step s) ρ' := by
  obtain ⟨ρ', e, h⟩ := forM_fold E enc step xs s ρ1 h0 hs
  exact ⟨ρ', by rw [mFor_ok hfi, e], h⟩
theorem mFor_fd {σ α : Type} {fi : Mr (List D)} {gt : D → De → Option De} {body : Mr Fl} {ρ : De} (E : σ → De → Prop) (enc : α → D) (step : σ → α → σ) (xs : List α) (s : σ) (hfi : fi ρ = some (.ok (xs.map enc) ρ)) (h0 : E s ρ)
    (hs : ∀ s x ρ, x ∈ xs → E s ρ → ∃ ρ1 ρ2, gt (enc x) ρ = some ρ1 ∧ (body ρ1 = some (.ok .nx ρ2) ∨ body ρ1 = some (.ok .ct ρ2)) ∧ E (step s x) ρ2) : ∃ ρ', mFor fi gt body ρ = some (.ok .nx ρ') ∧ E (xs.foldl step s) ρ' := mFor_fold E enc step xs s hfi h0 hs
theorem forM_app {α β : Type} {gt : D → De → Option De} {body : Mr Fl} (E : List β → De → Prop) (enc : α → D) (g : α → β) (zs : List α) : ∀ (ys xs : List α) (ρ : De), zs = ys ++ xs → E (ys.map g) ρ →
    (∀ acc x ρ, x ∈ zs → acc.length < zs.length → E acc ρ → ∃ ρ1 ρ2, gt (enc x) ρ = some ρ1 ∧ (body ρ1 = some (.ok .nx ρ2) ∨ body ρ1 = some (.ok .ct ρ2)) ∧ E (acc ++ [g x]) ρ2) → ∃ ρ', forM gt body (xs.map enc) ρ = some (.ok .nx ρ') ∧ E (zs.map g) ρ'
  | ys, [], ρ, hz, h0, _ => ⟨ρ, rfl, by rw [hz, List.append_nil]; exact h0⟩
  | ys, x :: xs, ρ, hz, h0, hs => by
    obtain ⟨ρ1, ρ2, e1, e2, h2⟩ := hs (ys.map g) x ρ (by rw [hz]; simp) (by rw [hz]; simp) h0
    obtain ⟨ρ', e3, h3⟩ := forM_app E enc g zs (ys ++ [x]) xs ρ2 (by rw [hz]; simp) (by rw [List.map_append]; exact h2) hs
    refine ⟨ρ', ?_, h3⟩
    rw [List.map_cons]
    unfold forM
    rw [e1]
    dsimp only
    rcases e2 with e2 | e2 <;> rw [e2] <;> exact e3
/-- a loop that grows a list -/
theorem mFor_app {α β : Type} {fi : Mr (List D)} {gt : D → De → Option De} {body : Mr Fl} {ρ : De} (E : List β → De → Prop) (enc : α → D) (g : α → β) (xs : List α) (hfi : fi ρ = some (.ok (xs.map enc) ρ)) (h0 : E [] ρ)
    (hs : ∀ acc x ρ, x ∈ xs → acc.length < xs.length → E acc ρ → ∃ ρ1 ρ2, gt (enc x) ρ = some ρ1 ∧ (body ρ1 = some (.ok .nx ρ2) ∨ body ρ1 = some (.ok .ct ρ2)) ∧ E (acc ++ [g x]) ρ2) : ∃ ρ', mFor fi gt body ρ = some (.ok .nx ρ') ∧ E (xs.map g) ρ' := by
  obtain ⟨ρ', e, h⟩ := forM_app (gt := gt) (body := body) E enc g xs [] xs ρ rfl h0 hs
  exact ⟨ρ', by rw [mFor_ok hfi, e], h⟩
theorem dAdd_l {xs ys : List D} (h : xs.length + ys.length ≤ 16777216) : dAdd (.lst xs) (.lst ys) = some (.lst (xs ++ ys)) := if_pos h
theorem dAdd_t {xs ys : List D} (h : xs.length + ys.length ≤ 16777216) : dAdd (.tup xs) (.tup ys) = some (.tup (xs ++ ys)) := if_pos h
theorem bAll_true {xs : List D} (h : ∀ x ∈ xs, x = .bl true) : bAll [.lst xs] = some (.bl true) := by
  have : boolsD xs = some (xs.map fun _ => true) := by
    induction xs with
    | nil => rfl
    | cons x xs ih =>
      rw [h x List.mem_cons_self]
      unfold boolsD
      rw [ih fun y hy => h y (List.mem_cons_of_mem _ hy)]; rfl
  show (boolsD xs).map _ = _
  rw [this]
  simp
theorem dEq_nat (n m : Nat) : dEq (.int n) (.int m) = some (.bl (decide (n = m))) := by
  rw [dEq_i]
  congr 2
  rw [Bool.eq_iff_iff]
  simp only [beq_iff_eq, decide_eq_true_eq]
  omega
/-- what is built of numbers and nothing, to a depth -/
def Dat : Nat → D → Prop
  | 0, d => d = .non ∨ ∃ i, d = .int i
  | n + 1, d => (d = .non ∨ ∃ i, d = .int i) ∨ ∃ xs, (d = .lst xs ∨ d = .tup xs) ∧ xs.length ≤ 16777216 ∧ ∀ x ∈ xs, Dat n x
theorem Dat.up : ∀ {n : Nat} {d : D}, Dat n d → Dat (n + 1) d
  | 0, _, h => .inl h
  | n + 1, _, .inl h => .inl h
  | n + 1, _, .inr ⟨xs, a, b, c⟩ => .inr ⟨xs, a, b, fun x hx => (c x hx).up⟩
theorem Dat.non {n : Nat} : Dat n .non := by cases n with
  | zero => exact .inl rfl
  | succ n => exact .inl (.inl rfl)
theorem Dat.int {n : Nat} {i : Int} : Dat n (.int i) := by cases n with
  | zero => exact .inr ⟨_, rfl⟩
  | succ n => exact .inl (.inr ⟨_, rfl⟩)
theorem Dat.lst {n : Nat} {xs : List D} (h : xs.length ≤ 16777216) (h2 : ∀ x ∈ xs, Dat n x) : Dat (n + 1) (.lst xs) := .inr ⟨xs, .inl rfl, h, h2⟩
theorem Dat.tup {n : Nat} {xs : List D} (h : xs.length ≤ 16777216) (h2 : ∀ x ∈ xs, Dat n x) : Dat (n + 1) (.tup xs) := .inr ⟨xs, .inr rfl, h, h2⟩
section
variable {α β : Type} (ρ : De)
theorem bnd_ap (f : Mr α) (g : α → Mr β) : bnd f g ρ = (match f ρ with | none => none | some (.ok a ρ') => g a ρ' | some (.ex x ρ') => some (.ex x ρ')) := by unfold bnd; rfl
theorem lft_ap (o : Option α) : lft o ρ = (match o with | none => none | some a => some (.ok a ρ)) := by unfold lft; rfl
theorem ret_ap (a : α) : ret a ρ = some (.ok a ρ) := rfl
theorem mSeq_ap (f g : Mr Fl) : mSeq f g ρ = (match f ρ with | some (.ok .nx ρ') => g ρ' | r => r) := by unfold mSeq; rfl
theorem mVar_ap (i : Nat) : mVar i ρ = (match ρ[i]? with | some (some d) => some (.ok d ρ) | _ => none) := rfl
theorem mMov_ap (i : Nat) : mMov i ρ = (match ρ[i]? with | some (some d) => (match isShd d with | true => none | false => some (.ok d (ρ.set i none))) | _ => none) := by
  unfold mMov
  cases ρ[i]? with
  | none => rfl
  | some o =>
    cases o with
    | none => rfl
    | some d =>
      dsimp only
      cases isShd d <;> rfl
theorem isShd_non : isShd .non = false := rfl
theorem isShd_bl (b : Bool) : isShd (.bl b) = false := rfl
theorem isShd_int (i : Int) : isShd (.int i) = false := rfl
theorem isShd_str (i : Str) : isShd (.str i) = false := rfl
theorem isShd_lst (i : List D) : isShd (.lst i) = false := rfl
theorem isShd_tup (i : List D) : isShd (.tup i) = false := rfl
theorem isShd_frl (i : List D) : isShd (.frl i) = false := rfl
theorem isShd_shd (i : D) : isShd (.shd i) = true := rfl
theorem unsh_non : unsh .non = .non := rfl
theorem unsh_bl (b : Bool) : unsh (.bl b) = (.bl b) := rfl
theorem unsh_int (i : Int) : unsh (.int i) = (.int i) := rfl
theorem unsh_str (i : Str) : unsh (.str i) = (.str i) := rfl
theorem unsh_lst (i : List D) : unsh (.lst i) = (.lst i) := rfl
theorem unsh_tup (i : List D) : unsh (.tup i) = (.tup i) := rfl
theorem unsh_frl (i : List D) : unsh (.frl i) = (.frl i) := rfl
theorem unsh_shd (i : D) : unsh (.shd i) = i := rfl
theorem ite_lim {α : Type} {n : Nat} {x y : α} (h : n < 16777216) : (if n < 16777216 then x else y) = x := if_pos h
theorem dLst_nil : dLst [] = some (.lst []) := rfl
theorem dTup_nil : dTup [] = some (.tup []) := rfl
theorem mTk_ap (i : Nat) : mTk i ρ = (match ρ[i]? with | some (some d) => some (.ok d (ρ.set i none)) | _ => none) := rfl
theorem mFz_ap (i : Nat) : mFz i ρ = (match ρ[i]? with | some (some d) => some (.ok (unsh d) (ρ.set i (some (.shd (unsh d))))) | _ => none) := rfl
theorem mScal_ap (f : Mr D) : mScal f ρ = bnd f (fun d => if scal d then ret d else fun _ => none) ρ := rfl
theorem mScl1_ap (f : Mr D) : mScl1 f ρ = bnd f (fun d => if scal1 d then ret d else fun _ => none) ρ := rfl
theorem mOp_ap (g : D → D → Option D) (f f' : Mr D) : mOp g f f' ρ = bnd f (fun a => bnd f' fun b => lft (g a b)) ρ := by
  unfold mOp mPair bnd
  cases f ρ with
  | none => rfl
  | some r => cases r with
    | ex x ρ => rfl
    | ok a ρ1 =>
      dsimp only
      cases f' ρ1 with
      | none => rfl
      | some r => cases r <;> rfl
theorem mUn_ap (g : D → Option D) (f : Mr D) : mUn g f ρ = bnd f (fun a => lft (g a)) ρ := rfl
theorem mPair_ap (f : Mr α) (g : Mr β) : mPair f g ρ = bnd f (fun a => bnd g fun b => ret (a, b)) ρ := rfl
theorem mNil_ap : mNil ρ = some (.ok [] ρ) := rfl
theorem mCons_ap (f : Mr D) (g : Mr (List D)) : mCons f g ρ = bnd f (fun a => bnd g fun b => ret (a :: b)) ρ := by
  unfold mCons mPair bnd
  cases f ρ with
  | none => rfl
  | some r => cases r with
    | ex x ρ => rfl
    | ok a ρ1 =>
      dsimp only
      cases g ρ1 with
      | none => rfl
      | some r => cases r <;> rfl
theorem mCall_ap (g : List D → Option D) (f : Mr (List D)) : mCall g f ρ = bnd f (fun ds => lft (g ds)) ρ := rfl
theorem mCl0_ap (ks : List AK) (F : List D → Option (Rs D)) (fr : Mr (List D)) : mCl0 ks F fr ρ = bnd fr (fun ds ρ => match F ds with | some (.ok d fs) => some (.ok d (backIo ks fs ρ)) | _ => none) ρ := rfl
theorem mClX_ap (ks : List AK) (F : List D → Option (Rs D)) (fr : Mr (List D)) : mClX ks F fr ρ = bnd fr (fun ds ρ => match F ds with | some (.ok d fs) => some (.ok d (backIo ks fs ρ)) | some (.ex x fs) => some (.ex x (backIo ks fs ρ)) | none => none) ρ := rfl
theorem mIf_ap (g : Mr Bool) (f f' : Mr α) : mIf g f f' ρ = bnd g (fun k ρ => if k = true then f ρ else f' ρ) ρ := by
  unfold mIf bnd
  cases g ρ with
  | none => rfl
  | some r => cases r with
    | ex x ρ => rfl
    | ok a ρ1 => cases a <;> rfl
theorem mNot_ap (g : Mr Bool) : mNot g ρ = bnd g (fun k => ret (!k)) ρ := rfl
theorem mAnd_ap (g g' : Mr Bool) : mAnd g g' ρ = bnd g (fun k ρ => if k = true then g' ρ else some (.ok false ρ)) ρ := by
  unfold mAnd bnd
  cases g ρ with
  | none => rfl
  | some r => cases r with
    | ex x ρ => rfl
    | ok a ρ1 => cases a <;> rfl
theorem mOr_ap (g g' : Mr Bool) : mOr g g' ρ = bnd g (fun k ρ => if k = true then some (.ok true ρ) else g' ρ) ρ := by
  unfold mOr bnd
  cases g ρ with
  | none => rfl
  | some r => cases r with
    | ex x ρ => rfl
    | ok a ρ1 => cases a <;> rfl
theorem mAndV_ap (f f' : Mr D) : mAndV f f' ρ = bnd f (fun d => bnd (lft (dTr d)) fun k ρ => if k = true then f' ρ else some (.ok d ρ)) ρ := by
  unfold mAndV bnd lft
  cases f ρ with
  | none => rfl
  | some r => cases r with
    | ex x ρ => rfl
    | ok a ρ1 =>
      dsimp only
      cases dTr a with
      | none => rfl
      | some k => cases k <;> rfl
theorem mOrV_ap (f f' : Mr D) : mOrV f f' ρ = bnd f (fun d => bnd (lft (dTr d)) fun k ρ => if k = true then some (.ok d ρ) else f' ρ) ρ := by
  unfold mOrV bnd lft
  cases f ρ with
  | none => rfl
  | some r => cases r with
    | ex x ρ => rfl
    | ok a ρ1 =>
      dsimp only
      cases dTr a with
      | none => rfl
      | some k => cases k <;> rfl
theorem mNotV_ap (f : Mr D) : mNotV f ρ = bnd f (fun d => bnd (lft (dTr d)) fun k => ret (.bl (!k))) ρ := rfl
theorem mChain_ap (g g' : D → D → Option D) (fa fb fc : Mr D) : mChain g g' fa fb fc ρ = bnd (mPair fa fb) (fun p => bnd (lft ((g p.1 p.2).bind dBool)) fun k => if k = true then bnd fc fun z => lft (g' p.2 z) else ret (.bl false)) ρ := by unfold mChain; rfl
theorem mAsg_ap (f : Mr D) (gt : D → De → Option De) : mAsg f gt ρ = bnd f (fun d ρ => match gt d ρ with | none => none | some ρ' => some (.ok .nx ρ')) ρ := rfl
theorem mSkip_ap : mSkip ρ = some (.ok .nx ρ) := rfl
theorem mRng_ap (f : Mr (List D)) : mRng f ρ = bnd f (fun ds => lft (dRng ds)) ρ := rfl
end
section
variable (ρ : De)
theorem mRead_ap (i : Nat) (f : Mr (D × List Nat)) : mRead i f ρ = bnd f (fun rp ρ => match getP rp.1 rp.2 with | some d => some (.ok (unsh d) (ρ.set i (some rp.1))) | none => none) ρ := rfl
theorem mReadU_ap (i : Nat) (f : Mr (D × List Nat)) : mReadU i f ρ = bnd f (fun rp ρ => match (getP rp.1 rp.2).bind shOf with | some d => some (.ok d (ρ.set i (some rp.1))) | none => none) ρ := rfl
theorem mApp_ap (i : Nat) (f : Mr (D × List Nat)) (fe : Mr (List D)) : mApp i f fe ρ = bnd f (fun rp ρ => match getP rp.1 rp.2 with
  | some (.lst ds) => (match fe ρ with
    | some (.ok [d] ρ') => if ds.length < lim then some (.ok .non (ρ'.set i (some (setP rp.1 rp.2 (.lst (ds ++ [d])))))) else none
    | _ => none)
  | _ => none) ρ := rfl
theorem mPop_ap (i : Nat) (f : Mr (D × List Nat)) (fe : Mr (List D)) : mPop i f fe ρ = bnd f (fun rp ρ => match getP rp.1 rp.2 with
  | some (.lst ds) => (match fe ρ with
    | some (.ok as ρ') => (match popIx ds.length as with
      | some k => (match ds[k]? with
        | some d => some (.ok d (ρ'.set i (some (setP rp.1 rp.2 (.lst (ds.eraseIdx k))))))
        | none => none)
      | none => none)
    | _ => none)
  | _ => none) ρ := rfl
theorem mPopV_ap (i : Nat) (fe : Mr (List D)) : mPopV i fe ρ = (match ρ[i]? with
  | some (some (.lst _)) => (match fe ρ with
    | some (.ok as ρ') => (match ρ'[i]? with
      | some (some (.lst ds)) => (match popIx ds.length as with
        | some k => (match ds[k]? with
          | some d => some (.ok d ((ρ'.set i none).set i (some (.lst (ds.eraseIdx k)))))
          | none => none)
        | none => none)
      | _ => none)
    | _ => none)
  | _ => none) := rfl
theorem mDisp_ap (ks : List Key) (fr : Mr (List D)) : mDisp ks fr ρ = bnd fr (fun ds => ret (.dK ks ds)) ρ := rfl
theorem mLen_ap (i : Nat) (f : Mr (D × List Nat)) : mLen i f ρ = bnd f (fun rp ρ => match getP rp.1 rp.2 with
  | some d => (match anyItems d with
    | some ds => some (.ok (.int ds.length) (ρ.set i (some rp.1)))
    | none => none)
  | none => none) ρ := rfl
end
theorem sz_nat {m n : Nat} (hn : 0 < n) : Builtin.Range.rangeSize 0 (m : Int) (n : Int) = (((m + n - 1) / n : Nat) : Int) := by
  unfold Builtin.Range.rangeSize
  rw [if_pos (by omega)]
  split
  · rename_i h
    have h : 0 < m := by omega
    obtain ⟨k, rfl⟩ : ∃ k, m = k + 1 := ⟨m - 1, by omega⟩
    rw [show k + 1 + n - 1 = k + n by omega, Nat.add_div_right _ hn, show ((k + 1 : Nat) : Int) - 0 - 1 = (k : Nat) by omega]
    rfl
  · have h : m = 0 := by omega
    subst h
    rw [Nat.zero_add, Nat.div_eq_of_lt (by omega)]; rfl
theorem sz_le {m n : Nat} (hn : 0 < n) : (m + n - 1) / n ≤ m := by
  rcases Nat.eq_zero_or_pos m with h | h
  · subst h; rw [Nat.zero_add, Nat.div_eq_of_lt (by omega)]; omega
  · obtain ⟨k, rfl⟩ : ∃ k, m = k + 1 := ⟨m - 1, by omega⟩
    rw [show k + 1 + n - 1 = k + n by omega, Nat.add_div_right _ hn]
    have := Nat.div_le_self k n
    omega
theorem sz_mul {m n i : Nat} (hn : 0 < n) (h : i < (m + n - 1) / n) : i * n < m := by
  have h1 := Nat.mul_le_mul_right n (Nat.succ_le_of_lt h)
  have h2 := Nat.div_mul_le_self (m + n - 1) n
  rw [Nat.succ_mul] at h1
  omega
theorem dRng3 {m n : Nat} (hm : m < 1000000) (hn : 0 < n) (hn2 : n < 1000000) : dRng [.int 0, .int (m : Nat), .int (n : Nat)] = some ((List.range ((m + n - 1) / n)).map fun i : Nat => .int (i * n : Nat)) := by
  have hs : Builtin.Range.small 0 (m : Int) (n : Int) = true := by
    have h1 := sz_le (m := m) hn
    unfold Builtin.Range.small
    rw [sz_nat hn]
    simp only [Builtin.Range.rangeFitsLong, Bool.and_eq_true, Bool.or_eq_true, decide_eq_true_eq, beq_iff_eq]
    generalize ((m + n - 1) / n) = q at *
    refine ⟨⟨⟨⟨by decide, by omega, by omega⟩, by omega, by omega⟩, by omega, by omega⟩, .inr ?_⟩
    rw [if_pos (by omega)]
    simp only [Bool.and_eq_true, decide_eq_true_eq]
    omega
  have e : ((n : Int) != 0 && decide ((n : Int).natAbs < 1073741824) && Builtin.Range.small 0 (m : Int) (n : Int)) = true := by
    rw [hs]
    simp
    omega
  have e2 : dRng [.int 0, .int (m : Nat), .int (n : Nat)] = if ((n : Int) != 0 && decide ((n : Int).natAbs < 1073741824) && Builtin.Range.small 0 (m : Int) (n : Int)) = true then some (rgC 0 n (Builtin.Range.rangeSize 0 m n).toNat) else none := by
    unfold dRng
    simp only
  rw [e2, e, if_pos rfl]
  unfold rgC
  rw [sz_nat hn, Int.toNat_natCast]
  refine congrArg some (List.map_congr_left fun i _ => congrArg D.int ?_)
  rw [Int.zero_add, Int.natCast_mul]
theorem bMin2 (i j : Int) : bMin [.int i, .int j] = some (.int (if j < i then j else i)) := rfl
theorem bMin_n (i j : Nat) : bMin [.int i, .int j] = some (.int (min i j : Nat)) := by
  rw [bMin2]
  congr 2
  split <;> omega
theorem nat_cast_sub {a b : Nat} (h : b ≤ a) : ((a : Int) - (b : Int)) = ((a - b : Nat) : Int) := by omega
theorem nat_add_lit (a n : Nat) : ((a : Int) + (no_index (OfNat.ofNat n) : Int)) = ((a + OfNat.ofNat n : Nat) : Int) := rfl
theorem lit_add_nat (a n : Nat) : ((no_index (OfNat.ofNat n) : Int) + (a : Int)) = ((OfNat.ofNat n + a : Nat) : Int) := rfl
theorem nat_mul_lit (a n : Nat) : ((a : Int) * (no_index (OfNat.ofNat n) : Int)) = ((a * OfNat.ofNat n : Nat) : Int) := rfl
theorem lit_mul_nat (a n : Nat) : ((no_index (OfNat.ofNat n) : Int) * (a : Int)) = ((OfNat.ofNat n * a : Nat) : Int) := rfl
theorem nat_div_lit (a n : Nat) : ((a : Int) / (no_index (OfNat.ofNat n) : Int)) = ((a / OfNat.ofNat n : Nat) : Int) := rfl
theorem nat_mod_lit (a n : Nat) : ((a : Int) % (no_index (OfNat.ofNat n) : Int)) = ((a % OfNat.ofNat n : Nat) : Int) := rfl
theorem nat_sub_lit {a n : Nat} (h : OfNat.ofNat n ≤ a) : ((a : Int) - (no_index (OfNat.ofNat n) : Int)) = ((a - OfNat.ofNat n : Nat) : Int) := nat_cast_sub h
theorem nat_lt (a b : Nat) : ((a : Int) < (b : Int)) = (a < b) := propext Int.ofNat_lt
theorem nat_le (a b : Nat) : ((a : Int) ≤ (b : Int)) = (a ≤ b) := propext Int.ofNat_le
theorem nat_eq (a b : Nat) : (((a : Int) == (b : Int)) : Bool) = (a == b) := by
  rw [Bool.eq_iff_iff]
  simp only [beq_iff_eq]
  omega
theorem nat_lt_lit (a n : Nat) : ((a : Int) < (no_index (OfNat.ofNat n) : Int)) = (a < OfNat.ofNat n) := propext Int.ofNat_lt
theorem lit_lt_nat (a n : Nat) : ((no_index (OfNat.ofNat n) : Int) < (a : Int)) = (OfNat.ofNat n < a) := propext Int.ofNat_lt
theorem nat_le_lit (a n : Nat) : ((a : Int) ≤ (no_index (OfNat.ofNat n) : Int)) = (a ≤ OfNat.ofNat n) := propext Int.ofNat_le
theorem lit_le_nat (a n : Nat) : ((no_index (OfNat.ofNat n) : Int) ≤ (a : Int)) = (OfNat.ofNat n ≤ a) := propext Int.ofNat_le
theorem dRng_two {m : Nat} (hm : m < 1000000) : dRng [.int 0, .int (m : Nat), .int 2] = some ((List.range ((m + 1) / 2)).map fun i : Nat => .int (i * 2 : Nat)) := dRng3 (n := 2) hm (by omega) (by omega)
theorem bodyF0_ok {n : Nat} {f : Mr Fl} {ds : List D} {d : D} {ρ0 ρ : De} (h0 : ds.map some ++ List.replicate (n - ds.length) none = ρ0) (h : f ρ0 = some (.ok (.rt d) ρ)) : bodyF0 n [] f ds = some (.ok d (List.replicate ds.length none)) := by
  unfold bodyF0
  rw [h0, h]
  dsimp only
  rw [maskIo_nil]
theorem bnd_ret {f : Mr D} {ρ ρ1 : De} {d : D} (h : f ρ = some (.ok d ρ1)) : bnd f (fun d => Dl.ret (Fl.rt d)) ρ = some (.ok (Fl.rt d) ρ1) := by
  rw [bnd_ok h]; rfl
theorem dTup_1 (a : D) : dTup [a] = some (.tup [a]) := rfl
theorem dLst_1 (a : D) : dLst [a] = some (.lst [a]) := rfl
theorem dTup_2 (a b : D) : dTup [a, b] = some (.tup [a, b]) := rfl
theorem dLst_2 (a b : D) : dLst [a, b] = some (.lst [a, b]) := rfl
theorem dTup_3 (a b c : D) : dTup [a, b, c] = some (.tup [a, b, c]) := rfl
theorem dLst_3 (a b c : D) : dLst [a, b, c] = some (.lst [a, b, c]) := rfl
theorem dTup_4 (a b c d : D) : dTup [a, b, c, d] = some (.tup [a, b, c, d]) := rfl
theorem dLst_4 (a b c d : D) : dLst [a, b, c, d] = some (.lst [a, b, c, d]) := rfl
theorem dTup_5 (a b c d e : D) : dTup [a, b, c, d, e] = some (.tup [a, b, c, d, e]) := rfl
theorem dLst_5 (a b c d e : D) : dLst [a, b, c, d, e] = some (.lst [a, b, c, d, e]) := rfl
theorem toNat_lit (n : Nat) : Int.toNat (no_index (OfNat.ofNat n)) = OfNat.ofNat n := rfl
theorem dRng_n {n : Nat} (h : n ≤ 1000000000) : dRng [.int (n : Nat)] = some ((List.range n).map fun i : Nat => .int i) := by
  rw [dRng1 (by omega), rgC_map, Int.toNat_natCast]
theorem whileM_stop {g : Mr Bool} {f : Mr Fl} {ρ ρ1 : De} {n : Nat} (h : g ρ = some (.ok false ρ1)) : whileM g f (n + 1) ρ = some (.ok .nx ρ1) := by
  unfold whileM
  rw [h]
theorem whileM_go {g : Mr Bool} {f : Mr Fl} {ρ ρ1 ρ2 : De} {n : Nat} (h : g ρ = some (.ok true ρ1)) (h2 : f ρ1 = some (.ok .nx ρ2)) : whileM g f (n + 1) ρ = whileM g f n ρ2 := by
  conv => lhs; unfold whileM
  rw [h]
  dsimp only
  rw [h2]
/-- the greatest common divisor by remainders -/
theorem whileM_euclid {g : Mr Bool} {f : Mr Fl} (mk : Nat → Nat → De) (h0 : ∀ a, g (mk a 0) = some (.ok false (mk a 0))) (h1 : ∀ a b, 0 < b → g (mk a b) = some (.ok true (mk a b))) (hf : ∀ a b, 0 < b → f (mk a b) = some (.ok .nx (mk b (a % b)))) :
    ∀ (n a b fuel : Nat), b < 2 ^ n → 2 * n < fuel → whileM g f fuel (mk a b) = some (.ok .nx (mk (Nat.gcd a b) 0))
  | 0, a, b, fuel, hb, hl => by
    obtain ⟨k, rfl⟩ : ∃ k, fuel = k + 1 := ⟨fuel - 1, by omega⟩
    have : b = 0 := by simpa using hb
    subst this
    rw [whileM_stop (h0 a), Nat.gcd_zero_right]
  | n + 1, a, b, fuel, hb, hl => by
    obtain ⟨k, rfl⟩ : ∃ k, fuel = k + 2 := ⟨fuel - 2, by omega⟩
    rcases Nat.eq_zero_or_pos b with e | e
    · subst e
      rw [whileM_stop (h0 a), Nat.gcd_zero_right]
    rw [whileM_go (h1 a b e) (hf a b e)]
    have eg : Nat.gcd a b = Nat.gcd b (a % b) := by rw [Nat.gcd_comm a b, Nat.gcd_rec b a, Nat.gcd_comm]
    rcases Nat.eq_zero_or_pos (a % b) with e2 | e2
    · rw [eg, e2, whileM_stop (h0 b), Nat.gcd_zero_right]
    rw [whileM_go (h1 b _ e2) (hf b _ e2)]
    have eg2 : Nat.gcd b (a % b) = Nat.gcd (a % b) (b % (a % b)) := by rw [Nat.gcd_comm b, Nat.gcd_rec (a % b) b, Nat.gcd_comm]
    rw [eg, eg2]
    refine whileM_euclid mk h0 h1 hf n _ _ k ?_ (by omega)
    have r1 := Nat.mod_lt b e2
    have r2 := Nat.mod_lt a e
    have r3 := Nat.div_add_mod b (a % b)
    have r4 : 1 ≤ b / (a % b) := Nat.div_pos (by omega) e2
    have r5 : a % b ≤ (a % b) * (b / (a % b)) := Nat.le_mul_of_pos_right _ r4
    rw [Nat.pow_succ] at hb
    omega
end Dl
/-! Dl, fourteenth part: what holds of a mirror's end, step by step. -/
namespace Dl
open PySem L2
def kR {α : Type} (o : Option (Rs α)) (Q : Rs α → Prop) : Prop := match o with
  | some r => Q r
  | none => False
def Wp {α : Type} (f : Mr α) (ρ : De) (Q : Rs α → Prop) : Prop := kR (f ρ) Q
section
variable {α β : Type} {ρ : De}
def kB (g : α → Mr β) (Q : Rs β → Prop) : Rs α → Prop
  | .ok a ρ => Wp (g a) ρ Q
  | .ex x ρ => Q (.ex x ρ)
def kL (g : α → De → Option (Rs β)) (Q : Rs β → Prop) : Rs α → Prop
  | .ok a ρ => kR (g a ρ) Q
  | .ex x ρ => Q (.ex x ρ)
/-- a test -/
abbrev kTg (_ _ : Prop) : Type := Unit
def kC (k : Bool) (P P' : Prop) (_ : kTg P P' := (() : Unit)) (_ : True := trivial) : Prop := if k = true then P else P'
theorem kC_true (P P' : Prop) : kC true P P' = P := propext Iff.rfl
theorem kC_false (P P' : Prop) : kC false P P' = P' := propext Iff.rfl
theorem kC_by {k : Bool} {P P' : Prop} (h : k = true → P) (h' : k = false → P') : kC k P P' := by cases k with
  | true => exact h rfl
  | false => exact h' rfl
theorem kC_if {p : Prop} [Decidable p] {P P' : Prop} (h : p → P) (h' : ¬p → P') : kC (decide p) P P' := kC_by (fun e => h (of_decide_eq_true e)) fun e => h' (of_decide_eq_false e)
theorem kC_t {k : Bool} {P P' : Prop} (h : k = true) : kC k P P' = P := by rw [h]; rfl
theorem kC_f {k : Bool} {P P' : Prop} (h : k = false) : kC k P P' = P' := by rw [h]; rfl
def kV (o : Option (Option D)) (P : D → Prop) : Prop := match o with
  | some (some d) => P d
  | _ => False
theorem kV_some (d : D) (P : D → Prop) : kV (some (some d)) P = P d := propext Iff.rfl
def kG (o : Option De) (P : De → Prop) : Prop := match o with
  | some ρ => P ρ
  | none => False
theorem kG_some (ρ : De) (P : De → Prop) : kG (some ρ) P = P ρ := propext Iff.rfl
theorem kR_some (r : Rs α) (Q : Rs α → Prop) : kR (some r) Q = Q r := propext Iff.rfl
theorem kB_ok (g : α → Mr β) (Q : Rs β → Prop) (a : α) (ρ : De) : kB g Q (.ok a ρ) = Wp (g a) ρ Q := propext Iff.rfl
theorem kB_ex (g : α → Mr β) (Q : Rs β → Prop) (x : XD) (ρ : De) : kB g Q (.ex x ρ) = Q (.ex x ρ) := propext Iff.rfl
theorem kL_ok (g : α → De → Option (Rs β)) (Q : Rs β → Prop) (a : α) (ρ : De) : kL g Q (.ok a ρ) = kR (g a ρ) Q := propext Iff.rfl
theorem kL_ex (g : α → De → Option (Rs β)) (Q : Rs β → Prop) (x : XD) (ρ : De) : kL g Q (.ex x ρ) = Q (.ex x ρ) := propext Iff.rfl
theorem wp_bnd (f : Mr α) (g : α → Mr β) (Q : Rs β → Prop) : Wp (bnd f g) ρ Q = Wp f ρ (kB g Q) := by
  unfold Wp bnd
  cases f ρ with
  | none => rfl
  | some r => cases r <;> rfl
theorem wp_bndL (f : Mr α) (g : α → De → Option (Rs β)) (Q : Rs β → Prop) : Wp (bnd f g) ρ Q = Wp f ρ (kL g Q) := by
  unfold Wp bnd
  cases f ρ with
  | none => rfl
  | some r => cases r <;> rfl
theorem wp_ret (a : α) (Q : Rs α → Prop) : Wp (ret a) ρ Q = Q (.ok a ρ) := propext Iff.rfl
def kO (o : Option α) (ρ : De) (Q : Rs α → Prop) : Prop := match o with
  | some a => Q (.ok a ρ)
  | none => False
theorem kO_some (a : α) (ρ : De) (Q : Rs α → Prop) : kO (some a) ρ Q = Q (.ok a ρ) := propext Iff.rfl
theorem wp_lft (o : Option α) (Q : Rs α → Prop) : Wp (lft o) ρ Q = kO o ρ Q := by
  cases o <;> rfl
theorem wp_var (i : Nat) (Q : Rs D → Prop) : Wp (mVar i) ρ Q = kV ρ[i]? fun d => Q (.ok d ρ) := by
  unfold Wp mVar
  cases ρ[i]? with
  | none => rfl
  | some o => cases o <;> rfl
theorem wp_mov (i : Nat) (Q : Rs D → Prop) : Wp (mMov i) ρ Q = kV ρ[i]? fun d => kC (isShd d) False (Q (.ok d (ρ.set i none))) := by
  unfold Wp
  rw [mMov_ap]
  cases ρ[i]? with
  | none => rfl
  | some o => cases o with
    | none => rfl
    | some d =>
      show kR _ _ = kC _ _ _
      dsimp only
      cases isShd d <;> rfl
theorem wp_fz (i : Nat) (Q : Rs D → Prop) : Wp (mFz i) ρ Q = kV ρ[i]? fun d => Q (.ok (unsh d) (ρ.set i (some (.shd (unsh d))))) := by
  unfold Wp mFz
  cases ρ[i]? with
  | none => rfl
  | some o => cases o <;> rfl
theorem wp_tk (i : Nat) (Q : Rs D → Prop) : Wp (mTk i) ρ Q = kV ρ[i]? fun d => Q (.ok d (ρ.set i none)) := by
  unfold Wp mTk
  cases ρ[i]? with
  | none => rfl
  | some o => cases o <;> rfl
theorem wp_cg {f g : Mr α} {Q : Rs α → Prop} (h : f ρ = g ρ) : Wp f ρ Q = Wp g ρ Q := by unfold Wp; rw [h]
theorem wp_pair (f : Mr α) (g : Mr β) (Q : Rs (α × β) → Prop) : Wp (mPair f g) ρ Q = Wp f ρ (kB (fun a => bnd g fun b => ret (a, b)) Q) := wp_bnd _ _ _
theorem wp_nil (Q : Rs (List D) → Prop) : Wp mNil ρ Q = Q (.ok [] ρ) := propext Iff.rfl
theorem wp_cons (f : Mr D) (g : Mr (List D)) (Q : Rs (List D) → Prop) : Wp (mCons f g) ρ Q = Wp f ρ (kB (fun a => bnd g fun b => ret (a :: b)) Q) := by
  rw [← wp_bnd]; exact wp_cg (mCons_ap ρ f g)
theorem wp_op (g : D → D → Option D) (f f' : Mr D) (Q : Rs D → Prop) : Wp (mOp g f f') ρ Q = Wp f ρ (kB (fun a => bnd f' fun b => lft (g a b)) Q) := by
  rw [← wp_bnd]; exact wp_cg (mOp_ap ρ g f f')
theorem wp_un (g : D → Option D) (f : Mr D) (Q : Rs D → Prop) : Wp (mUn g f) ρ Q = Wp f ρ (kB (fun a => lft (g a)) Q) := wp_bnd _ _ _
theorem wp_call (g : List D → Option D) (f : Mr (List D)) (Q : Rs D → Prop) : Wp (mCall g f) ρ Q = Wp f ρ (kB (fun a => lft (g a)) Q) := wp_bnd _ _ _
theorem wp_rng (f : Mr (List D)) (Q : Rs (List D) → Prop) : Wp (mRng f) ρ Q = Wp f ρ (kB (fun a => lft (dRng a)) Q) := wp_bnd _ _ _
theorem wp_scal (f : Mr D) (Q : Rs D → Prop) : Wp (mScal f) ρ Q = Wp f ρ (kL (fun d ρ => if scal d then some (.ok d ρ) else none) Q) := by
  rw [← wp_bndL]; exact wp_cg (by
    unfold mScal bnd
    cases f ρ with
    | none => rfl
    | some r => cases r with
      | ex => rfl
      | ok a ρ => dsimp only; cases scal a <;> rfl)
theorem wp_scl1 (f : Mr D) (Q : Rs D → Prop) : Wp (mScl1 f) ρ Q = Wp f ρ (kL (fun d ρ => if scal1 d then some (.ok d ρ) else none) Q) := by
  rw [← wp_bndL]; exact wp_cg (by
    unfold mScl1 bnd
    cases f ρ with
    | none => rfl
    | some r => cases r with
      | ex => rfl
      | ok a ρ => dsimp only; cases scal1 a <;> rfl)
/-! tests -/
def kI (f f' : Mr α) (Q : Rs α → Prop) : Rs Bool → Prop
  | .ok k ρ => kC k (Wp f ρ Q) (Wp f' ρ Q)
  | .ex x ρ => Q (.ex x ρ)
theorem kI_ok (f f' : Mr α) (Q : Rs α → Prop) (k : Bool) (ρ : De) : kI f f' Q (.ok k ρ) = kC k (Wp f ρ Q) (Wp f' ρ Q) := propext Iff.rfl
theorem wp_if (g : Mr Bool) (f f' : Mr α) (Q : Rs α → Prop) : Wp (mIf g f f') ρ Q = Wp g ρ (kI f f' Q) := by
  unfold Wp mIf bnd
  cases g ρ with
  | none => rfl
  | some r => cases r with
    | ex => rfl
    | ok k ρ => cases k <;> rfl
theorem wp_not (g : Mr Bool) (Q : Rs Bool → Prop) : Wp (mNot g) ρ Q = Wp g ρ (kB (fun k => ret (!k)) Q) := wp_bnd _ _ _
theorem wp_and (g g' : Mr Bool) (Q : Rs Bool → Prop) : Wp (mAnd g g') ρ Q = Wp g ρ (kI g' (ret false) Q) := by rw [← wp_if]; rfl
theorem wp_or (g g' : Mr Bool) (Q : Rs Bool → Prop) : Wp (mOr g g') ρ Q = Wp g ρ (kI (ret true) g' Q) := by rw [← wp_if]; rfl
def mIfK (k : Bool) (f f' : Mr α) : Mr α := if k = true then f else f'
theorem wp_ifk (k : Bool) (f f' : Mr α) (Q : Rs α → Prop) : Wp (mIfK k f f') ρ Q = kC k (Wp f ρ Q) (Wp f' ρ Q) := by cases k <;> rfl
theorem wp_andV (f f' : Mr D) (Q : Rs D → Prop) : Wp (mAndV f f') ρ Q = Wp f ρ (kB (fun d => bnd (lft (dTr d)) fun k => mIfK k f' (ret d)) Q) := by rw [← wp_bnd]; rfl
theorem wp_orV (f f' : Mr D) (Q : Rs D → Prop) : Wp (mOrV f f') ρ Q = Wp f ρ (kB (fun d => bnd (lft (dTr d)) fun k => mIfK k (ret d) f') Q) := by rw [← wp_bnd]; rfl
theorem wp_notV (f : Mr D) (Q : Rs D → Prop) : Wp (mNotV f) ρ Q = Wp f ρ (kB (fun d => bnd (lft (dTr d)) fun k => ret (.bl (!k))) Q) := wp_bnd _ _ _
theorem wp_chain (g g' : D → D → Option D) (fa fb fc : Mr D) (Q : Rs D → Prop) : Wp (mChain g g' fa fb fc) ρ Q = Wp fa ρ (kB (fun a => bnd fb fun b => bnd (lft ((g a b).bind dBool)) fun k => mIfK k (bnd fc fun z => lft (g' b z)) (ret (.bl false))) Q) := by
  rw [← wp_bnd]
  refine wp_cg ?_
  unfold mChain mPair bnd
  cases fa ρ with
  | none => rfl
  | some r => cases r with
    | ex => rfl
    | ok a ρ1 =>
      dsimp only
      cases fb ρ1 with
      | none => rfl
      | some r => cases r <;> rfl
/-! statements -/
def kS (g : Mr Fl) (Q : Rs Fl → Prop) : Rs Fl → Prop
  | .ok .nx ρ => Wp g ρ Q
  | r => Q r
theorem kS_nx (g : Mr Fl) (Q : Rs Fl → Prop) (ρ : De) : kS g Q (.ok .nx ρ) = Wp g ρ Q := propext Iff.rfl
theorem kS_rt (g : Mr Fl) (Q : Rs Fl → Prop) (d : D) (ρ : De) : kS g Q (.ok (.rt d) ρ) = Q (.ok (.rt d) ρ) := propext Iff.rfl
theorem kS_bk (g : Mr Fl) (Q : Rs Fl → Prop) (ρ : De) : kS g Q (.ok .bk ρ) = Q (.ok .bk ρ) := propext Iff.rfl
theorem kS_ct (g : Mr Fl) (Q : Rs Fl → Prop) (ρ : De) : kS g Q (.ok .ct ρ) = Q (.ok .ct ρ) := propext Iff.rfl
theorem kS_ex (g : Mr Fl) (Q : Rs Fl → Prop) (x : XD) (ρ : De) : kS g Q (.ex x ρ) = Q (.ex x ρ) := propext Iff.rfl
theorem wp_seq (f g : Mr Fl) (Q : Rs Fl → Prop) : Wp (mSeq f g) ρ Q = Wp f ρ (kS g Q) := by
  unfold Wp mSeq
  cases f ρ with
  | none => rfl
  | some r => cases r with
    | ex => rfl
    | ok a ρ => cases a <;> rfl
theorem wp_skip (Q : Rs Fl → Prop) : Wp mSkip ρ Q = Q (.ok .nx ρ) := propext Iff.rfl
def kA (gt : D → De → Option De) (Q : Rs Fl → Prop) : Rs D → Prop
  | .ok d ρ => kG (gt d ρ) fun ρ' => Q (.ok .nx ρ')
  | .ex x ρ => Q (.ex x ρ)
theorem kA_ok (gt : D → De → Option De) (Q : Rs Fl → Prop) (d : D) (ρ : De) : kA gt Q (.ok d ρ) = kG (gt d ρ) fun ρ' => Q (.ok .nx ρ') := propext Iff.rfl
theorem kA_ex (gt : D → De → Option De) (Q : Rs Fl → Prop) (x : XD) (ρ : De) : kA gt Q (.ex x ρ) = Q (.ex x ρ) := propext Iff.rfl
theorem wp_asg (f : Mr D) (gt : D → De → Option De) (Q : Rs Fl → Prop) : Wp (mAsg f gt) ρ Q = Wp f ρ (kA gt Q) := by
  unfold Wp mAsg bnd
  cases f ρ with
  | none => rfl
  | some r => cases r with
    | ex => rfl
    | ok d ρ =>
      show kR _ _ = kG _ _
      dsimp only
      cases gt d ρ <;> rfl
theorem wp_par (i j : Nat) (fr : Mr (List D)) (Q : Rs Fl → Prop) : Wp (mPar i j fr) ρ Q = Wp fr ρ (kL (fun ds ρ => match ds with
  | [d, e] => some (.ok .nx ((ρ.set i (some d)).set j (some e)))
  | _ => none) Q) := wp_bndL _ _ _
theorem wp_par3 (i j l : Nat) (fr : Mr (List D)) (Q : Rs Fl → Prop) : Wp (mPar3 i j l fr) ρ Q = Wp fr ρ (kL (fun ds ρ => match ds with
  | [d, e, f] => some (.ok .nx (((ρ.set i (some d)).set j (some e)).set l (some f)))
  | _ => none) Q) := wp_bndL _ _ _
theorem wp_aug (i : Nat) (g : Int → Int → Int) (fe : Mr D) (Q : Rs Fl → Prop) : Wp (mAug i g fe) ρ Q = kV ρ[i]? fun d => kR (match d with
  | .int x => (match fe ρ with
    | some (.ok (.int y) ρ') => some (.ok .nx (ρ'.set i (some (.int (g x y)))))
    | _ => none)
  | _ => none) Q := by
  unfold Wp mAug
  cases ρ[i]? with
  | none => rfl
  | some o => cases o with
    | none => rfl
    | some d => cases d <;> rfl
/-! places -/
theorem wp_read (i : Nat) (f : Mr (D × List Nat)) (Q : Rs D → Prop) : Wp (mRead i f) ρ Q = Wp f ρ (kL (fun rp ρ => match getP rp.1 rp.2 with
  | some d => some (.ok (unsh d) (ρ.set i (some rp.1)))
  | none => none) Q) := wp_bndL _ _ _
theorem wp_readU (i : Nat) (f : Mr (D × List Nat)) (Q : Rs D → Prop) : Wp (mReadU i f) ρ Q = Wp f ρ (kL (fun rp ρ => match (getP rp.1 rp.2).bind shOf with
  | some d => some (.ok d (ρ.set i (some rp.1)))
  | none => none) Q) := wp_bndL _ _ _
theorem wp_len (i : Nat) (f : Mr (D × List Nat)) (Q : Rs D → Prop) : Wp (mLen i f) ρ Q = Wp f ρ (kL (fun rp ρ => match getP rp.1 rp.2 with
  | some d => (match anyItems d with
    | some ds => some (.ok (.int ds.length) (ρ.set i (some rp.1)))
    | none => none)
  | none => none) Q) := wp_bndL _ _ _
def kLst (o : Option D) (P : List D → Prop) : Prop := match o with
  | some (.lst ds) => P ds
  | _ => False
theorem kLst_some (ds : List D) (P : List D → Prop) : kLst (some (.lst ds)) P = P ds := propext Iff.rfl
def mAppK (i : Nat) (rp : D × List Nat) (fe : Mr (List D)) : Mr D := fun ρ => match getP rp.1 rp.2 with
  | some (.lst ds) => (match fe ρ with
    | some (.ok [d] ρ') => if ds.length < lim then some (.ok .non (ρ'.set i (some (setP rp.1 rp.2 (.lst (ds ++ [d])))))) else none
    | _ => none)
  | _ => none
theorem wp_app (i : Nat) (f : Mr (D × List Nat)) (fe : Mr (List D)) (Q : Rs D → Prop) : Wp (mApp i f fe) ρ Q = Wp f ρ (kB (fun rp => mAppK i rp fe) Q) := wp_bnd _ _ _
def kApp (i : Nat) (rp : D × List Nat) (ds : List D) (Q : Rs D → Prop) : Rs (List D) → Prop
  | .ok [d] ρ => ds.length < lim ∧ Q (.ok .non (ρ.set i (some (setP rp.1 rp.2 (.lst (ds ++ [d]))))))
  | _ => False
theorem kApp_ok (i : Nat) (rp : D × List Nat) (ds : List D) (Q : Rs D → Prop) (d : D) (ρ : De) (h : ds.length < 16777216) : kApp i rp ds Q (.ok [d] ρ) = Q (.ok .non (ρ.set i (some (setP rp.1 rp.2 (.lst (ds ++ [d])))))) := by
  show (_ ∧ _) = _
  rw [show (ds.length < lim) = True from eq_true h, true_and]
theorem wp_appK (i : Nat) (rp : D × List Nat) (fe : Mr (List D)) (Q : Rs D → Prop) : Wp (mAppK i rp fe) ρ Q = kLst (getP rp.1 rp.2) fun ds => Wp fe ρ (kApp i rp ds Q) := by
  unfold Wp mAppK
  cases getP rp.1 rp.2 with
  | none => rfl
  | some d =>
    cases d <;> try rfl
    rename_i ds
    dsimp only [kLst]
    cases fe ρ with
    | none => rfl
    | some r => cases r with
      | ex => rfl
      | ok as ρ' =>
        cases as with
        | nil => rfl
        | cons a as => cases as with
          | cons => rfl
          | nil =>
            dsimp only [kApp]
            show kR _ _ = (_ ∧ _)
            by_cases h : ds.length < lim
            · rw [if_pos h]; exact propext ⟨fun q => ⟨h, q⟩, fun q => q.2⟩
            · rw [if_neg h]; exact propext ⟨fun q => q.elim, fun q => h q.1⟩
theorem wp_disp (ks : List Key) (fr : Mr (List D)) (Q : Rs D → Prop) : Wp (mDisp ks fr) ρ Q = Wp fr ρ (kB (fun ds => ret (.dK ks ds)) Q) := wp_bnd _ _ _
theorem wp_pop (i : Nat) (f : Mr (D × List Nat)) (fe : Mr (List D)) (Q : Rs D → Prop) : Wp (mPop i f fe) ρ Q = Wp f ρ (kL (fun rp ρ => match getP rp.1 rp.2 with
  | some (.lst ds) => (match fe ρ with
    | some (.ok as ρ') => (match popIx ds.length as with
      | some k => (match ds[k]? with
        | some d => some (.ok d (ρ'.set i (some (setP rp.1 rp.2 (.lst (ds.eraseIdx k))))))
        | none => none)
      | none => none)
    | _ => none)
  | _ => none) Q) := wp_bndL _ _ _
theorem kR_ap {f : Mr α} {Q : Rs α → Prop} : kR (f ρ) Q = Wp f ρ Q := propext Iff.rfl
/-! x[..] = v -/
def mSubK (i : Nat) (d : D) (rp : D × List Nat) (j : D) : Mr Unit := fun ρ => match j with
  | .int j => (match getP rp.1 rp.2 with
    | some (.lst ds) => (match ixN ds.length j with
      | some k => some (.ok () (ρ.set i (some (setP rp.1 rp.2 (.lst (ds.set k d))))))
      | none => none)
    | _ => none)
  | _ => none
def kU (P : De → Prop) : Rs Unit → Prop
  | .ok _ ρ => P ρ
  | .ex _ _ => False
theorem kU_ok (P : De → Prop) (u : Unit) (ρ : De) : kU P (.ok u ρ) = P ρ := propext Iff.rfl
theorem kG_sub (i : Nat) (f : Mr (D × List Nat)) (fb : Mr D) (d : D) (P : De → Prop) : kG (gtSub i f fb d ρ) P = Wp f ρ (kB (fun rp => bnd fb fun j => mSubK i d rp j) (kU P)) := by
  rw [← wp_bnd]
  unfold gtSub Wp mPair bnd
  cases f ρ with
  | none => rfl
  | some r => cases r with
    | ex => rfl
    | ok rp ρ1 =>
      obtain ⟨root, pth⟩ := rp
      dsimp only
      cases fb ρ1 with
      | none => rfl
      | some r => cases r with
        | ex => rfl
        | ok j ρ2 =>
          cases j <;> try rfl
          rename_i j
          dsimp only [ret, mSubK]
          cases getP root pth with
          | none => rfl
          | some e =>
            cases e <;> try rfl
            rename_i ds
            dsimp only
            cases ixN ds.length j <;> rfl
theorem wp_subK (i : Nat) (d : D) (rp : D × List Nat) (j : Int) (Q : Rs Unit → Prop) : Wp (mSubK i d rp (.int j)) ρ Q = kLst (getP rp.1 rp.2) fun ds => kR (match ixN ds.length j with
      | some k => some (.ok () (ρ.set i (some (setP rp.1 rp.2 (.lst (ds.set k d))))))
      | none => none) Q := by
  unfold Wp mSubK
  dsimp only
  cases getP rp.1 rp.2 with
  | none => rfl
  | some e => cases e <;> rfl
/-! calls -/
def kCl (ks : List AK) (F : List D → Option (Rs D)) (Q : Rs D → Prop) : Rs (List D) → Prop
  | .ok ds ρ => kR (F ds) fun r => match r with
    | .ok d fs => Q (.ok d (backIo ks fs ρ))
    | .ex _ _ => False
  | .ex x ρ => Q (.ex x ρ)
def kBk (ks : List AK) (ρ : De) (Q : Rs D → Prop) : Rs D → Prop
  | .ok d fs => Q (.ok d (backIo ks fs ρ))
  | .ex _ _ => False
theorem kBk_ok (ks : List AK) (ρ : De) (Q : Rs D → Prop) (d : D) (fs : De) : kBk ks ρ Q (.ok d fs) = Q (.ok d (backIo ks fs ρ)) := propext Iff.rfl
theorem kCl_ok (ks : List AK) (F : List D → Option (Rs D)) (Q : Rs D → Prop) (ds : List D) (ρ : De) : kCl ks F Q (.ok ds ρ) = kR (F ds) (kBk ks ρ Q) := by
  show kR _ _ = _
  congr 1
theorem wp_cl0 (ks : List AK) (F : List D → Option (Rs D)) (fr : Mr (List D)) (Q : Rs D → Prop) : Wp (mCl0 ks F fr) ρ Q = Wp fr ρ (kCl ks F Q) := by
  unfold Wp mCl0 bnd
  cases fr ρ with
  | none => rfl
  | some r => cases r with
    | ex => rfl
    | ok ds ρ =>
      show kR (match F ds with | some (.ok d fs) => _ | _ => none) _ = kCl ks F Q (.ok ds ρ)
      rw [kCl_ok]
      cases F ds with
      | none => rfl
      | some r => cases r <;> rfl
def kBd (io : List Nat) (n : Nat) (Q : Rs D → Prop) : Rs Fl → Prop
  | .ok (.rt d) ρ => Q (.ok d (maskIo io n ρ))
  | .ok .nx ρ => Q (.ok .non (maskIo io n ρ))
  | _ => False
theorem kBd_rt (io : List Nat) (n : Nat) (Q : Rs D → Prop) (d : D) (ρ : De) : kBd io n Q (.ok (.rt d) ρ) = Q (.ok d (maskIo io n ρ)) := propext Iff.rfl
theorem kBd_nx (io : List Nat) (n : Nat) (Q : Rs D → Prop) (ρ : De) : kBd io n Q (.ok .nx ρ) = Q (.ok .non (maskIo io n ρ)) := propext Iff.rfl
theorem kR_fn {n : Nat} {io : List Nat} {f : Mr Fl} {ds : List D} {Q : Rs D → Prop} (ρ0 : De) (h0 : ds.map some ++ List.replicate (n - ds.length) none = ρ0) (h : Wp f ρ0 (kBd io ds.length Q)) : kR (bodyF0 n io f ds) Q := by
  unfold bodyF0
  rw [h0]
  unfold Wp at h
  cases e : f ρ0 with
  | none => rw [e] at h; exact h.elim
  | some r =>
    rw [e] at h
    cases r with
    | ex => exact (show False from h).elim
    | ok fl ρ => cases fl <;> first | exact h | exact (show False from h).elim
theorem eq_of_kR {o : Option (Rs α)} {r : Rs α} (h : kR o fun x => x = r) : o = some r := by
  cases o with
  | none => exact h.elim
  | some x => exact congrArg some h
theorem kR_of_eq {o : Option (Rs α)} {r : Rs α} {Q : Rs α → Prop} (h : o = some r) (q : Q r) : kR o Q := by rw [h]; exact q
theorem kR_mono {o : Option (Rs α)} {Q Q' : Rs α → Prop} (h : kR o Q) (hq : ∀ r, Q r → Q' r) : kR o Q' := by
  cases o with
  | none => exact h
  | some r => exact hq r h
theorem Wp.mono {f : Mr α} {Q Q' : Rs α → Prop} (h : Wp f ρ Q) (hq : ∀ r, Q r → Q' r) : Wp f ρ Q' := kR_mono h hq
theorem Wp.ex {f : Mr α} {Q : Rs α → Prop} (h : Wp f ρ Q) : ∃ r, f ρ = some r ∧ Q r := by
  unfold Wp at h
  cases e : f ρ with
  | none => rw [e] at h; exact h.elim
  | some r => rw [e] at h; exact ⟨r, rfl, h⟩
/-! loops -/
def kF (P : De → Prop) (Q : Rs Fl → Prop) : Rs Fl → Prop
  | .ok .nx ρ => P ρ
  | .ok .ct ρ => P ρ
  | .ok .bk ρ => Q (.ok .nx ρ)
  | r => Q r
theorem kF_nx (P : De → Prop) (Q : Rs Fl → Prop) (ρ : De) : kF P Q (.ok .nx ρ) = P ρ := propext Iff.rfl
theorem kF_ct (P : De → Prop) (Q : Rs Fl → Prop) (ρ : De) : kF P Q (.ok .ct ρ) = P ρ := propext Iff.rfl
theorem kF_bk (P : De → Prop) (Q : Rs Fl → Prop) (ρ : De) : kF P Q (.ok .bk ρ) = Q (.ok .nx ρ) := propext Iff.rfl
theorem kF_rt (P : De → Prop) (Q : Rs Fl → Prop) (d : D) (ρ : De) : kF P Q (.ok (.rt d) ρ) = Q (.ok (.rt d) ρ) := propext Iff.rfl
theorem kF_ex (P : De → Prop) (Q : Rs Fl → Prop) (x : XD) (ρ : De) : kF P Q (.ex x ρ) = Q (.ex x ρ) := propext Iff.rfl
def mForK (gt : D → De → Option De) (body : Mr Fl) (ds : List D) : Mr Fl := fun ρ => forM gt body ds ρ
theorem wp_for (fi : Mr (List D)) (gt : D → De → Option De) (body : Mr Fl) (Q : Rs Fl → Prop) : Wp (mFor fi gt body) ρ Q = Wp fi ρ (kB (mForK gt body) Q) := wp_bnd _ _ _
theorem wp_forN (gt : D → De → Option De) (body : Mr Fl) (Q : Rs Fl → Prop) : Wp (mForK gt body []) ρ Q = Q (.ok .nx ρ) := propext Iff.rfl
theorem wp_forC (gt : D → De → Option De) (body : Mr Fl) (d : D) (ds : List D) (Q : Rs Fl → Prop) : Wp (mForK gt body (d :: ds)) ρ Q = kG (gt d ρ) fun ρ1 => Wp body ρ1 (kF (fun ρ2 => Wp (mForK gt body ds) ρ2 Q) Q) := by
  unfold Wp mForK
  rw [show forM gt body (d :: ds) ρ = _ from by rw [forM]]
  cases gt d ρ with
  | none => rfl
  | some ρ1 =>
    dsimp only [kG]
    cases body ρ1 with
    | none => rfl
    | some r => cases r with
      | ex => rfl
      | ok fl ρ2 => cases fl <;> rfl
/-- a loop by what holds between its turns; the state at its begin is told -/
theorem forI {gt : D → De → Option De} {body : Mr Fl} {Q : Rs Fl → Prop} (I : De → Nat → De → Prop) : ∀ {ds : List D} {ρ : De}, I ρ 0 ρ → (∀ i d ρ', ds[i]? = some d → I ρ i ρ' → kG (gt d ρ') fun ρ1 => Wp body ρ1 (kF (I ρ (i + 1)) Q)) → (∀ ρ', I ρ ds.length ρ' → Q (.ok .nx ρ')) → Wp (mForK gt body ds) ρ Q := by
  intro ds ρ h0 hs h1
  suffices ∀ (es : List D) (k : Nat) (ρ' : De), ds.drop k = es → k + es.length = ds.length → I ρ k ρ' → Wp (mForK gt body es) ρ' Q from this ds 0 ρ rfl (by simp) h0
  intro es
  induction es with
  | nil =>
    intro k ρ' hd hk hi
    have : k = ds.length := by simpa using hk
    subst this
    exact h1 ρ' hi
  | cons d es ih =>
    intro k ρ' hd hk hi
    have hl : k < ds.length := by simp at hk; omega
    have e := List.drop_eq_getElem_cons hl
    rw [hd] at e
    injection e with e1 e2
    have hg : ds[k]? = some d := by rw [e1]; exact List.getElem?_eq_getElem hl
    rw [wp_forC]
    have hb := hs k d ρ' hg hi
    cases eg : gt d ρ' with
    | none => rw [eg] at hb; exact hb
    | some ρ1 =>
      rw [eg] at hb
      refine Wp.mono (show Wp body ρ1 _ from hb) fun r hr => ?_
      cases r with
      | ex => exact hr
      | ok fl ρ2 =>
        have go : I ρ (k + 1) ρ2 → Wp (mForK gt body es) ρ2 Q := fun h => ih (k + 1) ρ2 e2.symm (by simp at hk; omega) h
        cases fl with
        | nx => exact go hr
        | ct => exact go hr
        | bk => exact hr
        | rt => exact hr
/-- .. as a fold over what is known -/
theorem forF {σ α : Type} {gt : D → De → Option De} {body : Mr Fl} {Q : Rs Fl → Prop} {enc : α → D} (E : De → σ → De → Prop) (step : σ → α → σ) (s0 : σ) : ∀ {xs : List α} {ρ : De}, E ρ s0 ρ → (∀ s x ρ', x ∈ xs → E ρ s ρ' → kG (gt (enc x) ρ') fun ρ1 => Wp body ρ1 (kF (E ρ (step s x)) Q)) → (∀ ρ', E ρ (xs.foldl step s0) ρ' → Q (.ok .nx ρ')) → Wp (mForK gt body (xs.map enc)) ρ Q := by
  intro xs ρ h0 hs h1
  refine forI (fun ρ i ρ' => E ρ ((xs.take i).foldl step s0) ρ') (by simpa using h0) (fun i d ρ' hd hi => ?_) fun ρ' h => h1 ρ' (by simpa using h)
  rw [List.getElem?_map] at hd
  obtain ⟨x, hx, rfl⟩ := Option.map_eq_some_iff.mp hd
  have := hs _ x ρ' (List.mem_of_getElem? hx) hi
  rw [List.take_succ, hx]
  simpa using this
/-- .. a list that grows: one item for each -/
theorem forA {α β : Type} {gt : D → De → Option De} {body : Mr Fl} {Q : Rs Fl → Prop} {enc : α → D} (g : α → β) (E : De → List β → De → Prop) : ∀ {xs : List α} {ρ : De}, E ρ [] ρ → (∀ acc x ρ', x ∈ xs → acc.length < xs.length → E ρ acc ρ' → kG (gt (enc x) ρ') fun ρ1 => Wp body ρ1 (kF (E ρ (acc ++ [g x])) Q)) → (∀ ρ', E ρ (xs.map g) ρ' → Q (.ok .nx ρ')) → Wp (mForK gt body (xs.map enc)) ρ Q := by
  intro xs ρ h0 hs h1
  refine forI (fun ρ i ρ' => E ρ ((xs.take i).map g) ρ') (by simpa using h0) (fun i d ρ' hd hi => ?_) fun ρ' h => h1 ρ' (by simpa using h)
  rw [List.getElem?_map] at hd
  obtain ⟨x, hx, rfl⟩ := Option.map_eq_some_iff.mp hd
  have hl := (List.getElem?_eq_some_iff.mp hx).1
  have := hs _ x ρ' (List.mem_of_getElem? hx) (by simp; omega) hi
  rw [List.take_succ, hx]
  simpa using this
def mWhK (g : Mr Bool) (f : Mr Fl) (n : Nat) : Mr Fl := fun ρ => whileM g f n ρ
theorem wp_while (g : Mr Bool) (f : Mr Fl) (n : Nat) (Q : Rs Fl → Prop) : Wp (whileM g f n) ρ Q = Wp (mWhK g f n) ρ Q := propext Iff.rfl
theorem whS {g : Mr Bool} {f : Mr Fl} {n : Nat} {Q : Rs Fl → Prop} : Wp (mWhK g f (n + 1)) ρ Q = Wp g ρ (fun r => match r with
  | .ok k ρ1 => kC k (Wp f ρ1 (kF (fun ρ2 => Wp (mWhK g f n) ρ2 Q) Q)) (Q (.ok .nx ρ1))
  | .ex x ρ1 => Q (.ex x ρ1)) := by
  unfold Wp mWhK
  rw [show whileM g f (n + 1) ρ = _ from by rw [whileM]]
  cases g ρ with
  | none => rfl
  | some r => cases r with
    | ex => rfl
    | ok k ρ1 =>
      cases k with
      | false => rfl
      | true =>
        show kR (match f ρ1 with | _ => _) Q = kR (f ρ1) _
        cases f ρ1 with
        | none => rfl
        | some r => cases r with
          | ex => rfl
          | ok fl ρ2 => cases fl <;> rfl
def kW (P P' : De → Prop) (Q : Rs Fl → Prop) : Rs Bool → Prop
  | .ok k ρ => kC k (P ρ) (P' ρ)
  | .ex x ρ => Q (.ex x ρ)
theorem kW_ok (P P' : De → Prop) (Q : Rs Fl → Prop) (k : Bool) (ρ : De) : kW P P' Q (.ok k ρ) = kC k (P ρ) (P' ρ) := propext Iff.rfl
/-- a while by a measure -/
theorem whI {σ : Type} {g : Mr Bool} {f : Mr Fl} {Q : Rs Fl → Prop} (E : De → σ → De → Prop) (μ : σ → Nat) (s0 : σ) : ∀ {n : Nat} {ρ : De}, E ρ s0 ρ → μ s0 < n → (∀ s ρ', E ρ s ρ' → Wp g ρ' (kW (fun ρ1 => Wp f ρ1 (kF (fun ρ2 => ∃ s', μ s' < μ s ∧ E ρ s' ρ2) Q)) (fun ρ1 => Q (.ok .nx ρ1)) Q)) → Wp (mWhK g f n) ρ Q := by
  intro n ρ h0 hn hs
  suffices ∀ (n : Nat) (s : σ) (ρ' : De), E ρ s ρ' → μ s < n → Wp (mWhK g f n) ρ' Q from this n s0 ρ h0 hn
  intro n
  induction n with
  | zero => intro s ρ' _ h; omega
  | succ n ih =>
    intro s ρ' he hl
    rw [whS]
    refine Wp.mono (hs s ρ' he) fun r hr => ?_
    cases r with
    | ex => exact hr
    | ok k ρ1 =>
      cases k with
      | false => exact hr
      | true =>
        refine Wp.mono (show Wp f ρ1 _ from hr) fun r hr => ?_
        have go : ∀ ρ2, (∃ s', μ s' < μ s ∧ E ρ s' ρ2) → Wp (mWhK g f n) ρ2 Q := fun ρ2 ⟨s', h1, h2⟩ => ih s' ρ2 h2 (by omega)
        cases r with
        | ex => exact hr
        | ok fl ρ2 => cases fl with
          | nx => exact go _ hr
          | ct => exact go _ hr
          | bk => exact hr
          | rt => exact hr
/-! comprehensions -/
def mLcK (vs : List Nat) (gt : D → De → Option De) (ft : Mr Bool) (fe : Mr D) (ds : List D) : Mr D := fun ρ => match lcM vs gt ft fe ds [] (wipeD ρ vs) with
  | none => none
  | some (ys, ρ') => some (.ok (.lst ys) (wipeD ρ' vs))
theorem wp_lc (fi : Mr (List D)) (vs : List Nat) (gt : D → De → Option De) (ft : Mr Bool) (fe : Mr D) (Q : Rs D → Prop) : Wp (mLc fi vs gt ft fe) ρ Q = Wp fi ρ (kB (mLcK vs gt ft fe) Q) := wp_bnd _ _ _
def kT (P : De → Prop) (P' : De → Prop) : Rs Bool → Prop
  | .ok k ρ => kC k (P ρ) (P' ρ)
  | .ex _ _ => False
theorem kT_ok (P P' : De → Prop) (k : Bool) (ρ : De) : kT P P' (.ok k ρ) = kC k (P ρ) (P' ρ) := propext Iff.rfl
def kE (P : D → De → Prop) : Rs D → Prop
  | .ok d ρ => P d ρ
  | .ex _ _ => False
theorem kE_ok (P : D → De → Prop) (d : D) (ρ : De) : kE P (.ok d ρ) = P d ρ := propext Iff.rfl
/-- a comprehension by what holds between its turns: the list so far -/
theorem lcI {vs : List Nat} {gt : D → De → Option De} {ft : Mr Bool} {fe : Mr D} {Q : Rs D → Prop} (I : De → Nat → List D → De → Prop) : ∀ {ds : List D} {ρ : De}, ds.length ≤ 16777216 → I (wipeD ρ vs) 0 [] (wipeD ρ vs) →
    (∀ i d acc ρ', ds[i]? = some d → acc.length ≤ i → I (wipeD ρ vs) i acc ρ' → kG (gt d ρ') fun ρ1 => Wp ft ρ1 (kT (fun ρ2 => Wp fe ρ2 (kE fun y ρ3 => I (wipeD ρ vs) (i + 1) (acc ++ [y]) (wipeD ρ3 vs))) fun ρ2 => I (wipeD ρ vs) (i + 1) acc (wipeD ρ2 vs))) →
    (∀ acc ρ', I (wipeD ρ vs) ds.length acc ρ' → Q (.ok (.lst acc) (wipeD ρ' vs))) → Wp (mLcK vs gt ft fe ds) ρ Q := by
  intro ds ρ hlen h0 hs h1
  suffices ∀ (es : List D) (k : Nat) (acc : List D) (ρ' : De), ds.drop k = es → k + es.length = ds.length → acc.length ≤ k → I (wipeD ρ vs) k acc ρ' → ∃ ys ρ2, lcM vs gt ft fe es acc ρ' = some (ys, ρ2) ∧ I (wipeD ρ vs) ds.length ys ρ2 by
    obtain ⟨ys, ρ2, e, hi⟩ := this ds 0 [] _ rfl (by simp) (Nat.le_refl _) h0
    unfold Wp mLcK
    rw [e]
    exact h1 ys ρ2 hi
  intro es
  induction es with
  | nil =>
    intro k acc ρ' hd hk ha hi
    have : k = ds.length := by simpa using hk
    subst this
    exact ⟨acc, ρ', rfl, hi⟩
  | cons d es ih =>
    intro k acc ρ' hd hk ha hi
    have hl : k < ds.length := by simp at hk; omega
    have e := List.drop_eq_getElem_cons hl
    rw [hd] at e
    injection e with e1 e2
    have hg : ds[k]? = some d := by rw [e1]; exact List.getElem?_eq_getElem hl
    have hb := hs k d acc ρ' hg ha hi
    unfold lcM
    cases eg : gt d ρ' with
    | none => rw [eg] at hb; exact hb.elim
    | some ρ1 =>
      rw [eg] at hb
      replace hb : Wp ft ρ1 _ := hb
      obtain ⟨r, e3, hr⟩ := hb.ex
      dsimp only
      rw [e3]
      cases r with
      | ex => exact hr.elim
      | ok k' ρ2 =>
        cases k' with
        | false => exact ih (k + 1) acc _ e2.symm (by simp at hk; omega) (by omega) hr
        | true =>
          replace hr : Wp fe ρ2 _ := hr
          obtain ⟨r, e4, hr⟩ := hr.ex
          dsimp only
          rw [e4]
          cases r with
          | ex => exact hr.elim
          | ok y ρ3 =>
            dsimp only
            rw [if_pos (show acc.length < lim by show acc.length < 16777216; omega)]
            exact ih (k + 1) (acc ++ [y]) _ e2.symm (by simp at hk; omega) (by simp; omega) hr
/-- .. of a body that leaves the names as they are -/
theorem lcG {α : Type} {vs : List Nat} {gt : D → De → Option De} {fe : Mr D} {Q : Rs D → Prop} {enc : α → D} (g : α → D) : ∀ {xs : List α} {ρ : De}, xs.length ≤ 16777216 →
    (∀ x, x ∈ xs → kG (gt (enc x) (wipeD ρ vs)) fun ρ1 => Wp fe ρ1 (kE fun y ρ3 => y = g x ∧ wipeD ρ3 vs = wipeD ρ vs)) →
    Q (.ok (.lst (xs.map g)) (wipeD (wipeD ρ vs) vs)) → Wp (mLcK vs gt (ret true) fe (xs.map enc)) ρ Q := by
  intro xs ρ hl hs h1
  refine lcI (fun ρ0 i acc ρ' => acc = (xs.take i).map g ∧ ρ' = ρ0) (by simpa using hl) ⟨by simp, rfl⟩ (fun i d acc ρ' hd ha ⟨h2, h3⟩ => ?_) fun acc ρ' ⟨h2, h3⟩ => ?_
  · subst h2; subst h3
    rw [List.getElem?_map] at hd
    obtain ⟨x, hx, rfl⟩ := Option.map_eq_some_iff.mp hd
    have := hs x (List.mem_of_getElem? hx)
    cases eg : gt (enc x) (wipeD ρ vs) with
    | none => rw [eg] at this; exact this
    | some ρ1 =>
      rw [eg] at this
      show Wp fe ρ1 _
      refine Wp.mono (show Wp fe ρ1 _ from this) fun r hr => ?_
      cases r with
      | ex => exact hr
      | ok y ρ3 =>
        obtain ⟨h4, h5⟩ := hr
        refine ⟨?_, h5⟩
        rw [List.take_succ, hx]
        simp [h4]
  · subst h2; subst h3
    simpa using h1
/-- .. with a test -/
theorem lcP {α : Type} {vs : List Nat} {gt : D → De → Option De} {ft : Mr Bool} {fe : Mr D} {Q : Rs D → Prop} {enc : α → D} (p : α → Bool) (g : α → D) : ∀ {xs : List α} {ρ : De}, xs.length ≤ 16777216 →
    (∀ x, x ∈ xs → kG (gt (enc x) (wipeD ρ vs)) fun ρ1 => Wp ft ρ1 (kT (fun ρ2 => p x = true ∧ Wp fe ρ2 (kE fun y ρ3 => y = g x ∧ wipeD ρ3 vs = wipeD ρ vs)) fun ρ2 => p x = false ∧ wipeD ρ2 vs = wipeD ρ vs)) →
    Q (.ok (.lst ((xs.filter p).map g)) (wipeD (wipeD ρ vs) vs)) → Wp (mLcK vs gt ft fe (xs.map enc)) ρ Q := by
  intro xs ρ hl hs h1
  refine lcI (fun ρ0 i acc ρ' => acc = ((xs.take i).filter p).map g ∧ ρ' = ρ0) (by simpa using hl) ⟨by simp, rfl⟩ (fun i d acc ρ' hd ha ⟨h2, h3⟩ => ?_) fun acc ρ' ⟨h2, h3⟩ => ?_
  · subst h2; subst h3
    rw [List.getElem?_map] at hd
    obtain ⟨x, hx, rfl⟩ := Option.map_eq_some_iff.mp hd
    have := hs x (List.mem_of_getElem? hx)
    cases eg : gt (enc x) (wipeD ρ vs) with
    | none => rw [eg] at this; exact this
    | some ρ1 =>
      rw [eg] at this
      show Wp ft ρ1 _
      refine Wp.mono (show Wp ft ρ1 _ from this) fun r hr => ?_
      cases r with
      | ex => exact hr
      | ok k ρ2 =>
        cases k with
        | false =>
          obtain ⟨h4, h5⟩ := (show _ ∧ _ from hr)
          refine ⟨?_, h5⟩
          rw [List.take_succ, hx]
          simp [h4]
        | true =>
          obtain ⟨h4, h5⟩ := (show _ ∧ _ from hr)
          refine Wp.mono (show Wp fe ρ2 _ from h5) fun r hr => ?_
          cases r with
          | ex => exact hr
          | ok y ρ3 =>
            obtain ⟨h6, h7⟩ := hr
            refine ⟨?_, h7⟩
            rw [List.take_succ, hx]
            simp [h4, h6]
  · subst h2; subst h3
    simpa using h1
theorem lcD {vs : List Nat} {gt : D → De → Option De} {fe : Mr D} {Q : Rs D → Prop} (g : D → D) {ds : List D} {ρ : De} (hl : ds.length ≤ 16777216)
    (hs : ∀ x, x ∈ ds → kG (gt x (wipeD ρ vs)) fun ρ1 => Wp fe ρ1 (kE fun y ρ3 => y = g x ∧ wipeD ρ3 vs = wipeD ρ vs))
    (hq : Q (.ok (.lst (ds.map g)) (wipeD (wipeD ρ vs) vs))) : Wp (mLcK vs gt (ret true) fe ds) ρ Q := by
  have := lcG (vs := vs) (gt := gt) (fe := fe) (Q := Q) (enc := id) g (xs := ds) (ρ := ρ) hl hs hq
  rwa [List.map_id] at this
theorem nat_eq_lit (a n : Nat) : (((a : Int) == (no_index (OfNat.ofNat n) : Int)) : Bool) = (a == OfNat.ofNat n) := nat_eq a _
theorem dNe_bl (i j : Bool) : dNe (.bl i) (.bl j) = some (.bl (!(i == j))) := rfl
theorem atI_nat {α : Type} (xs : List α) (k : Nat) : atI xs (k : Int) = xs[k]? := by
  by_cases h : k < xs.length
  · rw [atI_natD h, List.getElem?_eq_getElem h]
  · unfold L2.atI ixN
    rw [if_pos (by omega), if_neg (by omega), List.getElem?_eq_none (by omega)]
    rfl
theorem dIx_ln (xs : List D) (n : Nat) : dIx (.lst xs) (.int (no_index (OfNat.ofNat n))) = xs[OfNat.ofNat n]? := atI_nat xs n
theorem dIx_tn (xs : List D) (n : Nat) : dIx (.tup xs) (.int (no_index (OfNat.ofNat n))) = xs[OfNat.ofNat n]? := atI_nat xs n
theorem dIx_l1 (xs : List D) (h : 0 < xs.length) : dIx (.lst xs) (.int (-1)) = some (xs[xs.length - 1]) := by
  show L2.atI xs (-1) = _
  have : ixN xs.length (-1) = some (xs.length - 1) := by
    unfold ixN
    rw [if_neg (by omega), if_pos (by omega)]
    congr 1
    omega
  unfold L2.atI
  rw [this]
  exact List.getElem?_eq_getElem (by omega)
theorem maskIo_0 (n : Nat) (x : Option D) (ρ : De) : maskIo [0] (n + 1) (x :: ρ) = x :: List.replicate n none := by
  unfold maskIo
  rw [List.range_succ_eq_map]
  simp only [List.map_cons, List.map_map, List.mem_singleton, if_true, List.getElem?_cons_zero, Option.join_some]
  congr 1
  rw [List.eq_replicate_iff]
  simp
end
end Dl
/-! Dl, fifteenth part: more operators. -/
namespace Dl
open PySem L2 RZ
local macro_rules | `(tactic| walk_at "fle") => `(tactic| (intro P; simp only [List.countP_append, List.countP_cons, List.countP_nil, List.append_nil, List.nil_append]; first | omega | (split <;> omega)))
section
variable {X : Cx} {K : PySem.W.Frag} {Γ : List Md} {Ek : WX} {m rm : Md} {io : List Nat} {e : PySem.Expr} {te : TE} {fe : Mr D} {pos : Pos}
/-! ### tuple * int -/
def dMulT : D → D → Option D
  | .tup xs, .int k => if (decide (2 ≤ k) && decide (k ≤ 1000) && decide (xs.length ≤ 1000) && !xs.isEmpty) = true then some (.tup (List.replicate k.toNat xs).flatten) else none
  | _, _ => none
theorem o_mulT (hK : X.K = K := by rfl) : OpR X (binaryOp .Mult) (rRepT K) ∧ VOp2 K (.own .sh) (rRepT K) dMulT := by
  subst hK
  refine ⟨op_repT, fun G H C x y dx dy d Q hx hy s hg hq => ?_⟩
  cases dx <;> cases dy <;> first | (cases hg; done) | skip
  rename_i xs k
  dsimp only [dMulT] at hg
  split at hg
  · rename_i hc
    cases hg
    obtain ⟨a, vs, e1, e2, r⟩ := hx
    simp only [Bool.and_eq_true, decide_eq_true_eq] at hc
    have hl := r.len
    refine ⟨a, k, vs, e1, hy, s.le.sqT e2, ?_, hc.1.1.1, hc.1.1.2, by omega, fun p hp => ?_⟩
    · rintro rfl
      rw [List.eq_nil_of_length_eq_zero hl.symm] at hc
      simp at hc
    · obtain ⟨s', g'⟩ := s.newG (u := .tup (List.replicate k.toNat vs).flatten) hp
      exact hq _ _ _ [] g' ⟨p, _, rfl, upd_same, (RL.sh_iff _).mpr ⟨rfl, ShL.mono g' _ (ShL.rep r _)⟩⟩ s'
  · cases hg
/-! ### ints, more -/
def dXor := dI2 fun i j => .int (Builtin.bitXor i j)
theorem o_xor : OpR X (binaryOp .BitXor) (rI0 fun i j => .int (Builtin.bitXor i j)) ∧ VOp2 K m (rI0 fun i j => .int (Builtin.bitXor i j)) dXor := ⟨op_xor, vop_I0 (fun _ _ _ => rfl) fun _ _ => rfl⟩
def dAnd := dI2 fun i j => .int (Builtin.bitAnd i j)
theorem o_and : OpR X (binaryOp .BitAnd) (rI0 fun i j => .int (Builtin.bitAnd i j)) ∧ VOp2 K m (rI0 fun i j => .int (Builtin.bitAnd i j)) dAnd := ⟨op_and, vop_I0 (fun _ _ _ => rfl) fun _ _ => rfl⟩
/-! ### x op= v -/
theorem oi_add : OpR X (inplaceOp .Add) (rI0 fun i j => .int (i + j)) ∧ VOp2 K .sh (rI0 fun i j => .int (i + j)) (dI2 fun i j => .int (i + j)) := ⟨iop_add, vop_I0 (fun _ _ _ => rfl) fun _ _ => rfl⟩
theorem oi_fdiv : OpR X (inplaceOp .FloorDiv) (rI CDivW fun i j => .int (i / j)) ∧ VOp2 K .sh (rI CDivW fun i j => .int (i / j)) dFdiv := ⟨iop_fdivW, (o_fdiv (X := X)).2⟩
theorem oi_mod : OpR X (inplaceOp .Mod) (rI (fun _ j => 0 < j) fun i j => .int (i % j)) ∧ VOp2 K .sh (rI (fun _ j => 0 < j) fun i j => .int (i % j)) dMod := ⟨iop_mod, (o_mod (X := X)).2⟩
theorem oi_xor : OpR X (inplaceOp .BitXor) (rI0 fun i j => .int (Builtin.bitXor i j)) ∧ VOp2 K .sh (rI0 fun i j => .int (Builtin.bitXor i j)) dXor := ⟨iop_xor, vop_I0 (fun _ _ _ => rfl) fun _ _ => rfl⟩
def mAugO (i : Nat) (g : D → D → Option D) (fe : Mr D) : Mr Fl := fun ρ => match ρ[i]? with
  | some (some d) => (match fe ρ with
    | some (.ok e ρ') => (match g d e with
      | some z => some (.ok .nx (ρ'.set i (some z)))
      | none => none)
    | _ => none)
  | _ => none
theorem snd_augO {i : Nat} {r : R2} {g : D → D → Option D} (he : Snd K Γ Ek .sh te fe) (hv : VOp2 K .sh r g) (hm : Γ[i]? = some .sh) (hi : i ∉ io) : SndS K Γ Ek rm io (tAug i te r) (mAugO i g fe) := by
  intro σ H G C ρ E r' hg hf hq
  unfold mAugO at hf
  split at hf
  · rename_i d e1
    split at hf
    · rename_i e ρ' e2
      split at hf
      · rename_i z e3
        cases hf
        obtain ⟨v, m, o, h1, h2, h3, h4⟩ := hg.take e1
        rw [hm] at h2; cases h2
        obtain ⟨z1, q1⟩ := (R.sh_iff _).mp h3
        refine ⟨v, h1, he σ H G C ρ _ _ hg e2 fun yv H2 G2 oy g2 ry good2 => ?_⟩
        obtain ⟨z2, q2⟩ := (R.sh_iff _).mp ry
        subst z2
        obtain ⟨os, sl, s⟩ := good2.ex
        refine hv G2 H2 (os.flatten ++ C) v yv d e z _ (Sh.mono g2 _ q1) q2 s e3 fun w H3 G3 o3 g3 rw3 s3 => ?_
        obtain ⟨z3, q3⟩ := (R.sh_iff _).mp rw3
        subst z3
        exact hq _ H3 G3 (g2.trans g3) (Fix.set hi) (Good.put (o := []) ⟨os, sl.mono g3, s3.re (by walk_at "fle")⟩ (R.of_sh q3) hm)
      · cases hf
    · cases hf
  · cases hf
theorem ds_augO (i : Nat) {x : Str} {op : Operator} {r : R2} {g : D → D → Option D} {pos' : Pos} (nd : X.N.Nodup) (he : DE X K Γ Ek .sh e te fe) (o : OpR X (inplaceOp op) r ∧ VOp2 K .sh r g) (hi : X.N[i]? = some x := by rfl) (hx : Loc X.env.scope x := by first | exact Or.inl rfl | exact Or.inr rfl) (hio : i ∉ io := by decide) (hm : Γ[i]? = some .sh := by rfl)
    (hf : X.fn x = true ∨ X.env.scope.names.lookup x = some .local := by first | exact .inl rfl | exact .inr rfl) : DS X K Γ Ek rm io (.AugAssign (.Name x pos') op e pos) (tAug i te r) (mAugO i g fe) := ⟨ps_aug nd hi hx he.pe o.1 hf, snd_augO he.sn o.2 hm hio⟩
theorem wp_augO {ρ : De} (i : Nat) (g : D → D → Option D) (fe : Mr D) (Q : Rs Fl → Prop) : Wp (mAugO i g fe) ρ Q = kV ρ[i]? fun d => kR (match fe ρ with
    | some (.ok e ρ') => (match g d e with
      | some z => some (.ok .nx (ρ'.set i (some z)))
      | none => none)
    | _ => none) Q := by
  unfold Wp mAugO
  cases ρ[i]? with
  | none => rfl
  | some o => cases o <;> rfl
/-! ### zip of tuples -/
def dSeqT : D → Option (List D)
  | .tup xs => some xs
  | _ => none
theorem dSeqT_of {G H : Hp} {d : D} {v : V} {xs : List D} (h : dSeqT d = some xs) (r : Sh K G d v) : ∃ a vs, v = .ref a ∧ SqT K G a vs ∧ ShL K G xs vs := by
  cases d <;> first | (cases h; done) | skip
  cases h
  obtain ⟨a, vs, e, q, t⟩ := r; exact ⟨a, vs, e, .inl (.inl q), t⟩
/-- zip: two lists, or two tuples -/
def dZipA : List D → Option (List D)
  | [.tup xs, .tup ys] => some (zipD xs ys)
  | ds => dZip ds
theorem itzT_of {G : Hp} {a b : Addr} {vs us : List V} {xs ys : List D} {σ : St} (h1 : SqT K G a vs) (h2 : SqT K G b us) (r1 : ShL K G xs vs) (r2 : ShL K G ys us) : ItR K σ G (zipD xs ys) (ItzT K a b) [] := by
  refine ⟨rfl, fun i H G' O g s => ⟨fun d e => ?_, fun hl => ?_⟩⟩
  · obtain ⟨x, y, e1, e2, e3⟩ := zipD_get e
    obtain ⟨v, ev, rv⟩ := r1.get e1
    obtain ⟨u, eu, ru⟩ := r2.get e2
    have hs : SqT K H a vs := s.le.sqTT (g.sqTT h1)
    have hs2 : SqT K H b us := s.le.sqTT (g.sqTT h2)
    refine ⟨⟨vs, us, v, u, hs, hs2, ev, eu⟩, fun w H' ⟨T, v', u', ew, hT, eH, y1, y2⟩ => ?_⟩
    have z1 := y1 vs hs
    have z2 := y2 us hs2
    rw [ev] at z1; rw [eu] at z2
    cases z1; cases z2
    subst eH; subst ew; subst e3
    obtain ⟨s', g'⟩ := s.newG (u := .tup [v, u]) hT
    exact ⟨_, g', s', T, [v, u], rfl, upd_same, v, [u], rfl, Sh.mono (g.trans g') _ rv, u, [], rfl, Sh.mono (g.trans g') _ ru, rfl⟩
  · rw [zipD_len] at hl
    refine ⟨vs, us, s.le.sqTT (g.sqTT h1), s.le.sqTT (g.sqTT h2), ?_⟩
    rw [r1.len, r2.len]
    omega
theorem di_zipA {a b : PySem.Expr} {p : Pos} {tr : TA} {fr : Mr (List D)} {elts : List PySem.Expr} {kk : Nat} {tpos : Pos} (hm : X.mg "zip" = none) (h : DA X K Γ Ek [.v .sh, .v .sh] [a, b] tr fr) (hg : Gl X "zip" := by rfl) (hs : starEach [a, b] X.env = (false, eval a X.env) :: starEach [b] X.env := by rfl) (hpl : (backTo pos (starEach [b] X.env)).any (·.1) = false := by rfl) (hK : X.K = K := by rfl) :
    DI X K Γ Ek (.Tuple elts kk tpos) (.Call (.Name "zip" p) [a, b] [] pos) (iZipA K tr) (bnd fr fun ds => lft (dZipA ds)) := by subst hK; exact ⟨pi_zipA hg hm h.pa hs hpl, by
  refine SndG.bind (t2 := fun vs _ H1 R => ∃ a b xs ys, vs = [.ref a, .ref b] ∧ ((SqL X.K H1 a xs ∧ SqL X.K H1 b ys ∧ R (Itz X.K a b) H1) ∨ (SqT X.K H1 a xs ∧ SqT X.K H1 b ys ∧ R (ItzT X.K a b) H1))) h.sn fun ds vs σ H G C o ρ Q r rel good hf hq => ?_
  obtain ⟨z, q⟩ := ra_sh rel (by simp [isV])
  subst z
  obtain ⟨d, dr, v', vr', o1, o2, e1, e2, e3, r1, d2, dr2, v2, vr2, o3, o4, e4, e5, e6, r2, r3, r4, r5⟩ := rel
  subst r3; subst e4; subst e1
  unfold dZipA at hf
  split at hf
  · rename_i xs ys eq
    cases eq
    cases hf
    obtain ⟨v, w, ev, q1, w2, w3, ew, q2, q3⟩ := q
    obtain ⟨a, us, ea, sa, ra⟩ := dSeqT_of (H := H) (d := .tup xs) rfl q1
    obtain ⟨b, ws, eb, sb, rb⟩ := dSeqT_of (H := H) (d := .tup ys) rfl q2
    subst ea; subst eb
    rw [show w3 = [] from q3] at ew
    subst ew
    have le := good.sat.le
    exact ⟨a, b, us, ws, ev, .inr ⟨le.sqTT sa, le.sqTT sb, hq _ H G [] (GLe.refl G) (itzT_of sa sb ra rb) good⟩⟩
  · cases e7 : dSeqL d with
    | none => dsimp only [dZip] at hf; rw [e7] at hf; cases hf
    | some xs =>
      cases e8 : dSeqL d2 with
      | none => dsimp only [dZip] at hf; rw [e7, e8] at hf; cases hf
      | some ys =>
        dsimp only [dZip] at hf; rw [e7, e8] at hf; cases hf
        obtain ⟨v, w, ev, q1, w2, w3, ew, q2, q3⟩ := q
        obtain ⟨a, us, ea, sa, ra⟩ := dSeqL_of (H := H) e7 q1
        obtain ⟨b, ws, eb, sb, rb⟩ := dSeqL_of (H := H) e8 q2
        subst ea; subst eb
        rw [show w3 = [] from q3] at ew
        subst ew
        have le := good.sat.le
        exact ⟨a, b, us, ws, ev, .inl ⟨le.sqL sa, le.sqL sb, hq _ H G [] (GLe.refl G) (itz_of sa sb ra rb) good⟩⟩⟩
theorem dZipA_t (xs ys : List D) : dZipA [.tup xs, .tup ys] = some (zipD xs ys) := rfl
theorem dZipA_l (xs ys : List D) : dZipA [.lst xs, .lst ys] = some (zipD xs ys) := rfl
theorem zipD_map {α : Type} (f g : α → D) : ∀ xs : List α, zipD (xs.map f) (xs.map g) = xs.map fun x => .tup [f x, g x]
  | [] => rfl
  | x :: xs => by rw [List.map_cons, List.map_cons, List.map_cons, zipD, zipD_map f g xs]
/-! ### a list unpacked into names -/
def gtUnl (n : Nat) (gr : List D → De → Option De) (d : D) (ρ : De) : Option De := match d with
  | .lst ds => if ds.length = n then gr ds ρ else none
  | .frl ds => if ds.length = n then gr ds ρ else none
  | _ => none
theorem dg_unlS {es : List PySem.Expr} {p : Pos} {k : Nat} {gs : TGs} {gr : List D → De → Option De} {n : Nat} (hc : X.calm = true) (h : DGs X K Γ io .sh es gs gr) (hn : (assignEach es X.env).length = n := by rfl) (hst : (assignEach es X.env).findIdx? (·.1) = none := by rfl) (hK : X.K = K := by rfl) :
    DG X K Γ io .sh (.Tuple es k p) (gUnl K n gs) (gtUnl n gr) := by subst hK; exact ⟨pg_unl hc h.pg hn hst, fun G H C o σ ρ ρ' d v Q r good e hq => by
  cases d <;> first | (cases e; done) | skip
  · rename_i ds
    obtain ⟨z, a, vs, e1, e2, r1⟩ := r
    subst z
    dsimp only [gtUnl] at e
    split at e
    · rename_i hl
      exact ⟨a, vs, e1, .inl (.inl (good.sat.le _ _ e2)), by rw [r1.len]; exact hl, h.sn G H C [] σ ρ ρ' ds vs Q ((RL.sh_iff _).mpr ⟨rfl, r1⟩) good e hq⟩
    · cases e
  · rename_i ds
    obtain ⟨z, a, vs, e1, e2, r1⟩ := r
    subst z
    dsimp only [gtUnl] at e
    split at e
    · rename_i hl
      exact ⟨a, vs, e1, good.sat.le.sqL e2, by rw [r1.len]; exact hl, h.sn G H C [] σ ρ ρ' ds vs Q ((RL.sh_iff _).mpr ⟨rfl, r1⟩) good e hq⟩
    · cases e⟩
theorem dFdiv_n {a b : Nat} (h0 : 0 < b) (h1 : b < 1000000) : dFdiv (.int (a : Nat)) (.int (b : Nat)) = some (.int ((a / b : Nat) : Int)) := dFdiv_i (by omega) (by omega)
theorem dMod_n {a b : Nat} (h0 : 0 < b) : dMod (.int (a : Nat)) (.int (b : Nat)) = some (.int ((a % b : Nat) : Int)) := dMod_i (by omega)
/-- a loop that keeps something -/
theorem forS {α : Type} {gt : D → De → Option De} {body : Mr Fl} {Q : Rs Fl → Prop} {enc : α → D} {ρ : De} (I : De → De → Prop) {xs : List α} (h0 : I ρ ρ) (hs : ∀ x ρ', x ∈ xs → I ρ ρ' → kG (gt (enc x) ρ') fun ρ1 => Wp body ρ1 (kF (I ρ) Q)) (h1 : ∀ ρ', I ρ ρ' → Q (.ok .nx ρ')) : Wp (mForK gt body (xs.map enc)) ρ Q :=
  forF (σ := Unit) (fun ρ _ ρ' => I ρ ρ') (fun _ _ => ()) () h0 (fun _ x ρ' hx h => hs x ρ' hx h) h1
theorem dRng2n {a b : Nat} (ha : a ≤ 1000000000) (hb : b ≤ 1000000000) : dRng [.int (a : Nat), .int (b : Nat)] = some ((List.range (b - a)).map fun i : Nat => .int ((a + i : Nat) : Int)) := by
  rw [dRng2 (by omega) (by omega), rgC_map1, show ((b : Int) - (a : Int)).toNat = b - a by omega]
  rfl
theorem map_range_set {α : Type} (g : Nat → α) (N i : Nat) (v : α) : ((List.range N).map g).set i v = (List.range N).map fun j => if j = i then v else g j := by
  apply List.ext_getElem
  · simp
  · intro k h1 h2
    simp only [List.getElem_set, List.getElem_map, List.getElem_range]
    by_cases h : i = k
    · rw [if_pos h, if_pos h.symm]
    · rw [if_neg h, if_neg fun e => h e.symm]
theorem dMul_rep {d : D} {n : Nat} (h : n ≤ 16777216) : dMul (.lst [d]) (.int (n : Nat)) = some (.lst (List.replicate n d)) := by
  have e : (List.replicate n [d]).flatten = List.replicate n d := by
    clear h
    induction n with
    | zero => rfl
    | succ n ih => rw [List.replicate_succ, List.flatten_cons, ih, List.replicate_succ]; rfl
  unfold dMul
  dsimp only
  rw [if_pos ⟨by omega, by omega, by rw [Int.toNat_natCast, List.length_singleton, Nat.one_mul]; exact h⟩, Int.toNat_natCast, e]
/-- a comprehension of a body that leaves the names as I tells -/
theorem lcH {α : Type} {vs : List Nat} {gt : D → De → Option De} {fe : Mr D} {Q : Rs D → Prop} {enc : α → D} {ρ : De} (g : α → D) (I : De → De → Prop) {xs : List α} (hl : xs.length ≤ 16777216) (h0 : I (wipeD ρ vs) (wipeD ρ vs))
    (hs : ∀ x ρ', x ∈ xs → I (wipeD ρ vs) ρ' → kG (gt (enc x) ρ') fun ρ1 => Wp fe ρ1 (kE fun y ρ3 => y = g x ∧ I (wipeD ρ vs) (wipeD ρ3 vs))) (hq : ∀ ρ', I (wipeD ρ vs) ρ' → Q (.ok (.lst (xs.map g)) (wipeD ρ' vs))) : Wp (mLcK vs gt (ret true) fe (xs.map enc)) ρ Q := by
  refine lcI (fun ρ0 i acc ρ' => acc = (xs.take i).map g ∧ I ρ0 ρ') (by simpa using hl) ⟨by simp, h0⟩ (fun i d acc ρ' hd ha ⟨h2, h3⟩ => ?_) fun acc ρ' ⟨h2, h3⟩ => ?_
  · subst h2
    rw [List.getElem?_map] at hd
    obtain ⟨x, hx, rfl⟩ := Option.map_eq_some_iff.mp hd
    have := hs x ρ' (List.mem_of_getElem? hx) h3
    cases eg : gt (enc x) ρ' with
    | none => rw [eg] at this; exact this
    | some ρ1 =>
      rw [eg] at this
      show Wp fe ρ1 _
      refine Wp.mono (show Wp fe ρ1 _ from this) fun r hr => ?_
      cases r with
      | ex => exact hr
      | ok y ρ3 =>
        obtain ⟨h4, h5⟩ := hr
        refine ⟨?_, h5⟩
        rw [List.take_succ, hx]
        simp [h4]
  · subst h2
    simpa using hq ρ' h3
theorem ite_lim2 {α : Type} {n : Nat} {x y : α} (h : n ≤ 16777216) : (if n ≤ 16777216 then x else y) = x := if_pos h
theorem bAll_bl {α : Type} (f : α → Bool) (xs : List α) : bAll [.lst (xs.map fun i => .bl (f i))] = some (.bl (xs.all f)) := by
  have : ∀ xs : List α, boolsD (xs.map fun i => D.bl (f i)) = some (xs.map f) := fun xs => by
    induction xs with
    | nil => rfl
    | cons x xs ih =>
      rw [List.map_cons]
      unfold boolsD
      rw [ih]; rfl
  show (boolsD _).map _ = _
  rw [this]
  simp
theorem bAny_bl {α : Type} (f : α → Bool) (xs : List α) : bAny [.lst (xs.map fun i => .bl (f i))] = some (.bl (xs.any f)) := by
  have : ∀ xs : List α, boolsD (xs.map fun i => D.bl (f i)) = some (xs.map f) := fun xs => by
    induction xs with
    | nil => rfl
    | cons x xs ih =>
      rw [List.map_cons]
      unfold boolsD
      rw [ih]; rfl
  show (boolsD _).map _ = _
  rw [this]
  simp
theorem bSum_i {α : Type} (f : α → Int) (xs : List α) : bSum [.lst (xs.map fun i => .int (f i))] = some (.int (xs.map f).sum) := by
  have : ∀ xs : List α, intsD (xs.map fun i => D.int (f i)) = some (xs.map f) := fun xs => by
    induction xs with
    | nil => rfl
    | cons x xs ih =>
      rw [List.map_cons]
      unfold intsD
      rw [ih]; rfl
  show (intsD _).map _ = _
  rw [this]
  rfl
/-- data, to a depth -/
def Dt : Nat → D → Prop
  | 0, d => d = .non ∨ (∃ i, d = .int i) ∨ (∃ b, d = .bl b) ∨ ∃ z, d = .str z ∧ PyData.strOk z = true
  | n + 1, d => (d = .non ∨ (∃ i, d = .int i) ∨ (∃ b, d = .bl b) ∨ ∃ z, d = .str z ∧ PyData.strOk z = true) ∨ ∃ xs, (d = .lst xs ∨ d = .tup xs) ∧ xs.length ≤ 16777216 ∧ ∀ x ∈ xs, Dt n x
theorem Dt.up : ∀ {n : Nat} {d : D}, Dt n d → Dt (n + 1) d
  | 0, _, h => .inl h
  | n + 1, _, .inl h => .inl h
  | n + 1, _, .inr ⟨xs, a, b, c⟩ => .inr ⟨xs, a, b, fun x hx => (c x hx).up⟩
theorem Dt.to {n m : Nat} {d : D} (h : Dt n d) (hm : n ≤ m) : Dt m d := by
  induction hm with
  | refl => exact h
  | step _ ih => exact ih.up
theorem Dt.non (n : Nat) : Dt n .non := by cases n <;> simp [Dt]
theorem Dt.int (n : Nat) (i : Int) : Dt n (.int i) := by cases n <;> simp [Dt]
theorem Dt.bl (n : Nat) (i : Bool) : Dt n (.bl i) := by cases n <;> simp [Dt]
theorem Dt.str (n : Nat) (i : Str) (h : PyData.strOk i = true := by decide) : Dt n (.str i) := by cases n <;> simp [Dt, h]
theorem dEq_str (i j : Str) (h : PyData.strOk i = true) (h' : PyData.strOk j = true) : dEq (.str i) (.str j) = some (.bl (i == j)) := by
  show (if _ then _ else _) = _
  rw [if_pos (by simp [SeqAt.shaped, PyData.canLay0, PyData.depth, h, h'])]
  rfl
theorem Dt.l {n : Nat} {xs : List D} (h : xs.length ≤ 16777216) (h2 : ∀ x ∈ xs, Dt n x) : Dt (n + 1) (.lst xs) := .inr ⟨xs, .inl rfl, h, h2⟩
theorem Dt.t {n : Nat} {xs : List D} (h : xs.length ≤ 16777216) (h2 : ∀ x ∈ xs, Dt n x) : Dt (n + 1) (.tup xs) := .inr ⟨xs, .inr rfl, h, h2⟩
theorem Dt.lm {n : Nat} {α : Type} {f : α → D} {xs : List α} (h : xs.length ≤ 16777216) (h2 : ∀ x ∈ xs, Dt n (f x)) : Dt (n + 1) (.lst (xs.map f)) := Dt.l (by simpa using h) fun y hy => by
  obtain ⟨x, hx, rfl⟩ := List.mem_map.mp hy
  exact h2 x hx
theorem Dt.nil {n : Nat} {f : List D → D} : ∀ x ∈ ([] : List D), Dt n x := fun _ h => nomatch h
theorem Dt.cons {n : Nat} {d : D} {ds : List D} (h : Dt n d) (h2 : ∀ x ∈ ds, Dt n x) : ∀ x ∈ d :: ds, Dt n x := fun x hx => by
  rcases List.mem_cons.mp hx with rfl | hx
  · exact h
  · exact h2 x hx
end
end Dl
/-! Dl, sixteenth part: comprehensions of two clauses. -/
namespace Dl
open PySem L2
local macro_rules | `(tactic| walk_at "fle") => `(tactic| (intro P; simp only [List.countP_append, List.countP_cons, List.countP_nil, List.append_nil, List.nil_append]; first | omega | (split <;> omega)))
def lcM2 (vs vs1 : List Nat) (gt : D → De → Option De) (ft : Mr Bool) (fi1 : Mr (List D)) (gt1 : D → De → Option De) (ft1 : Mr Bool) (fe : Mr D) : List D → List D → De → Option (List D × De)
  | [], acc, ρ => some (acc, ρ)
  | d :: ds, acc, ρ => match gt d ρ with
    | none => none
    | some ρ1 => match ft ρ1 with
      | some (.ok true ρ2) => (match fi1 ρ2 with
        | some (.ok es ρ3) => (match lcM vs1 gt1 ft1 fe es acc (wipeD ρ3 vs1) with
          | some (acc', ρ4) => lcM2 vs vs1 gt ft fi1 gt1 ft1 fe ds acc' (wipeD ρ4 vs)
          | none => none)
        | _ => none)
      | some (.ok false ρ2) => lcM2 vs vs1 gt ft fi1 gt1 ft1 fe ds acc (wipeD ρ2 vs)
      | _ => none
def mLc2 (fi : Mr (List D)) (vs vs1 : List Nat) (gt : D → De → Option De) (ft : Mr Bool) (fi1 : Mr (List D)) (gt1 : D → De → Option De) (ft1 : Mr Bool) (fe : Mr D) : Mr D := bnd fi fun ds ρ => match lcM2 vs vs1 gt ft fi1 gt1 ft1 fe ds [] (wipeD ρ vs) with
  | none => none
  | some (ys, ρ') => some (.ok (.lst ys) (wipeD ρ' vs))
section
variable {K : PySem.W.Frag} {Γ : List Md} {Ek : WX} {vs vs1 : List Nat}
theorem snd_lc2 {c : Md} {wi wi1 : TI} {fi fi1 : Mr (List D)} {g g1 : TG} {gt gt1 : D → De → Option De} {tt tt1 : TT} {ft ft1 : Mr Bool} {te : TE} {fe : Mr D} {io' io1 : List Nat} (hi : SndG K Γ Ek (ItR K) wi fi) (hg' : SndT K Γ io' .sh g gt) (ht : SndG K Γ Ek0 RB tt ft)
    (hi1 : SndG K Γ Ek0 (ItR K) wi1 fi1) (hg1 : SndT K Γ io1 .sh g1 gt1) (ht1 : SndG K Γ Ek0 RB tt1 ft1) (he : Snd K Γ Ek0 c te fe)
    (hio : ∀ i, i < Γ.length → i ∉ vs → i ∈ io') (hio1 : ∀ i, i < Γ.length → i ∉ vs1 → i ∈ io1) (hv : ∀ i ∈ vs1, i ∈ vs) : Snd K Γ Ek (.own c) (tLc2 wi g tt wi1 g1 tt1 te vs vs1) (mLc2 fi vs vs1 gt ft fi1 gt1 ft1 fe) := by
  intro σ H G C ρ Q r hg hf hq
  rcases bnd_inv hf with ⟨ds, ρ1, e1, e2⟩ | ⟨x, ρ1, e1, e2⟩
  · refine hi σ H G C ρ _ _ hg e1 fun J H1 G1 o g1' rel good => ?_
    obtain ⟨rfl, walk⟩ := rel
    intro Dn hD
    cases e3 : lcM2 vs vs1 gt ft fi1 gt1 ft1 fe ds [] (wipeD ρ1 vs) with
    | none => rw [e3] at e2; cases e2
    | some yr =>
      obtain ⟨ys, ρ2⟩ := yr
      rw [e3] at e2
      cases e2
      have lσ : Γ.length = σ.length := hg.lenΓ
      refine ⟨fun i m H' => m = ds.length - i ∧ i ≤ ds.length ∧ ∃ G' ρ' acc accv oa, GLe G1 G' ∧ RL K G' acc c accv oa ∧ Good K Γ G' H' ((Dn, .lst accv) :: (oa ++ C)) (wipe σ vs) ρ' ∧ lcM2 vs vs1 gt ft fi1 gt1 ft1 fe (ds.drop i) acc ρ' = some (ys, ρ2),
        ⟨ds.length, by simp, Nat.zero_le _, G1, wipeD ρ1 vs, [], [], [], GLe.refl G1, ⟨rfl, rfl⟩, ?_, e3⟩, ?_⟩
      · have good1 : Good K Γ G1 H1 C (wipe σ vs) (wipeD ρ1 vs) := good.wipes (by rw [wipe_length]) fun i hi => (wipe_get hi).symm
        exact good1.step (GLe.refl G1) fun O s => (s.newO (u := .lst []) hD).re (by walk_at "fle")
      rintro i m H' ⟨rfl, hil, G', ρ', acc, accv, oa, g', racc, good', ef⟩
      obtain ⟨os, sl, s⟩ := good'.ex
      obtain ⟨w1, w2⟩ := walk i H' G' _ g' s
      by_cases hlt : i < ds.length
      · have ei : ds[i]? = some ds[i] := by simp [hlt]
        have ed : ds.drop i = ds[i] :: ds.drop (i + 1) := List.drop_eq_getElem_cons hlt
        rw [ed] at ef
        obtain ⟨hgo, hy⟩ := w1 _ ei
        refine .inr ⟨hgo, fun H2 => ∃ G2 ρ2' acc2 accv2 oa2, GLe G1 G2 ∧ RL K G2 acc2 c accv2 oa2 ∧ Good K Γ G2 H2 ((Dn, .lst accv2) :: (oa2 ++ C)) (wipe σ vs) ρ2' ∧ lcM2 vs vs1 gt ft fi1 gt1 ft1 fe (ds.drop (i + 1)) acc2 ρ2' = some (ys, ρ2),
          fun H2 z => ⟨ds.length - (i + 1), by omega, rfl, hlt, z⟩, fun x H2 y => ?_⟩
        obtain ⟨G2, g2, s2, rx⟩ := hy x H2 y
        unfold lcM2 at ef
        cases e4 : gt ds[i] ρ' with
        | none => rw [e4] at ef; cases ef
        | some ρ3 =>
          rw [e4] at ef
          dsimp only at ef
          refine hg' G2 H2 _ [] (wipe σ vs) ρ' ρ3 ds[i] x _ (R.of_sh rx) ⟨os, sl.mono g2, s2⟩ e4 fun σ3 H3 G3 g3 fx3 good3 => ?_
          have hl3 : σ3.length = σ.length := by rw [← good3.lenΓ, lσ]
          have ew : wipe σ3 vs = wipe σ vs := wipe_eq hl3 (fun i hi hv => hio i (by rw [lσ]; exact hi) hv) fx3
          refine ⟨ew, ?_⟩
          cases e5 : ft ρ3 with
          | none => rw [e5] at ef; cases ef
          | some r5 =>
            rw [e5] at ef
            refine ht σ3 H3 G3 _ ρ3 _ r5 good3 e5 ?_
            cases r5 with
            | ex x5 ρ5 => cases ef
            | ok k ρ5 =>
              intro b H5 G5 o5 g5 rel5 good5
              obtain ⟨rfl, rfl⟩ := rel5
              have g15 : GLe G' G5 := g2.trans (g3.trans g5)
              cases k with
              | false =>
                rw [if_neg Bool.false_ne_true]
                exact ⟨G5, wipeD ρ5 vs, acc, accv, oa, g'.trans g15, RL.mono g15 _ racc, good5.wipes (by rw [wipe_length, hl3]) fun j hj => by rw [wipe_get hj]; exact get_of_wipe_eq ew hj, ef⟩
              | true =>
                rw [if_pos rfl]
                cases e6 : fi1 ρ5 with
                | none => dsimp only at ef; rw [e6] at ef; cases ef
                | some r6 =>
                  dsimp only at ef
                  rw [e6] at ef
                  refine hi1 σ3 H5 G5 _ ρ5 _ r6 good5 e6 ?_
                  cases r6 with
                  | ex x6 ρ6 => cases ef
                  | ok es ρ6 =>
                    dsimp only at ef
                    cases e7 : lcM vs1 gt1 ft1 fe es acc (wipeD ρ6 vs1) with
                    | none => rw [e7] at ef; cases ef
                    | some ar =>
                      obtain ⟨accF, ρF⟩ := ar
                      rw [e7] at ef
                      dsimp only at ef
                      intro J1 H6 G6 o6 g6 rel6 good6
                      obtain ⟨rfl, walk1⟩ := rel6
                      refine ⟨fun j k H' => k = es.length - j ∧ j ≤ es.length ∧ ∃ G7 ρ7 acc7 accv7 oa7, GLe G6 G7 ∧ RL K G7 acc7 c accv7 oa7 ∧ Good K Γ G7 H' ((Dn, .lst accv7) :: (oa7 ++ C)) (wipe σ3 vs1) ρ7 ∧ lcM vs1 gt1 ft1 fe (es.drop j) acc7 ρ7 = some (accF, ρF),
                        ⟨es.length, by simp, Nat.zero_le _, G6, wipeD ρ6 vs1, acc, accv, oa, GLe.refl G6, RL.mono (g15.trans g6) _ racc, ?_, e7⟩, ?_⟩
                      · exact good6.wipes (by rw [wipe_length]) fun i hi => (wipe_get hi).symm
                      rintro j k H7 ⟨rfl, hjl, G7, ρ7, acc7, accv7, oa7, g7, racc7, good7, ef7⟩
                      obtain ⟨os7, sl7, s7⟩ := good7.ex
                      obtain ⟨w3, w4⟩ := walk1 j H7 G7 _ g7 s7
                      by_cases hjt : j < es.length
                      · have ej : es[j]? = some es[j] := by simp [hjt]
                        have ed7 : es.drop j = es[j] :: es.drop (j + 1) := List.drop_eq_getElem_cons hjt
                        rw [ed7] at ef7
                        obtain ⟨hgo1, hy1⟩ := w3 _ ej
                        refine .inr ⟨hgo1, fun H8 => ∃ G8 ρ8 acc8 accv8 oa8, GLe G6 G8 ∧ RL K G8 acc8 c accv8 oa8 ∧ Good K Γ G8 H8 ((Dn, .lst accv8) :: (oa8 ++ C)) (wipe σ3 vs1) ρ8 ∧ lcM vs1 gt1 ft1 fe (es.drop (j + 1)) acc8 ρ8 = some (accF, ρF),
                          fun H8 z => ⟨es.length - (j + 1), by omega, rfl, hjt, z⟩, fun x1 H8 y1 => ?_⟩
                        obtain ⟨G8, g8, s8, rx1⟩ := hy1 x1 H8 y1
                        unfold lcM at ef7
                        cases e8 : gt1 es[j] ρ7 with
                        | none => rw [e8] at ef7; cases ef7
                        | some ρ9 =>
                          rw [e8] at ef7
                          dsimp only at ef7
                          refine hg1 G8 H8 _ [] (wipe σ3 vs1) ρ7 ρ9 es[j] x1 _ (R.of_sh rx1) ⟨os7, sl7.mono g8, s8⟩ e8 fun σ4 H9 G9 g9 fx9 good9 => ?_
                          have hl4 : σ4.length = σ3.length := by rw [← good9.lenΓ, lσ, hl3]
                          have ew1 : wipe σ4 vs1 = wipe σ3 vs1 := wipe_eq hl4 (fun i hi hv => hio1 i (by rw [lσ, ← hl3]; exact hi) hv) fx9
                          refine ⟨ew1, ?_⟩
                          cases e10 : ft1 ρ9 with
                          | none => rw [e10] at ef7; cases ef7
                          | some r10 =>
                            rw [e10] at ef7
                            refine ht1 σ4 H9 G9 _ ρ9 _ r10 good9 e10 ?_
                            cases r10 with
                            | ex x5 ρ5 => cases ef7
                            | ok k1 ρ10 =>
                              intro b1 H10 G10 o10 g10 rel10 good10
                              obtain ⟨rfl, rfl⟩ := rel10
                              have g17 : GLe G7 G10 := g8.trans (g9.trans g10)
                              cases k1 with
                              | false =>
                                rw [if_neg Bool.false_ne_true]
                                exact ⟨G10, wipeD ρ10 vs1, acc7, accv7, oa7, g7.trans g17, RL.mono g17 _ racc7, good10.wipes (by rw [wipe_length, hl4]) fun j hj => by rw [wipe_get hj]; exact get_of_wipe_eq ew1 hj, ef7⟩
                              | true =>
                                rw [if_pos rfl]
                                have ef7 : (match fe ρ10 with
                                  | some (.ok y ρ3) => if acc7.length < lim then lcM vs1 gt1 ft1 fe (es.drop (j + 1)) (acc7 ++ [y]) (wipeD ρ3 vs1) else none
                                  | _ => none) = some (accF, ρF) := ef7
                                cases e11 : fe ρ10 with
                                | none => rw [e11] at ef7; cases ef7
                                | some r11 =>
                                  rw [e11] at ef7
                                  refine he σ4 H10 G10 _ ρ10 _ r11 good10 e11 ?_
                                  cases r11 with
                                  | ex x6 ρ6 => cases ef7
                                  | ok yd ρ11 =>
                                    intro yv H11 G11 oy g11 ry good11
                                    dsimp only at ef7
                                    split at ef7
                                    · rename_i hlim
                                      refine ⟨accv7, ?_, by rw [(RL.len racc7), ← lim_eq]; exact hlim, ?_⟩
                                      · have s6 := good11.sat
                                        exact (s6.re (O' := (Dn, .lst accv7) :: (oy ++ (oa7 ++ C))) (by walk_at "fle")).own
                                      · have g16 : GLe G7 G11 := g17.trans g11
                                        refine ⟨G11, wipeD ρ11 vs1, acc7 ++ [yd], accv7 ++ [yv], oa7 ++ (oy ++ []), g7.trans g16, RL.append (RL.mono g16 _ racc7) ⟨yv, [], oy, [], rfl, rfl, ry, rfl, rfl⟩, ?_, ef7⟩
                                        have good12 : Good K Γ G11 H11 (oy ++ (Dn, .lst accv7) :: (oa7 ++ C)) (wipe σ3 vs1) (wipeD ρ11 vs1) := good11.wipes (by rw [wipe_length, hl4]) fun j hj => by rw [wipe_get hj]; exact get_of_wipe_eq ew1 hj
                                        refine good12.step (GLe.refl G11) fun O s12 => ?_
                                        have s13 : Sat H11 G11 ((Dn, .lst accv7) :: (O ++ (oy ++ (oa7 ++ C)))) := s12.re (by walk_at "fle")
                                        exact (s13.write (u' := .lst (accv7 ++ [yv]))).re (by walk_at "fle")
                                    · cases ef7
                      · have e : j = es.length := by omega
                        subst e
                        rw [List.drop_length] at ef7
                        cases ef7
                        refine .inl ⟨w4 (Nat.le_refl _), G7, wipeD ρF vs, accF, accv7, oa7, g'.trans (g15.trans (g6.trans g7)), racc7, ?_, ef⟩
                        exact good7.wipes (by rw [wipe_length, wipe_length, hl3]) fun i hi => (wipe_get fun h => hi (hv i h)).trans ((get_of_wipe_eq ew hi).trans (wipe_get hi).symm)
      · have e : i = ds.length := by omega
        subst e
        rw [List.drop_length] at ef
        cases ef
        refine .inl ⟨w2 (Nat.le_refl _), hq (.ref Dn) H' G' ((Dn, .lst accv) :: oa) (g1'.trans g') ⟨Dn, accv, oa, rfl, rfl, racc⟩ ?_⟩
        exact good'.wipes (by rw [wipe_length]) fun j hj => wipe_get hj
  · subst e2
    exact hi σ H G C ρ _ _ hg e1 fun c dx H' G' g' xr good => hq c dx H' G' g' xr good
end
section
variable {X : Cx} {K : PySem.W.Frag} {Γ : List Md} {Ek : WX} {c rm : Md} {io : List Nat} {tg elt iter tg1 iter1 : PySem.Expr} {te : TE} {fe : Mr D} {tt tt1 : TT} {ft ft1 : Mr Bool} {pos p : Pos} {ifs ifs1 : List PySem.Expr} {scope : Scope} {own : List (Str × Nat)} {wi wi1 : TI} {fi fi1 : Mr (List D)} {g g1 : TG} {gt gt1 : D → De → Option De} {io' io1 : List Nat}
theorem de_lc2 (own : List (Str × Nat)) (vs1 : List Nat) (hc : X.calm = true) (hN : X.N.Nodup) (hi : DI X K Γ Ek tg iter wi fi) (ok : BlkOk X.N X.env.scope scope own)
    (hg : ∀ (s : Shared) (H : Hp) (C : Addr) (cl : List (Str × Addr)) (fp : List Addr), DG (X.blk s H scope (compEnvC scope cl C X.env) fp) K Γ io' .sh tg g gt)
    (ht : ∀ (s : Shared) (H : Hp) (C : Addr) (cl : List (Str × Addr)) (fp : List Addr), DTs (X.blk s H scope (compEnvC scope cl C X.env) fp) K Γ Ek0 ifs tt ft)
    (hi1 : ∀ (s : Shared) (H : Hp) (C : Addr) (cl : List (Str × Addr)) (fp : List Addr), DI (X.blk s H scope (compEnvC scope cl C X.env) fp) K Γ Ek0 tg1 iter1 wi1 fi1)
    (hg1 : ∀ (s : Shared) (H : Hp) (C : Addr) (cl : List (Str × Addr)) (fp : List Addr), DG (X.blk s H scope (compEnvC scope cl C X.env) fp) K Γ io1 .sh tg1 g1 gt1)
    (ht1 : ∀ (s : Shared) (H : Hp) (C : Addr) (cl : List (Str × Addr)) (fp : List Addr), DTs (X.blk s H scope (compEnvC scope cl C X.env) fp) K Γ Ek0 ifs1 tt1 ft1)
    (he : ∀ (s : Shared) (H : Hp) (C : Addr) (cl : List (Str × Addr)) (fp : List Addr), DE (X.blk s H scope (compEnvC scope cl C X.env) fp) K Γ Ek0 c elt te fe)
    (hio : ∀ i, i < Γ.length → i ∉ own.map (·.2) → i ∈ io' := by decide) (hio1 : ∀ i, i < Γ.length → i ∉ vs1 → i ∈ io1 := by decide) (hv : ∀ i ∈ vs1, i ∈ own.map (·.2) := by decide)
    (hs : ∀ x, foldedSetIterable iter X.env x = pure x := by intro _; rfl) (hs1 : ∀ env x, foldedSetIterable iter1 env x = pure x := by intro _ _; rfl) :
    DE X K Γ Ek (.own c) (.ListComp elt [⟨tg, iter, ifs, 0⟩, ⟨tg1, iter1, ifs1, 0⟩] scope pos) (tLc2 wi g tt wi1 g1 tt1 te (own.map (·.2)) vs1) (mLc2 fi (own.map (·.2)) vs1 gt ft fi1 gt1 ft1 fe) :=
  ⟨pe_lc2 hc hN hi.pi ok hv (fun s H C cl fp => (hg s H C cl fp).pg) (fun s H C cl fp => (ht s H C cl fp).pt) (fun s H C cl fp => (hi1 s H C cl fp).pi) (fun s H C cl fp => (hg1 s H C cl fp).pg) (fun s H C cl fp => (ht1 s H C cl fp).pt) (fun s H C cl fp => (he s H C cl fp).pe) hs hs1,
    snd_lc2 hi.sn (hg X.s_0 (fun _ => none) 0 [] []).sn (ht X.s_0 (fun _ => none) 0 [] []).sn (hi1 X.s_0 (fun _ => none) 0 [] []).sn (hg1 X.s_0 (fun _ => none) 0 [] []).sn (ht1 X.s_0 (fun _ => none) 0 [] []).sn (he X.s_0 (fun _ => none) 0 [] []).sn hio hio1 hv⟩
theorem ds_setLc2 (i : Nat) {y : Str} {py spos : Pos} (own : List (Str × Nat)) (vs1 : List Nat) (hc : X.calm = true) (hN : X.N.Nodup) (hi : DI X K Γ Ek tg iter wi fi) (ok : BlkOk X.N X.env.scope scope own)
    (hg : ∀ (s : Shared) (H : Hp) (C : Addr) (cl : List (Str × Addr)) (fp : List Addr), DG (X.blk s H scope (compEnvC scope cl C X.env) fp) K Γ io' .sh tg g gt)
    (ht : ∀ (s : Shared) (H : Hp) (C : Addr) (cl : List (Str × Addr)) (fp : List Addr), DTs (X.blk s H scope (compEnvC scope cl C X.env) fp) K Γ Ek0 ifs tt ft)
    (hi1 : ∀ (s : Shared) (H : Hp) (C : Addr) (cl : List (Str × Addr)) (fp : List Addr), DI (X.blk s H scope (compEnvC scope cl C X.env) fp) K Γ Ek0 tg1 iter1 wi1 fi1)
    (hg1 : ∀ (s : Shared) (H : Hp) (C : Addr) (cl : List (Str × Addr)) (fp : List Addr), DG (X.blk s H scope (compEnvC scope cl C X.env) fp) K Γ io1 .sh tg1 g1 gt1)
    (ht1 : ∀ (s : Shared) (H : Hp) (C : Addr) (cl : List (Str × Addr)) (fp : List Addr), DTs (X.blk s H scope (compEnvC scope cl C X.env) fp) K Γ Ek0 ifs1 tt1 ft1)
    (he : ∀ (s : Shared) (H : Hp) (C : Addr) (cl : List (Str × Addr)) (fp : List Addr), DE (X.blk s H scope (compEnvC scope cl C X.env) fp) K Γ Ek0 c elt te fe)
    (hsw : swapsWith (.ListComp elt [⟨tg, iter, ifs, 0⟩, ⟨tg1, iter1, ifs1, 0⟩] scope pos) (some (.Name y py)) spos.line X.env = pure true) (hm : Γ[i]? = some (.own c) := by rfl) (hio0 : i ∉ io := by decide)
    (hy : X.N[i]? = some y := by rfl) (hyl : X.env.scope.names.lookup y = some .local := by rfl)
    (hio : ∀ i, i < Γ.length → i ∉ own.map (·.2) → i ∈ io' := by decide) (hio1 : ∀ i, i < Γ.length → i ∉ vs1 → i ∈ io1 := by decide) (hv : ∀ i ∈ vs1, i ∈ own.map (·.2) := by decide)
    (hs : ∀ x, foldedSetIterable iter X.env x = pure x := by intro _; rfl) (hs1 : ∀ env x, foldedSetIterable iter1 env x = pure x := by intro _ _; rfl) :
    DS X K Γ Ek rm io (.Assign [.Name y py] (.ListComp elt [⟨tg, iter, ifs, 0⟩, ⟨tg1, iter1, ifs1, 0⟩] scope pos) spos) (tAsg (tLc2 wi g tt wi1 g1 tt1 te (own.map (·.2)) vs1) (gName i)) (mAsg (mLc2 fi (own.map (·.2)) vs1 gt ft fi1 gt1 ft1 fe) (gtName i)) :=
  ⟨ps_setLc2 hc hN hy hyl hsw hi.pi ok hv (fun s H C cl fp => (hg s H C cl fp).pg) (fun s H C cl fp => (ht s H C cl fp).pt) (fun s H C cl fp => (hi1 s H C cl fp).pi) (fun s H C cl fp => (hg1 s H C cl fp).pg) (fun s H C cl fp => (ht1 s H C cl fp).pt) (fun s H C cl fp => (he s H C cl fp).pe) hs hs1,
    snd_asg (snd_lc2 hi.sn (hg X.s_0 (fun _ => none) 0 [] []).sn (ht X.s_0 (fun _ => none) 0 [] []).sn (hi1 X.s_0 (fun _ => none) 0 [] []).sn (hg1 X.s_0 (fun _ => none) 0 [] []).sn (ht1 X.s_0 (fun _ => none) 0 [] []).sn (he X.s_0 (fun _ => none) 0 [] []).sn hio hio1 hv) (snt_name hm hio0)⟩
theorem ds_setLc2S (i : Nat) {y : Str} {py spos : Pos} (own : List (Str × Nat)) (vs1 : List Nat) (hc : X.calm = true) (hN : X.N.Nodup) (hi : DI X K Γ Ek tg iter wi fi) (ok : BlkOk X.N X.env.scope scope own)
    (hg : ∀ (s : Shared) (H : Hp) (C : Addr) (cl : List (Str × Addr)) (fp : List Addr), DG (X.blk s H scope (compEnvC scope cl C X.env) fp) K Γ io' .sh tg g gt)
    (ht : ∀ (s : Shared) (H : Hp) (C : Addr) (cl : List (Str × Addr)) (fp : List Addr), DTs (X.blk s H scope (compEnvC scope cl C X.env) fp) K Γ Ek0 ifs tt ft)
    (hi1 : ∀ (s : Shared) (H : Hp) (C : Addr) (cl : List (Str × Addr)) (fp : List Addr), DI (X.blk s H scope (compEnvC scope cl C X.env) fp) K Γ Ek0 tg1 iter1 wi1 fi1)
    (hg1 : ∀ (s : Shared) (H : Hp) (C : Addr) (cl : List (Str × Addr)) (fp : List Addr), DG (X.blk s H scope (compEnvC scope cl C X.env) fp) K Γ io1 .sh tg1 g1 gt1)
    (ht1 : ∀ (s : Shared) (H : Hp) (C : Addr) (cl : List (Str × Addr)) (fp : List Addr), DTs (X.blk s H scope (compEnvC scope cl C X.env) fp) K Γ Ek0 ifs1 tt1 ft1)
    (he : ∀ (s : Shared) (H : Hp) (C : Addr) (cl : List (Str × Addr)) (fp : List Addr), DE (X.blk s H scope (compEnvC scope cl C X.env) fp) K Γ Ek0 c elt te fe)
    (hsw : swapsWith (.ListComp elt [⟨tg, iter, ifs, 0⟩, ⟨tg1, iter1, ifs1, 0⟩] scope pos) (some (.Name y py)) spos.line X.env = pure true) (hm : Γ[i]? = some .sh := by rfl) (hio0 : i ∉ io := by decide)
    (hy : X.N[i]? = some y := by rfl) (hyl : X.env.scope.names.lookup y = some .local := by rfl)
    (hio : ∀ i, i < Γ.length → i ∉ own.map (·.2) → i ∈ io' := by decide) (hio1 : ∀ i, i < Γ.length → i ∉ vs1 → i ∈ io1 := by decide) (hv : ∀ i ∈ vs1, i ∈ own.map (·.2) := by decide)
    (hs : ∀ x, foldedSetIterable iter X.env x = pure x := by intro _; rfl) (hs1 : ∀ env x, foldedSetIterable iter1 env x = pure x := by intro _ _; rfl) :
    DS X K Γ Ek rm io (.Assign [.Name y py] (.ListComp elt [⟨tg, iter, ifs, 0⟩, ⟨tg1, iter1, ifs1, 0⟩] scope pos) spos) (tAsg (tLc2 wi g tt wi1 g1 tt1 te (own.map (·.2)) vs1) (gName i)) (mAsg (mLc2 fi (own.map (·.2)) vs1 gt ft fi1 gt1 ft1 fe) (gtName i)) :=
  ⟨ps_setLc2 hc hN hy hyl hsw hi.pi ok hv (fun s H C cl fp => (hg s H C cl fp).pg) (fun s H C cl fp => (ht s H C cl fp).pt) (fun s H C cl fp => (hi1 s H C cl fp).pi) (fun s H C cl fp => (hg1 s H C cl fp).pg) (fun s H C cl fp => (ht1 s H C cl fp).pt) (fun s H C cl fp => (he s H C cl fp).pe) hs hs1,
    snd_asg (snd_lc2 hi.sn (hg X.s_0 (fun _ => none) 0 [] []).sn (ht X.s_0 (fun _ => none) 0 [] []).sn (hi1 X.s_0 (fun _ => none) 0 [] []).sn (hg1 X.s_0 (fun _ => none) 0 [] []).sn (ht1 X.s_0 (fun _ => none) 0 [] []).sn (he X.s_0 (fun _ => none) 0 [] []).sn hio hio1 hv).froze (snt_name hm hio0)⟩
end
/-! reckoning -/
def mLc2K (vs vs1 : List Nat) (gt : D → De → Option De) (ft : Mr Bool) (fi1 : Mr (List D)) (gt1 : D → De → Option De) (ft1 : Mr Bool) (fe : Mr D) (ds : List D) : Mr D := fun ρ => match lcM2 vs vs1 gt ft fi1 gt1 ft1 fe ds [] (wipeD ρ vs) with
  | none => none
  | some (ys, ρ') => some (.ok (.lst ys) (wipeD ρ' vs))
theorem wp_lc2 {ρ : De} (fi : Mr (List D)) (vs vs1 : List Nat) (gt : D → De → Option De) (ft : Mr Bool) (fi1 : Mr (List D)) (gt1 : D → De → Option De) (ft1 : Mr Bool) (fe : Mr D) (Q : Rs D → Prop) : Wp (mLc2 fi vs vs1 gt ft fi1 gt1 ft1 fe) ρ Q = Wp fi ρ (kB (mLc2K vs vs1 gt ft fi1 gt1 ft1 fe) Q) := wp_bnd _ _ _
theorem lcM_acc {vs : List Nat} {gt : D → De → Option De} {ft : Mr Bool} {fe : Mr D} : ∀ (ds acc : List D) (ρ : De) (ys : List D) (ρ' : De), lcM vs gt ft fe ds [] ρ = some (ys, ρ') → acc.length + ds.length ≤ 16777216 → lcM vs gt ft fe ds acc ρ = some (acc ++ ys, ρ') := by
  suffices h : ∀ (ds acc acc0 : List D) (ρ : De) (ys : List D) (ρ' : De), lcM vs gt ft fe ds acc0 ρ = some (acc0 ++ ys, ρ') → acc.length + acc0.length + ds.length ≤ 16777216 → lcM vs gt ft fe ds (acc ++ acc0) ρ = some (acc ++ acc0 ++ ys, ρ') by
    intro ds acc ρ ys ρ' h1 h2
    have := h ds acc [] ρ ys ρ' (by simpa using h1) (by simpa using h2)
    simpa using this
  intro ds
  induction ds with
  | nil =>
    intro acc acc0 ρ ys ρ' h1 h2
    unfold lcM at h1 ⊢
    simp only [Option.some.injEq, Prod.mk.injEq] at h1
    obtain ⟨h1, rfl⟩ := h1
    have : ys = [] := by simpa using h1
    subst this
    simp
  | cons d ds ih =>
    intro acc acc0 ρ ys ρ' h1 h2
    unfold lcM at h1 ⊢
    cases eg : gt d ρ with
    | none => rw [eg] at h1; cases h1
    | some ρ1 =>
      rw [eg] at h1
      dsimp only at h1 ⊢
      cases ef : ft ρ1 with
      | none => rw [ef] at h1; cases h1
      | some r =>
        rw [ef] at h1
        cases r with
        | ex => cases h1
        | ok k ρ2 =>
          cases k with
          | false => exact ih acc acc0 _ ys ρ' h1 (by simp at h2; omega)
          | true =>
            dsimp only at h1 ⊢
            cases ee : fe ρ2 with
            | none => rw [ee] at h1; cases h1
            | some r =>
              rw [ee] at h1
              cases r with
              | ex => cases h1
              | ok y ρ3 =>
                dsimp only at h1 ⊢
                split at h1
                · simp only [List.length_cons] at h2
                  rw [if_pos (show (acc ++ acc0).length < lim by show _ < 16777216; rw [List.length_append]; omega)]
                  have pre : ∃ zs, ys = y :: zs := by
                    have hp := lcM_pre ds (acc0 ++ [y]) _ _ _ h1
                    obtain ⟨zs, hz⟩ := hp
                    rw [List.append_assoc] at hz
                    exact ⟨zs, (List.append_cancel_left hz)⟩
                  obtain ⟨zs, rfl⟩ := pre
                  have := ih acc (acc0 ++ [y]) _ zs ρ' (by rw [h1]; simp) (by simp; omega)
                  rw [← List.append_assoc] at this
                  rw [this]
                  simp
                · cases h1
where
  lcM_pre {vs : List Nat} {gt : D → De → Option De} {ft : Mr Bool} {fe : Mr D} : ∀ (ds acc : List D) (ρ : De) (ys : List D) (ρ' : De), lcM vs gt ft fe ds acc ρ = some (ys, ρ') → ∃ zs, ys = acc ++ zs := by
    intro ds
    induction ds with
    | nil =>
      intro acc ρ ys ρ' h
      unfold lcM at h
      cases h
      exact ⟨[], by simp⟩
    | cons d ds ih =>
      intro acc ρ ys ρ' h
      unfold lcM at h
      cases eg : gt d ρ with
      | none => rw [eg] at h; cases h
      | some ρ1 =>
        rw [eg] at h
        dsimp only at h
        cases ef : ft ρ1 with
        | none => rw [ef] at h; cases h
        | some r =>
          rw [ef] at h
          cases r with
          | ex => cases h
          | ok k ρ2 =>
            cases k with
            | false => exact ih acc _ _ _ h
            | true =>
              dsimp only at h
              cases ee : fe ρ2 with
              | none => rw [ee] at h; cases h
              | some r =>
                rw [ee] at h
                cases r with
                | ex => cases h
                | ok y ρ3 =>
                  dsimp only at h
                  split at h
                  · obtain ⟨zs, hz⟩ := ih _ _ _ _ h
                    exact ⟨y :: zs, by rw [hz]; simp⟩
                  · cases h
end Dl
/-! Dl, seventeenth part: sorted of ints, of pairs of ints. -/
namespace Dl
open PySem L2 PySem.Spec PyProof.Rows
local macro_rules | `(tactic| walk_at "fle") => `(tactic| (intro P; simp only [List.countP_append, List.countP_cons, List.countP_nil, List.append_nil, List.nil_append]; first | omega | (split <;> omega)))
def rSortedPT (K : PySem.W.Frag) : List V → Hp → VK → Prop := fun vs H Q => ∃ (a : Addr) (L : List (V × (Int × Int))), vs = [V.ref a] ∧ SqL K H a (L.map (·.1)) ∧ (∀ p ∈ L, ∃ t, p.1 = V.ref t ∧ SqT K H t [.int p.2.1, .int p.2.2]) ∧
  ∀ (L' : List (V × (Int × Int))) (q : Addr), L'.Perm L → (L'.map (·.2)).Pairwise (fun x y => SrtO.lexB y x = false) → H q = none → Q (.ref q) (upd H q (.lst (L'.map (·.1))))
theorem isPair_uniq {h : Heap} {v : Value} {x y x' y' : Int} (p : Srt.IsPair h v x y) (q : Srt.IsPair h v x' y') : (x, y) = (x', y') := by
  obtain ⟨a, o, t, u, n, rfl, ho, hc, hd⟩ := p
  obtain ⟨a', o', t', u', n', e, ho', hc', hd'⟩ := q
  cases e
  rw [ho] at ho'
  cases ho'
  rw [hd] at hd'
  cases hd'
  rfl
open Classical in
theorem cr_sortedPT {X : Cx} : CallR X (.builtin "sorted") (rSortedPT X.K) := by
  intro pins s σ H vs us Q I r h
  obtain ⟨a, L, rfl, hs, hx, q⟩ := h
  obtain ⟨its, rv, hl, hz⟩ := I.list hs
  obtain ⟨u, rfl, ru⟩ := vals1 r
  obtain rfl : u = Value.ref a := ru
  obtain ⟨e1, e2⟩ := refs_back rv fun x m => by
    obtain ⟨p, hp, rfl⟩ := List.mem_map.mp m
    obtain ⟨t, e, _⟩ := hx p hp
    exact ⟨t, e⟩
  let k : Value → Int × Int := fun v => if hv : ∃ p : Int × Int, Srt.IsPair s.heap v p.1 p.2 then hv.choose else (0, 0)
  have hk : ∀ v i j, Srt.IsPair s.heap v i j → k v = (i, j) := fun v i j hp => by
    have hv : ∃ p : Int × Int, Srt.IsPair s.heap v p.1 p.2 := ⟨(i, j), hp⟩
    show (if hv : _ then _ else _) = _
    rw [dif_pos hv]
    exact isPair_uniq hv.choose_spec hp
  have pairs : ∀ p ∈ L, ∃ t, p.1 = V.ref t ∧ Srt.IsPair s.heap (Value.ref t) p.2.1 p.2.2 := fun p hp => by
    obtain ⟨t, e, ht⟩ := hx p hp
    obtain ⟨its2, r2, ⟨o, ho, hc, n, hd⟩, hs2⟩ := I.tuple ht
    obtain ⟨u1, u2, rfl, ri, rj⟩ := vals2 r2
    obtain ⟨t1, rfl⟩ := ri
    obtain ⟨t2, rfl⟩ := rj
    exact ⟨t, e, t, o, t1, t2, n, rfl, ho, hc, hd⟩
  have hL : L = (L.map (·.1)).map fun v => (v, k (match v with | .ref t => Value.ref t | _ => Value.none)) := by
    rw [List.map_map]
    conv => lhs; rw [← List.map_id L]
    refine List.map_congr_left fun p hp => ?_
    obtain ⟨t, e, ht⟩ := pairs p hp
    show p = (p.1, k (match p.1 with | .ref t => Value.ref t | _ => Value.none))
    rw [e]
    dsimp only
    rw [hk _ _ _ ht, ← e]
  refine SrtO.sorted_pairsO (k := k) hl.isList (by rw [← rv.length]; exact hz) (fun v hv => ?_) fun h' d out h1 h2 kp hd hn => ?_
  · obtain ⟨t, rfl⟩ := e2 v hv
    have hm : V.ref t ∈ L.map (·.1) := by rw [e1]; exact List.mem_map.mpr ⟨_, hv, rfl⟩
    obtain ⟨p, hp, e⟩ := List.mem_map.mp hm
    obtain ⟨t', e', ht⟩ := pairs p hp
    rw [e] at e'
    cases e'
    rw [hk _ _ _ ht]
    exact ht
  · have h3 : ∀ u ∈ out, ∃ a, u = Value.ref a := fun u hu => e2 u (h2.perm.mem_iff.mp hu)
    obtain ⟨n, hn⟩ := hn
    have hb : (out.map backV).Perm (L.map (·.1)) := by
      rw [e1]
      exact h2.perm.map backV
    let L' := (out.map backV).map fun v => (v, k (match v with | .ref t => Value.ref t | _ => Value.none))
    have hL1 : L'.map (·.1) = out.map backV := by
      show ((out.map backV).map _).map _ = _
      rw [List.map_map]
      exact List.map_id' _
    have hL2 : L'.map (·.2) = out.map k := by
      show ((out.map backV).map _).map _ = _
      rw [List.map_map, List.map_map]
      refine List.map_congr_left fun u hu => ?_
      obtain ⟨a, rfl⟩ := h3 u hu
      rfl
    have hp : L'.Perm L := by
      rw [hL]
      exact hb.map _
    have hs' : (L'.map (·.2)).Pairwise (fun x y => SrtO.lexB y x = false) := by
      rw [hL2]
      exact List.pairwise_map.mpr h1
    have hq := q L' d hp hs' (I.hok.fresh hd)
    rw [hL1] at hq
    refine ⟨.ref d, upd H d (.lst (out.map backV)), I.laid (t' := s.toks) kp hd ⟨?_, out, n, vals_back h3, hn⟩, rfl, hq⟩
    rw [hb.length_eq]
    exact hz
def pairsD : List D → Option (List (Int × Int))
  | [] => some []
  | .tup [.int i, .int j] :: r => (pairsD r).map ((i, j) :: ·)
  | _ => none
def encP (p : Int × Int) : D := .tup [.int p.1, .int p.2]
def lexLe (a b : Int × Int) : Bool := !SrtO.lexB b a
def sortP (ps : List (Int × Int)) : List (Int × Int) := ps.mergeSort lexLe
def sortI (ns : List Int) : List Int := ns.mergeSort
def sortD (xs : List D) : Option D := match intsD xs with
  | some ns => some (.lst ((sortI ns).map .int))
  | none => (pairsD xs).map fun ps => .lst ((sortP ps).map encP)
def bSorted : List D → Option D
  | [.lst xs] => sortD xs
  | [.frl xs] => sortD xs
  | _ => none
theorem lexLe_iff {a b : Int × Int} : lexLe a b = true ↔ a.1 < b.1 ∨ (a.1 = b.1 ∧ a.2 ≤ b.2) := by
  unfold lexLe
  rw [Bool.not_eq_true', SrtO.lexB_no]
  omega
theorem sortP_perm (ps : List (Int × Int)) : (sortP ps).Perm ps := List.mergeSort_perm _ _
theorem sortP_sorted (ps : List (Int × Int)) : (sortP ps).Pairwise fun a b => lexLe a b = true := List.pairwise_mergeSort (fun a b c h1 h2 => by
  rw [lexLe_iff] at *; omega) (fun a b => by
  rw [Bool.or_eq_true, lexLe_iff, lexLe_iff]; omega) _
theorem sortP_uniq {ps qs : List (Int × Int)} (hp : qs.Perm ps) (hs : qs.Pairwise fun a b => lexLe a b = true) : qs = sortP ps :=
  List.Perm.eq_of_pairwise (le := fun a b => lexLe a b = true) (fun a b _ _ h1 h2 => by
    rw [lexLe_iff] at h1 h2
    ext <;> omega) hs (sortP_sorted ps) (hp.trans (sortP_perm ps).symm)
theorem sortI_perm (ns : List Int) : (sortI ns).Perm ns := List.mergeSort_perm _ _
theorem sortI_sorted (ns : List Int) : (sortI ns).Pairwise (· ≤ ·) := by
  have := List.pairwise_mergeSort (le := fun a b : Int => decide (a ≤ b)) (fun a b c h1 h2 => by simp at *; omega) (fun a b => by simp; omega) ns
  exact this.imp fun h => of_decide_eq_true h
theorem sortI_uniq {ns ms : List Int} (hp : ms.Perm ns) (hs : ms.Pairwise (· ≤ ·)) : ms = sortI ns :=
  List.Perm.eq_of_pairwise (le := (· ≤ ·)) (fun a b _ _ h1 h2 => by omega) hs (sortI_sorted ns) (hp.trans (sortI_perm ns).symm)
section
variable {K : PySem.W.Frag} {G H : Hp} {X : Cx}
theorem pairsD_of : ∀ {ds : List D} {ps : List (Int × Int)} {vs : List V}, pairsD ds = some ps → ShL K G ds vs → ∃ L : List (V × (Int × Int)), L.map (·.1) = vs ∧ L.map (·.2) = ps ∧ ∀ p ∈ L, ∃ t, p.1 = V.ref t ∧ G t = some (.tup [.int p.2.1, .int p.2.2])
  | [], ps, vs, h, e => by
    cases h
    exact ⟨[], (show vs = [] from e).symm, rfl, fun _ h => nomatch h⟩
  | d :: ds, ps, vs, h, ⟨v, r, e, q, t⟩ => by
    unfold pairsD at h
    split at h
    · rename_i heq; cases heq
    · rename_i i j r' heq
      cases heq
      obtain ⟨ms, h1, h2⟩ := Option.map_eq_some_iff.mp h
      subst h2; subst e
      obtain ⟨L, e1, e2, e3⟩ := pairsD_of h1 t
      obtain ⟨a, us, rfl, hs, hu⟩ := q
      obtain ⟨v1, v2, rfl, w1, w2⟩ := shl_two hu
      obtain rfl : v1 = .int i := w1
      obtain rfl : v2 = .int j := w2
      refine ⟨(.ref a, (i, j)) :: L, by simp [e1], by simp [e2], fun p hp => ?_⟩
      rcases List.mem_cons.mp hp with rfl | hp
      · exact ⟨a, rfl, hs⟩
      · exact e3 p hp
    · cases h
theorem shl_pairs {L : List (V × (Int × Int))} (h : ∀ p ∈ L, ∃ t, p.1 = V.ref t ∧ G t = some (.tup [.int p.2.1, .int p.2.2])) : ShL K G ((L.map (·.2)).map encP) (L.map (·.1)) := by
  induction L with
  | nil => rfl
  | cons p L ih =>
    obtain ⟨t, e, ht⟩ := h p List.mem_cons_self
    exact ⟨p.1, L.map (·.1), rfl, ⟨t, _, e, ht, .int p.2.1, [.int p.2.2], rfl, rfl, .int p.2.2, [], rfl, rfl, rfl⟩, ih fun q hq => h q (List.mem_cons_of_mem _ hq)⟩
theorem shl_ints (ns : List Int) : ShL K G (ns.map D.int) (ns.map V.int) := by
  induction ns with
  | nil => rfl
  | cons n r ih => exact ⟨.int n, r.map V.int, rfl, rfl, ih⟩
def rSortedA (K : PySem.W.Frag) : List V → Hp → VK → Prop := fun vs H Q => rSortedI K vs H Q ∨ rSortedPT K vs H Q
theorem b_sorted (hK : X.K = K := by rfl) : CallR X (.builtin "sorted") (rSortedA K) ∧ VOpL K (.own .sh) (rSortedA K) bSorted := by
  subst hK
  refine ⟨?_, ?_⟩
  · intro pins s σ H vs us Q I r h
    rcases h with h | h
    · exact cr_sortedI pins s σ H vs us Q I r h
    · exact cr_sortedPT pins s σ H vs us Q I r h
  intro G H C vs ds d Q hx s hg hq
  have main : ∀ (a : Addr) (us : List V) (xs : List D), vs = [.ref a] → SqL X.K G a us → ShL X.K G xs us → sortD xs = some d → rSortedA X.K vs H Q := by
    intro a us xs e1 e2 r hd
    unfold sortD at hd
    split at hd
    · rename_i ns hi
      cases hd
      have eu := intsD_of hi r
      subst eu
      refine .inl ⟨a, ns, e1, s.le.sqL e2, fun ns' p hp hs hn => ?_⟩
      rw [sortI_uniq hp hs]
      exact hq _ _ G _ (GLe.refl G) ⟨p, _, [], rfl, rfl, (RL.sh_iff _).mpr ⟨rfl, shl_ints _⟩⟩ (s.newO hn)
    · obtain ⟨ps, h1, h2⟩ := Option.map_eq_some_iff.mp hd
      subst h2
      obtain ⟨L, l1, l2, l3⟩ := pairsD_of h1 r
      subst l1 l2
      refine .inr ⟨a, L, e1, s.le.sqL e2, fun p hp => ?_, fun L' p hp hs hn => ?_⟩
      · obtain ⟨t, e, ht⟩ := l3 p hp
        exact ⟨t, e, s.le.sqT ht⟩
      · have e := sortP_uniq (hp.map (·.2)) (hs.imp fun h => by unfold lexLe; rw [h]; rfl)
        refine hq _ _ G _ (GLe.refl G) ⟨p, _, [], rfl, rfl, (RL.sh_iff _).mpr ⟨rfl, ?_⟩⟩ (s.newO hn)
        rw [← e]
        exact shl_pairs fun q hq => l3 q (hp.mem_iff.mp hq)
  unfold bSorted at hg
  split at hg
  · obtain ⟨v, e, a, us, e1, e2, r⟩ := shl_one hx
    subst e; subst e1
    exact main a us _ rfl (.inl (.inl e2)) r hg
  · obtain ⟨v, e, a, us, e1, e2, r⟩ := shl_one hx
    subst e; subst e1
    exact main a us _ rfl e2 r hg
  · cases hg
end
end Dl
/-! Dl, eighteenth part: x.append(e) where e looks at x. -/
namespace Dl
open PySem L2
local macro_rules | `(tactic| walk_at "fle") => `(tactic| (intro P; simp only [List.countP_append, List.countP_cons, List.countP_nil, List.append_nil, List.nil_append]; first | omega | (split <;> omega)))
def mAppV (i : Nat) (fe : Mr (List D)) : Mr D := fun ρ => match ρ[i]? with
  | some (some (.lst _)) => (match fe ρ with
    | some (.ok [d] ρ') => (match ρ'[i]? with
      | some (some (.lst ds)) => if ds.length < lim then some (.ok .non ((ρ'.set i none).set i (some (.lst (ds ++ [d]))))) else none
      | _ => none)
    | _ => none)
  | _ => none
section
variable {K : PySem.W.Frag} {X : Cx} {Γ : List Md} {Ek : WX} {i : Nat} {m c : Md} {e : PySem.Expr}
theorem snd_appV {tr : TA} {fr : Mr (List D)} (hΓ : Γ[i]? = some (.own m)) (he : SndG K Γ Ek (RA K Γ [.v m]) tr fr) : Snd K Γ Ek c (tBM K "list" rAppend (tVar i) tr) (mAppV i fr) := by
  intro σ H G C ρ Q r hg hf hq
  unfold mAppV at hf
  split at hf
  · rename_i ds9 e5
    obtain ⟨v0, m0, o0, h1, h2, r0, g0⟩ := hg.take e5
    rw [hΓ] at h2; cases h2
    refine ⟨v0, h1, foc_ty (Foc.self r0) g0.sat ds9 rfl, ?_⟩
    split at hf
    · rename_i d ρ2 e6
      split at hf
      · rename_i ds0 e7
        split at hf
        · rename_i hlim
          cases hf
          refine he σ H G C ρ _ _ hg e6 fun vs1 H2 G2 oy g2 ry good2 => ?_
          obtain ⟨d', dr, y, vr', o3, o4, z1, z2, z3, ry, z4, z5, z6⟩ := ry
          cases z1
          subst z5; subst z2; subst z6; subst z3
          obtain ⟨v1, m1, o1, h3, h4, r1, good3⟩ := good2.take e7
          rw [hΓ] at h4; cases h4
          rw [h1] at h3; cases h3
          obtain ⟨os2, sl2, s3⟩ := good3.ex
          obtain ⟨a, vs, oc, ew, ha, hl, rl, s4, upd4⟩ := (Foc.self r1).lst (C := os2.flatten ++ (o3 ++ C)) rfl (s3.re (by walk_at "fle"))
          refine ⟨a, vs, y, ew, rfl, ha, by rw [hl, ← lim_eq]; exact hlim, ?_⟩
          obtain ⟨o5, r5, s5⟩ := upd4 G2 (upd H2 a (.lst (vs ++ [y]))) (ds0 ++ [d]) (vs ++ [y]) (oc ++ (o3 ++ [])) (os2.flatten ++ C) (GLe.refl G2) (RL.append rl ⟨y, [], o3, [], rfl, rfl, ry, rfl, rfl⟩) fun rest s6 => (s6.write (u' := .lst (vs ++ [y]))).re (by walk_at "fle")
          exact hq .non _ G2 [] g2 ⟨rfl, rfl⟩ (Good.back (o := o5) ⟨os2, sl2, s5.re (by walk_at "fle")⟩ r5 h1 hΓ)
        · cases hf
      · cases hf
    · cases hf
  · cases hf
theorem de_appV (i : Nat) {x : Str} {p : Pos} {apos cpos : Pos} {tr : TA} {fr : Mr (List D)} (he : DA X K Γ Ek [.v m] [e] tr fr) (hN : X.N[i]? = some x := by rfl) (hv : Vis X.env.scope x := by first | exact Or.inl rfl | exact Or.inr (Or.inl rfl) | exact Or.inr (Or.inr rfl)) (h : Γ[i]? = some (.own m) := by rfl) (hd : (x == ("__debug__" : Str)) = false := by decide)
    (hcd : (x == ("__classdict__" : Str)) = false := by decide) (hbase : attributeBase (.Name x p) "append" X.env (eval (.Name x p) X.env) = eval (.Name x p) X.env := by rfl)
    (hfew : ((backTo cpos (starEach [e] X.env)).all (fun x => !x.1) && (backToKw cpos (keywordEach [] X.env)).all (fun x => x.1.isSome) && decide ([e].length + ([] : List Keyword).length + (if ([] : List Keyword).isEmpty then 0 else 1) < 30)) = true := by rfl)
    (hline : (apos.endLine == cpos.line) = true := by rfl) (hs : starEach [e] X.env = (false, eval e X.env) :: starEach [] X.env := by rfl) (hplain : (backTo cpos (starEach [] X.env)).any (·.1) = false := by rfl) (hK : X.K = K := by rfl) :
    DE X K Γ Ek c (.Call (.Attribute (.Name x p) "append" apos) [e] [] cpos) (tBM K "list" rAppend (tVar i) tr) (mAppV i fr) := by subst hK; exact ⟨pe_bm PySem.F.plainAttrs_list PySem.F.slot_list_append PySem.F.type_list_append mt_append (pe_var hN hv hd hcd) he.pa hbase hfew hline hs hplain, snd_appV h he.sn⟩
end
def kAppV (i : Nat) (Q : Rs D → Prop) : Rs (List D) → Prop
  | .ok [d] ρ => (match ρ[i]? with
    | some (some (.lst ds)) => ds.length < lim ∧ Q (.ok .non (ρ.set i (some (.lst (ds ++ [d])))))
    | _ => False)
  | _ => False
theorem kAppV_ok (i : Nat) (Q : Rs D → Prop) (d : D) (ρ : De) : kAppV i Q (.ok [d] ρ) = kV ρ[i]? fun x => kLst (some x) fun ds => kR (if ds.length < 16777216 then some (Rs.ok D.non (ρ.set i (some (.lst (ds ++ [d]))))) else none) Q := by
  unfold kAppV kV kLst
  dsimp only
  cases ρ[i]? with
  | none => rfl
  | some o => cases o with
    | none => rfl
    | some x =>
      cases x <;> try rfl
      rename_i ds
      dsimp only
      by_cases h : ds.length < 16777216
      · rw [if_pos h, show (ds.length < lim) = True from eq_true h, true_and]; rfl
      · rw [if_neg h, show (ds.length < lim) = False from eq_false h, false_and]; rfl
theorem wp_appV {ρ : De} (i : Nat) (fe : Mr (List D)) (Q : Rs D → Prop) : Wp (mAppV i fe) ρ Q = kV ρ[i]? fun x => kLst (some x) fun _ => Wp fe ρ (kAppV i Q) := by
  unfold Wp mAppV kV
  cases ρ[i]? with
  | none => rfl
  | some o => cases o with
    | none => rfl
    | some x =>
      cases x <;> try rfl
      dsimp only [kLst]
      cases fe ρ with
      | none => rfl
      | some r => cases r with
        | ex => rfl
        | ok as ρ' =>
          cases as with
          | nil => rfl
          | cons a as => cases as with
            | cons => rfl
            | nil =>
              show kR _ _ = kAppV i Q (.ok [a] ρ')
              unfold kAppV
              dsimp only
              cases e : ρ'[i]? with
              | none => rfl
              | some o => cases o with
                | none => rfl
                | some x =>
                  cases x <;> try rfl
                  rename_i ds
                  dsimp only
                  rw [List.set_set]
                  by_cases h : ds.length < lim
                  · rw [if_pos h]; exact propext ⟨fun q => ⟨h, q⟩, fun q => q.2⟩
                  · rw [if_neg h]; exact propext ⟨fun q => q.elim, fun q => h q.1⟩
end Dl
/-! Dl: dicts that are owned, keys tuples of ints and texts. -/
namespace Dl
open PySem L2
local macro_rules | `(tactic| walk_at "fle") => `(tactic| (intro P; simp only [List.countP_append, List.countP_cons, List.countP_nil, List.append_nil, List.nil_append]; first | omega | (split <;> omega)))
section
variable {κ : Type} [DecidableEq κ]
def kMemT (k : κ) : List κ → Bool
  | [] => false
  | a :: r => if a = k then true else kMemT k r
theorem kMem_noT {k : κ} : ∀ {r : List κ}, kMemT k r = false → k ∉ r
  | [], _, q => nomatch q
  | a :: r, h, q => by
    unfold kMemT at h
    split at h
    · cases h
    · rename_i ha
      rcases List.mem_cons.mp q with e | q
      · exact ha e.symm
      · exact kMem_noT h q
/-- the place of a key that stands once -/
def kIxT : List κ → κ → Option Nat
  | [], _ => none
  | a :: r, k => if a = k then (if kMemT k r = true then none else some 0) else (kIxT r k).map (· + 1)
theorem kIx_ltT : ∀ {ks : List κ} {k : κ} {i : Nat}, kIxT ks k = some i → i < ks.length
  | a :: r, k, i, h => by
    unfold kIxT at h
    split at h
    · split at h
      · cases h
      · cases h; simp
    · obtain ⟨j, h1, h2⟩ := Option.map_eq_some_iff.mp h
      have := kIx_ltT h1
      simp; omega
theorem kIx_valT : ∀ {ks : List κ} {vs : List V} {k : κ} {i : Nat} {v : V}, kIxT ks k = some i → vs[i]? = some v → valV (ks.zip vs) k = some v
  | a :: r, [], k, i, v, h, e => by simp at e
  | a :: r, x :: vs, k, i, v, h, e => by
    unfold kIxT at h
    split at h
    · rename_i ha
      split at h
      · cases h
      · cases h
        simp at e
        subst e
        exact valV_pos ha
    · rename_i ha
      obtain ⟨j, h1, h2⟩ := Option.map_eq_some_iff.mp h
      subst h2
      have := kIx_valT h1 (v := v) (vs := vs) (by simpa using e)
      rw [List.zip_cons_cons]
      unfold valV at this ⊢
      rw [List.find?_cons_of_neg (by simpa using ha)]
      exact this
theorem put_noT : ∀ {ks : List κ} {vs : List V} {k : κ} {v : V}, k ∉ ks → (ks.zip vs).map (fun kv => if kv.1 = k then (kv.1, v) else kv) = ks.zip vs
  | [], _, _, _, _ => by simp
  | a :: r, [], k, v, h => by simp
  | a :: r, x :: vs, k, v, h => by
    rw [List.zip_cons_cons, List.map_cons, put_noT (fun q => h (List.mem_cons_of_mem _ q)), if_neg (fun q => h (by rw [← show a = k from q]; exact List.mem_cons_self))]
theorem kIx_putT : ∀ {ks : List κ} {vs : List V} {k : κ} {i : Nat} (v : V), kIxT ks k = some i → vs.length = ks.length → putK (ks.zip vs) k v = ks.zip (vs.set i v) := by
  intro ks vs k i v h hl
  have h1 : ((ks.zip vs).any fun kv => decide (kv.1 = k)) = true := by
    have hi := kIx_ltT h
    have e := kIx_valT (vs := vs) (v := vs[i]) h (List.getElem?_eq_getElem (by omega))
    unfold valV at e
    obtain ⟨p, hp, _⟩ := Option.map_eq_some_iff.mp e
    rw [List.any_eq_true]
    exact ⟨p, List.mem_of_find?_eq_some hp, by simpa using List.find?_some hp⟩
  unfold putK
  rw [if_pos h1]
  clear h1
  induction ks generalizing vs i with
  | nil => cases h
  | cons a r ih =>
    cases vs with
    | nil => simp at hl
    | cons x vs =>
      unfold kIxT at h
      split at h
      · rename_i ha
        split at h
        · cases h
        · rename_i hn
          cases h
          rw [List.zip_cons_cons, List.map_cons, put_noT (kMem_noT (by simpa using hn)), if_pos ha]
          rfl
      · rename_i ha
        obtain ⟨j, h1, h2⟩ := Option.map_eq_some_iff.mp h
        subst h2
        rw [List.zip_cons_cons, List.map_cons, if_neg ha, ih h1 (by simpa using hl)]
        rfl
theorem put_newT {ks : List κ} {vs : List V} {k : κ} (v : V) (h : k ∉ ks) (hl : vs.length = ks.length) : putK (ks.zip vs) k v = (ks ++ [k]).zip (vs ++ [v]) := by
  unfold putK
  rw [if_neg, List.zip_append hl.symm]
  · rfl
  · intro q
    rw [List.any_eq_true] at q
    obtain ⟨p, hp, e⟩ := q
    have := (List.of_mem_zip hp).1
    have e : p.1 = k := by simpa using e
    rw [e] at this
    exact h this
theorem kMem_ofT {k : κ} : ∀ {r : List κ}, kMemT k r = true → k ∈ r
  | [], q => nomatch q
  | a :: r, h => by
    unfold kMemT at h
    split at h
    · rename_i e; rw [e]; exact List.mem_cons_self
    · exact List.mem_cons_of_mem _ (kMem_ofT h)
theorem val_noT : ∀ {ks : List κ} {vs : List V} {k : κ}, k ∉ ks → valV (ks.zip vs) k = none
  | [], vs, k, h => by simp [valV]
  | a :: r, [], k, h => by simp [valV]
  | a :: r, x :: vs, k, h => by
    have ha : ¬a = k := fun q => h (by rw [← q]; exact List.mem_cons_self)
    rw [List.zip_cons_cons, valV_neg ha]
    exact val_noT fun q => h (List.mem_cons_of_mem _ q)
end
def keysOf : List D → Option (List Key)
  | [] => some []
  | d :: ds => (keyOf d).bind fun k => (keysOf ds).map (k :: ·)
def keyT : D → Option (List Key)
  | .tup ds => keysOf ds
  | _ => none
theorem keysOf_sh {K : PySem.W.Frag} {G : Hp} : ∀ {ds : List D} {ks : List Key} {vs : List V}, keysOf ds = some ks → ShL K G ds vs → vs = ks.map L2.kV
  | [], ks, vs, h, r => by cases h; exact r
  | d :: ds, ks, vs, h, r => by
    obtain ⟨v, r', e, q, t⟩ := r
    obtain ⟨k, h1, h2⟩ := Option.bind_eq_some_iff.mp h
    obtain ⟨ks', h3, h4⟩ := Option.map_eq_some_iff.mp h2
    subst h4; subst e
    rw [List.map_cons, keyOf_sh h1 q, keysOf_sh h3 t]
theorem keyT_sh {K : PySem.W.Frag} {G : Hp} {d : D} {k : List Key} {v : V} (h : keyT d = some k) (r : Sh K G d v) : ∃ b, v = .ref b ∧ G b = some (.tup (k.map L2.kV)) := by
  cases d <;> first | (cases h; done) | skip
  obtain ⟨a, vs, e, q, t⟩ := r
  exact ⟨a, e, by rw [← keysOf_sh (show keysOf _ = some k from h) t]; exact q⟩
section
variable {K : PySem.W.Frag} {G H : Hp}
theorem Foc.stepKT {root : D} {m c : Md} {v : V} {o : Fg} {p : List Nat} {w : V} {ks : List (List Key)} {ds : List D} {k : Nat} {d : D} (h : Foc K G root m v o p w (.own c)) (hp : getP root p = some (.dT ks ds)) (hk : ds[k]? = some d) :
    ∃ a vs v', w = .ref a ∧ (a, HO.dT (ks.zip vs)) ∈ o ∧ vs.length = ks.length ∧ vs[k]? = some v' ∧ Foc K G root m v o (p ++ [k]) v' c := by
  obtain ⟨d', o', rest, h1, h2, h3, h4⟩ := h
  rw [hp] at h1; cases h1
  obtain ⟨a, vs, o1, ew, eo, hl, rl⟩ := h2
  obtain ⟨v', o2, rest2, g1, g2, g3, g4⟩ := rl.split hk
  refine ⟨a, vs, v', ew, ?_, hl, g1, d, o2, (a, .dT (ks.zip vs)) :: (rest2 ++ rest), ?_, g2, fun P => ?_, fun G2 d2 o3 g r2 => ?_⟩
  · have hle : Le o' o := fun P => by have := h3 P; omega
    exact hle.mem (by rw [eo]; exact List.mem_cons_self)
  · rw [getP_snoc, hp]; exact hk
  · have e1 := h3 P
    have e2 := g3 P
    subst eo
    simp only [List.countP_cons, List.countP_append] at e1 ⊢
    omega
  · obtain ⟨o4, r4, e4⟩ := g4 G2 d2 o3 g r2
    obtain ⟨o5, r5, e5⟩ := h4 G2 (.dT ks (ds.set k d2)) ((a, .dT (ks.zip vs)) :: o4) g ⟨a, vs, o4, ew, rfl, hl, r4⟩
    refine ⟨o5, ?_, fun P => ?_⟩
    · rw [setP_snoc p root (.dT ks ds) d d2 k hp hk]; exact r5
    · have e1 := e5 P
      have e2 := e4 P
      simp only [List.countP_cons, List.countP_append] at e1 ⊢
      omega
end
section
variable {K : PySem.W.Frag} {X : Cx} {Γ : List Md} {Ek : WX} {i : Nat} {m c rm : Md} {e a b : PySem.Expr} {t ta tb te ti : TE} {f : Mr (D × List Nat)} {fb fe : Mr D} {pos p : Pos} {io : List Nat}
def gtSubT (i : Nat) (f : Mr (D × List Nat)) (fb : Mr D) (d : D) (ρ : De) : Option De := match bnd (mPair f fb) (fun p => ret p) ρ with
  | some (.ok ((root, pth), j) ρ2) => (match keyT j, getP root pth with
    | some key, some (.dT ks ds) => (match kIxT ks key with
      | some k => if ks.length < lim then some (ρ2.set i (some (setP root pth (.dT ks (ds.set k d))))) else none
      | none => if kMemT key ks = false ∧ ks.length < lim then some (ρ2.set i (some (setP root pth (.dT (ks ++ [key]) (ds ++ [d]))))) else none)
    | _, _ => none)
  | _ => none
theorem snt_subT (h : SndG K Γ Ek0 (PR K Γ i (.own m)) ta f) (hb : Snd K Γ Ek0 .sh ti fb) : SndT K Γ io m (gSub ta ti rSetD) (gtSubT i f fb) := by
  intro G H C o σ ρ ρ' d v Q r good e hq
  unfold gtSubT at e
  split at e
  · rename_i root pth j ρ2 e1
    have hb2 := SndG.pair h hb PR.mono
    have e5 : mPair f fb ρ = some (.ok ((root, pth), j) ρ2) := by
      rcases bnd_inv e1 with ⟨x, ρ3, a1, a2⟩ | ⟨x, ρ3, a1, a2⟩
      · cases a2; exact a1
      · cases a2
    split at e
    · rename_i key ks ds ek e2
      refine hb2 σ H G (o ++ C) ρ (fun p H2 => rSetD p.1 p.2 v H2 fun H3 => Q σ H3) _ good e5 fun b H' G' o' g rel good' => ?_
      obtain ⟨o1, o2, eo, ⟨vr, mr, h1, h2, h3, foc⟩, r2⟩ := rel
      obtain ⟨z2, q2⟩ := (R.sh_iff _).mp r2
      subst z2; subst eo
      obtain ⟨kb, q2, hkb⟩ := keyT_sh ek q2
      obtain ⟨d', od, rest, f1, f2, f3, f4⟩ := id foc
      have f1' : getP root pth = some d' := f1
      rw [e2] at f1'; cases f1'
      obtain ⟨a, vs, oc, ew, eo, hl, rl⟩ := f2
      obtain ⟨osC, slC, s⟩ := good'.ex
      have s1 : Sat H' G' ((a, .dT (ks.zip vs)) :: (oc ++ (rest ++ (osC.flatten ++ (o ++ C))))) := s.re fun P => by
        have := f3 P
        subst eo
        simp only [List.countP_append, List.countP_cons, List.countP_nil, List.append_nil] at this ⊢
        omega
      have hlz : (ks.zip vs).length = ks.length := by rw [List.length_zip, hl]; omega
      split at e
      · rename_i k e3
        split at e
        · rename_i hlim
          cases e
          refine ⟨a, _, ew, by rw [q2]; exact DPut.t s1.own (s1.le _ _ hkb) (by rw [hlz, ← lim_eq]; exact hlim), ?_⟩
          rw [kIx_putT v e3 hl]
          obtain ⟨oc2, rl2, le2⟩ := rl.setAt k (R.mono g d r)
          obtain ⟨o3, r3, c3⟩ := f4 G' (.dT ks (ds.set k d)) ((a, .dT (ks.zip (vs.set k v))) :: oc2) (GLe.refl G') ⟨a, vs.set k v, oc2, ew, rfl, by rw [List.length_set]; exact hl, rl2⟩
          refine hq σ _ G' g (Fix.refl σ) (Good.back (o := o3) ⟨osC, slC, (s1.write (u' := .dT (ks.zip (vs.set k v)))).re fun P => ?_⟩ r3 h1 h2)
          have x1 := c3 P
          have x2 := le2 P
          simp only [List.countP_append, List.countP_cons] at x1 x2 ⊢
          omega
        · cases e
      · split at e
        · rename_i hlim
          cases e
          refine ⟨a, _, ew, by rw [q2]; exact DPut.t s1.own (s1.le _ _ hkb) (by rw [hlz, ← lim_eq]; exact hlim.2), ?_⟩
          rw [put_newT v (kMem_noT hlim.1) hl]
          have rl2 : RL K G' (ds ++ [d]) m (vs ++ [v]) (oc ++ (o ++ [])) := RL.append rl ⟨v, [], o, [], rfl, rfl, R.mono g d r, rfl, rfl⟩
          obtain ⟨o3, r3, c3⟩ := f4 G' (.dT (ks ++ [key]) (ds ++ [d])) ((a, .dT ((ks ++ [key]).zip (vs ++ [v]))) :: (oc ++ (o ++ []))) (GLe.refl G') ⟨a, vs ++ [v], _, ew, rfl, by simp [hl], rl2⟩
          refine hq σ _ G' g (Fix.refl σ) (Good.back (o := o3) ⟨osC, slC, (s1.write (u' := .dT ((ks ++ [key]).zip (vs ++ [v])))).re fun P => ?_⟩ r3 h1 h2)
          have x1 := c3 P
          simp only [List.countP_append, List.countP_cons, List.countP_nil, List.append_nil] at x1 ⊢
          omega
        · cases e
    · cases e
  · cases e
theorem dg_keyT (hu : X.A.units + 1 < cLine) (h : DP X K Γ Ek0 i (.own m) a ta f) (hb : DE X K Γ Ek0 .sh b ti fb)
    (ha : ∀ v, assign (.Subscript a b pos) X.env v = (do
      let ov ← holding [v] (eval a X.env)
      let iv ← holding [v, ov] (eval b X.env)
      standAt pos
      holding [v, ov, iv] (setItem ov iv v)
      release [v, ov, iv] []) := by intro _; rfl) : DG X K Γ io m (.Subscript a b pos) (gSub ta ti rSetD) (gtSubT i f fb) := ⟨pg_sub h.pe hb.pe (set_dict hu) ha, snt_subT h.sn hb.sn⟩
theorem de_newT : DE X K Γ Ek (.own c) (.Dict [] [] pos) tDNewT (ret (.dT [] [])) := ⟨pe_dnewT, by
  intro σ H G C ρ Q r hg hf hq l hl
  cases hf
  obtain ⟨os, sl, s⟩ := hg.ex
  exact hq _ _ G [(l, .dT [])] (GLe.refl G) ⟨l, [], [], rfl, rfl, rfl, rfl, rfl⟩ ⟨os, sl, (s.newO hl).re (by walk_at "fle")⟩⟩
/-! ### x.get(k, v) -/
def getT (rp : D × List Nat) (j x : D) : Option D := match keyT j, getP rp.1 rp.2 with
  | some key, some (.dT ks ds) => (match kIxT ks key with
    | some k => (ds[k]?).map unsh
    | none => if kMemT key ks = false then some x else none)
  | _, _ => none
def mDGet (i : Nat) (f : Mr (D × List Nat)) (fb fx : Mr D) : Mr D := fun ρ0 => match f ρ0 with
  | some (.ok rp ρ) => (match mPair fb fx ρ with
    | some (.ok q ρ') => (match getT rp q.1 q.2 with
      | some d => some (.ok d (ρ'.set i (some rp.1)))
      | none => none)
    | _ => none)
  | _ => none
theorem snd_dget2 {ty tx : TE} {fx : Mr D} (h : SndG K Γ Ek (PR K Γ i (.own .sh)) ta f) (hb : Snd K Γ Ek .sh ty fb) (hx : Snd K Γ Ek .sh tx fx) : Snd K Γ Ek .sh (tDGet2 ta ty tx) (mDGet i f fb fx) := by
  intro σ H G C ρ Q r hg hf hq
  unfold mDGet at hf
  split at hf
  · rename_i rp0 ρ1 e4
    obtain ⟨root, pth⟩ := rp0
    have e2 := hf
    clear hf
    dsimp only at e2
    split at e2
    · rename_i q ρ2 e5
      obtain ⟨j, x⟩ := q
      split at e2
      · rename_i d e7
        cases e2
        unfold getT at e7
        split at e7
        · rename_i key ks ds ek eg
          refine h σ H G C ρ _ _ hg e4 fun w H1 G1 o1 g1 rel good1 => ?_
          obtain ⟨vr, mr, h1, h2, h3, foc⟩ := rel
          obtain ⟨d', od, rest, f1, f2, f3, f4⟩ := id foc
          have f1' : getP root pth = some d' := f1
          rw [eg] at f1'; cases f1'
          obtain ⟨a, vs, oc, ew, eo, hl, rl⟩ := f2
          have hm : ∀ {x : Addr × HO}, x ∈ od → x ∈ o1 := fun {x} hx => (show Le od o1 from fun P => by have := f3 P; omega).mem hx
          have hin : (a, HO.dT (ks.zip vs)) ∈ o1 := hm (by rw [eo]; exact List.mem_cons_self)
          have s1 := good1.sat
          have ha : H1 a = some (.dT (ks.zip vs)) := (s1.at_ (a, .dT (ks.zip vs)) (List.mem_append_left _ (by simpa using hin))).1
          refine ⟨a, ew, .inr ⟨_, .inl ha⟩, ?_⟩
          refine SndG.pair hb hx RE.mono σ H1 G1 (o1 ++ C) ρ1 (fun p H3 => ∃ o, DGet H3 a p.1 o ∧ Q (o.getD p.2) H3) _ good1 e5 fun b H2 G2 o2 g2 rel2 good2 => ?_
          obtain ⟨o3, o4, eo2, r3, r4⟩ := rel2
          obtain ⟨z3, q3⟩ := (R.sh_iff _).mp r3
          obtain ⟨z4, q4⟩ := (R.sh_iff _).mp r4
          subst z3; subst z4; subst eo2
          obtain ⟨kb, hkb1, hkb⟩ := keyT_sh ek q3
          have s2 := good2.sat
          have ha2 : H2 a = some (.dT (ks.zip vs)) := (s2.at_ (a, .dT (ks.zip vs)) (List.mem_append_right _ (List.mem_append_left _ hin))).1
          have back := Good.back (C := C) (o := o1) (good2.re (C' := o1 ++ C) (fun P => by simp)) (R.mono g2 _ h3) h1 h2
          refine ⟨_, by rw [hkb1]; exact DGet.t ha2 (s2.le _ _ hkb), ?_⟩
          split at e7
          · rename_i k e8
            obtain ⟨dk, e9, e10⟩ := Option.map_eq_some_iff.mp e7
            obtain ⟨z5, r5⟩ := (RL.sh_iff _).mp rl
            obtain ⟨v', hv, rv⟩ := r5.get e9
            rw [kIx_valT e8 hv]
            subst e10
            exact hq v' H2 G2 [] (g1.trans g2) (R.of_sh (Sh.unsh (Sh.mono g2 _ rv))) back
          · split at e7
            · rename_i hkm
              cases e7
              rw [val_noT (kMem_noT hkm)]
              exact hq _ H2 G2 [] (g1.trans g2) (R.of_sh q4) back
            · cases e7
        · cases e7
      · cases e2
    · cases e2
  · cases hf
theorem de_dget2 {ex : PySem.Expr} {tx : TE} {fx : Mr D} {apos cpos : Pos} (hu : X.A.units + 1 < cLine) (h : DP X K Γ Ek i (.own .sh) a ta f) (hb : DE X K Γ Ek .sh b tb fb) (hx : DE X K Γ Ek .sh ex tx fx) (m : M2 X a "get" apos b ex cpos := by exact ⟨rfl, rfl, rfl, rfl⟩) : DE X K Γ Ek .sh (.Call (.Attribute a "get" apos) [b, ex] [] cpos) (tDGet2 ta tb tx) (mDGet i f fb fx) := ⟨pe_dget2 hu h.pe hb.pe hx.pe m, snd_dget2 h.sn hb.sn hx.sn⟩
theorem de_gi {x : Str} (v : Int) (hm : ∃ t, X.mg x = some (.int v t)) (hg : Gl X x := by rfl) (hd : (x == ("__debug__" : Str)) = false := by decide) : DE X K Γ Ek m (.Name x p) (tC (.int v)) (ret (.int v)) := by
  obtain ⟨t, e⟩ := hm
  exact de_gint e ⟨t, rfl⟩ hg hd
end
end Dl
/-! Dl: a shared thing in a slot of another mode; sum of an owned list; what holds behind get, store, += . -/
namespace Dl
open PySem L2
/-- a shared thing, whatever the mode of the slot -/
def gtShd (i : Nat) (d : D) (ρ : De) : Option De := some (ρ.set i (some (.shd d)))
section
variable {K : PySem.W.Frag} {X : Cx} {Γ : List Md} {Ek : WX} {i : Nat} {m c rm : Md} {e a b : PySem.Expr} {to : TE} {f : Mr (D × List Nat)} {pos p : Pos} {io : List Nat}
theorem snt_shd {i : Nat} {m' : Md} (h : Γ[i]? = some m') (hi : i ∉ io) : SndT K Γ io .sh (gName i) (gtShd i) := fun G H C o σ ρ ρ' d v Q r good e hq => by
  cases e
  obtain ⟨z, q⟩ := (R.sh_iff _).mp r
  subst z
  exact hq _ H G (GLe.refl G) (Fix.set hi) (good.put (o := []) (d := .shd d) (m := m') ⟨rfl, q⟩ h)
theorem dg_shd (i : Nat) {x : Str} {m' : Md} (nd : X.N.Nodup) (hi : X.N[i]? = some x := by rfl) (hx : Loc X.env.scope x := by first | exact Or.inl rfl | exact Or.inr rfl) (h : Γ[i]? = some m' := by rfl) (hio : i ∉ io := by decide)
    (hf : X.fn x = true ∨ X.env.scope.names.lookup x = some .local := by first | exact .inl rfl | exact .inr rfl) : DG X K Γ io .sh (.Name x p) (gName i) (gtShd i) := ⟨pg_name nd hi hx hf, snt_shd h hio⟩
theorem intsD_rl {G : Hp} : ∀ {ds : List D} {ns : List Int} {vs : List V} {o : Fg}, intsD ds = some ns → RL K G ds m vs o → vs = ns.map V.int
  | [], _, _, _, h, e => by cases h; exact e.1
  | d :: ds, ns, vs, o, h, ⟨v, r, o1, o2, e, eo, q, t⟩ => by
    cases d <;> first | (cases h; done) | skip
    rename_i i
    obtain ⟨ms, h1, h2⟩ := Option.map_eq_some_iff.mp h
    subst h2; subst e
    rw [intsD_rl h1 t, show v = .int i from q.2]; rfl
def mSumO (i : Nat) (f : Mr (D × List Nat)) : Mr D := bnd f fun rp ρ => match getP rp.1 rp.2 with
  | some (.lst ds) => (match intsD ds with
    | some ns => some (.ok (.int ns.sum) (ρ.set i (some rp.1)))
    | none => none)
  | _ => none
theorem snd_sumO {r : List V → Hp → VK → Prop} (h : SndG K Γ Ek (PR K Γ i (.own m)) to f) (hr : ∀ a H Q (ns : List Int), SqL K H a (ns.map V.int) → Q (.int ns.sum) H → r [.ref a] H Q) : Snd K Γ Ek c (tCB r (tCons to tNil)) (mSumO i f) := by
  intro σ H G C ρ Q r' hg hf hq
  rcases bnd_inv hf with ⟨⟨root, pth⟩, ρ1, e4, e2⟩ | ⟨x, ρ1, e4, e2⟩
  · refine h σ H G C ρ _ _ hg e4 fun w H1 G1 o1 g1 rel good1 => ?_
    obtain ⟨vr, mr, h1, h2, h3, foc⟩ := rel
    have s := good1.sat
    dsimp only at e2 h3 foc
    split at e2
    · rename_i ds e5
      split at e2
      · rename_i ns e6
        cases e2
        obtain ⟨a, vs, oc, ew, ha, hl, rl, _⟩ := foc.lst e5 s
        subst ew
        have := intsD_rl e6 rl
        subst this
        exact hr a H1 Q ns (.inl (.inl ha)) (hq (.int _) H1 G1 [] g1 ⟨rfl, rfl⟩ (Good.back good1 h3 h1 h2))
      · cases e2
    · cases e2
  · subst e2
    exact h σ H G C ρ _ _ hg e4 fun c dx H' G' g xr good => hq c dx H' G' g xr good
theorem de_sumP {p : Pos} (hm : X.mg "sum" = none) (h : DP X K Γ Ek i (.own m) a to f) (hc : X.calm = true := by rfl) (hg : Gl X "sum" := by rfl) (hv : bootBuiltins "sum" = some (.builtin "sum") := by first | rfl | decide +kernel) (he : starEach [a] X.env = (false, eval a X.env) :: starEach [] X.env := by rfl) (hpl : (backTo pos (starEach [] X.env)).any (·.1) = false := by rfl) (hK : X.K = K := by rfl) :
    DE X K Γ Ek c (.Call (.Name "sum" p) [a] [] pos) (tCB (rSum K) (tCons to tNil)) (mSumO i f) := by subst hK; exact ⟨pe_callB (cr_sum hc) hg hm hv (pa_cons h.pe pa_nil he) (by decide) (by decide) he hpl, snd_sumO h.sn fun a H Q ns hl q => ⟨a, ns, rfl, hl, q⟩⟩
end
/-- a module's constant tuple -/
def CtuAt (K : PySem.W.Frag) (mg : Str → Option Value) (x : Str) (a : Addr) (vs : List V) : Prop := ∃ (o : Obj) (its : Array Value) (n : Nat), mg x = some (.ref a) ∧ K.lookup a = some o ∧ o.cls = .type "tuple" ∧ o.data = .seq its n ∧ its.size ≤ sizeLine ∧ Vals vs its.toList
section
variable {K : PySem.W.Frag} {X : Cx} {Γ : List Md} {Ek : WX} {p : Pos}
theorem de_gtu {x : Str} {a : Addr} {vs : List V} (ds : List D) (hm : CtuAt K X.mg x a vs) (hv : ∀ G, ShL K G ds vs) (hg : Gl X x := by rfl) (hd : (x == ("__debug__" : Str)) = false := by decide) : DE X K Γ Ek .sh (.Name x p) (tC (.ref a)) (ret (.ctu ds)) := by
  obtain ⟨o, its, n, e1, e2, e3, e4, e5, e6⟩ := hm
  exact de_gdat (v := .ref a) e1 rfl (fun G => ⟨a, vs, rfl, .inr ⟨o, its, n, e2, e3, e4, e5, e6⟩, hv G⟩) hg hd
theorem sh_ints {G : Hp} : ∀ is : List Int, ShL K G (is.map .int) (is.map .int)
  | [] => rfl
  | i :: is => ⟨.int i, is.map .int, rfl, rfl, sh_ints is⟩
end
theorem shc_int (i : Int) : shc (.int i) = .int i := rfl
theorem unsh_ctu (ds : List D) : unsh (.ctu ds) = .ctu ds := rfl
theorem isShd_ctu (ds : List D) : isShd (.ctu ds) = false := rfl
section
variable {ρ : De}
def kX {α : Type} (Q : Rs α → Prop) : Rs α → Prop
  | .ok a ρ => Q (.ok a ρ)
  | .ex _ _ => False
theorem kX_ok {α : Type} (Q : Rs α → Prop) (a : α) (ρ : De) : kX Q (.ok a ρ) = Q (.ok a ρ) := propext Iff.rfl
theorem wp_sumO (i : Nat) (f : Mr (D × List Nat)) (Q : Rs D → Prop) : Wp (mSumO i f) ρ Q = Wp f ρ (kL (fun rp ρ => match getP rp.1 rp.2 with
  | some (.lst ds) => (match intsD ds with
    | some ns => some (.ok (.int ns.sum) (ρ.set i (some rp.1)))
    | none => none)
  | _ => none) Q) := wp_bndL _ _ _
def mDGetK (i : Nat) (rp : D × List Nat) (j x : D) : Mr D := fun ρ => match getT rp j x with
  | some d => some (.ok d (ρ.set i (some rp.1)))
  | none => none
theorem wp_dget (i : Nat) (f : Mr (D × List Nat)) (fb fx : Mr D) (Q : Rs D → Prop) : Wp (mDGet i f fb fx) ρ Q = Wp f ρ (kB (fun rp => bnd fb fun j => bnd fx fun x => mDGetK i rp j x) (kX Q)) := by
  rw [← wp_bnd]
  unfold mDGet Wp mPair bnd
  dsimp only
  cases f ρ with
  | none => rfl
  | some r => cases r with
    | ex => rfl
    | ok rp ρ1 =>
      dsimp only
      cases fb ρ1 with
      | none => rfl
      | some r => cases r with
        | ex => rfl
        | ok j ρ2 =>
          dsimp only
          cases fx ρ2 with
          | none => rfl
          | some r => cases r with
            | ex => rfl
            | ok x ρ3 =>
              dsimp only [ret, mDGetK]
              cases getT rp j x <;> rfl
theorem wp_dgetK {i : Nat} {rp : D × List Nat} {j x d : D} (h : getT rp j x = some d) (Q : Rs D → Prop) : Wp (mDGetK i rp j x) ρ Q = Q (.ok d (ρ.set i (some rp.1))) := by
  unfold Wp mDGetK
  rw [h]
  exact propext Iff.rfl
def mSubTK (i : Nat) (d : D) (rp : D × List Nat) (j : D) : Mr Unit := fun ρ2 => match keyT j, getP rp.1 rp.2 with
    | some key, some (.dT ks ds) => (match kIxT ks key with
      | some k => if ks.length < lim then some (.ok () (ρ2.set i (some (setP rp.1 rp.2 (.dT ks (ds.set k d)))))) else none
      | none => if kMemT key ks = false ∧ ks.length < lim then some (.ok () (ρ2.set i (some (setP rp.1 rp.2 (.dT (ks ++ [key]) (ds ++ [d])))))) else none)
    | _, _ => none
theorem kG_subT (i : Nat) (f : Mr (D × List Nat)) (fb : Mr D) (d : D) (P : De → Prop) : kG (gtSubT i f fb d ρ) P = Wp f ρ (kB (fun rp => bnd fb fun j => mSubTK i d rp j) (kU P)) := by
  rw [← wp_bnd]
  unfold gtSubT Wp mPair bnd
  cases f ρ with
  | none => rfl
  | some r => cases r with
    | ex => rfl
    | ok rp ρ1 =>
      obtain ⟨root, pth⟩ := rp
      dsimp only
      cases fb ρ1 with
      | none => rfl
      | some r => cases r with
        | ex => rfl
        | ok j ρ2 =>
          dsimp only [ret, mSubTK]
          cases keyT j with
          | none => rfl
          | some key =>
            cases getP root pth with
            | none => rfl
            | some e =>
              cases e <;> try rfl
              rename_i ks ds
              dsimp only
              cases kIxT ks key <;> dsimp only <;> split <;> rfl
theorem wp_augS_ok {i : Nat} {g : Int → Int → Int} {f : Mr (D × List Nat)} {fb fe : Mr D} {root : D} {pth : List Nat} {ρ1 ρ2 ρ3 : De} {j x y : Int} {ds : List D} {k : Nat} {Q : Rs Fl → Prop}
    (h1 : f ρ = some (.ok (root, pth) ρ1)) (h2 : fb ρ1 = some (.ok (.int j) ρ2)) (h3 : getP root pth = some (.lst ds)) (h4 : ixN ds.length j = some k) (h5 : ds[k]? = some (.int x)) (h6 : fe ρ2 = some (.ok (.int y) ρ3))
    (hq : Q (.ok .nx (ρ3.set i (some (setP root pth (.lst (ds.set k (.int (g x y))))))))) : Wp (mAugS i g f fb fe) ρ Q := by
  unfold Wp mAugS mPair bnd
  simp only [h1, h2, ret]
  simp only [h3, h4, h5, h6]
  exact hq
end
end Dl
/-! DlW: the program's own exceptions: a class over a base over ValueError, both with super().__init__(..); the heap's side. -/
namespace DlX
open PySem PySem.W PySem.Calls PyProof.Rows
abbrev scB : Scope := { kind := .function, names := [("self", .local), ("at", .local), ("name", .local), ("__class__", .free), ("super", .globalImplicit)], isGenerator := false, isCoroutine := false, more := [] }
abbrev scS : Scope := { kind := .function, names := [("self", .local), ("at", .local), ("__class__", .free), ("super", .globalImplicit)], isGenerator := false, isCoroutine := false, more := [] }
/-- super().__init__(es) -/
abbrev sup (p0 p1 p2 p3 p4 : Pos) (es : List Expr) : Stmt := .Expr (.Call (.Attribute (.Call (.Name "super" p0) [] [] p1) "__init__" p2) es [] p3) p4
abbrev stA (f g : Str) (p0 p1 p2 p3 : Pos) : Stmt := .Assign [.Attribute (.Name "self" p0) f p1] (.Name g p2) p3

/-- what holds of the globals -/
structure Wd (P : Program) (K : PySem.W.Frag) (h : Heap) : Prop where
  kin : K.In h
  glob : ∃ mg, h.Ns mainGlobals mg ∧ mg "super" = none
  blt : ∃ mb, h.Ns builtinsNs mb ∧ mb "super" = some (.type "super")
  lim : h.NoLimit
theorem Wd.keeps {P : Program} {K : PySem.W.Frag} {h h' : Heap} (x : Wd P K h) (k : ∀ b o, h.get? b = some o → h'.get? b = some o) : Wd P K h' := by
  obtain ⟨mg, g1, g2⟩ := x.glob
  obtain ⟨mb, b1, b2⟩ := x.blt
  exact ⟨x.kin.keeps k, ⟨mg, g1.keeps k, g2⟩, ⟨mb, b1.keeps k, b2⟩, x.lim.keeps k⟩
section
variable {P : Program} {w : World} {K : PySem.W.Frag} {A : Around} {E : Value → Shared → Prop} {h : Heap} {g : Array GenState} {d : Drawn} {t : Nat} {os : OsState}
/-- a def's frame: what is written of a def that closes over its class -/
structure Clo (P : Program) (K : PySem.W.Frag) (f : Addr) (fd : FuncData) (q : Str) (scope : Scope) (L : Addr) (env : Env) (cc D : Addr) : Prop where
  fn : ∃ oc od osl, K.lookup f = some ⟨oc, od, .func fd, osl⟩
  head : ∃ ar, (fd.params.posonlyargs ++ fd.params.args).head? = some ar ∧ ar.arg = "self"
  code : ∃ cda ccl cdd vs ccs file tf, env = ksEnv q scope L f (.ref cda) cc ∧ K.lookup cda = some ⟨ccl, cdd, .fields vs, ccs⟩ ∧ vs[2]? = some (.str file tf) ∧ ((P.main.file : Str) == file) = true
  cell : ∃ cl cld csl, K.lookup cc = some ⟨cl, cld, .cell (some (.ref D)), csl⟩
  top : (P.main.scope.names.lookup ("super" : Str)).isSome = false
/-- super(), in a def that closes over its class D, of an object of class C -/
theorem sup_node {body : List Stmt} {q : Str} {scope : Scope} {fd : FuncData} {f cc D L x C : Addr} {env : Env} {whole : Sem Value} {p0 p1 : Pos} {m : Str → Option Value} {ox : Obj} {odx : Option Obj} {cdD : ClassData} {Q : Value → Shared → Prop}
    (W : Wd P K h) (F : Clo P K f fd q scope L env cc D) (hn : h.Ns L m) (hv : m "self" = some (.ref x)) (I : InstAt h x ox C odx) (hD : clsIn K D = some cdD) (hsub : mroIn K C (.ref D) = some true)
    (hks : scope.names.lookup ("super" : Str) = some .globalImplicit) (hkc : scope.names.lookup ("__class__" : Str) = some .free) (hka : scope.names.lookup ("self" : Str) = some .local) (hk : scope.kind = .function)
    (hq : ∀ h', h'.get? h.objs.size = some (ks_superObj D x C) → (∀ b o, h.get? b = some o → h'.get? b = some o) → Q (.ref h.objs.size) ⟨h', g, d, t, os⟩) :
    _root_.PySem.wpAt (model P w) A (.func body env) (attributeBase (.Call (.Name "super" p0) [] [] p1) "__init__" env whole) Q E ⟨h, g, d, t, os⟩ := by
  obtain ⟨oc, od, osl, hf⟩ := F.fn
  obtain ⟨ar, hp, ha⟩ := F.head
  obtain ⟨cda, ccl, cdd, vs, ccs, file, tf, rfl, hcode, hvs, hfile⟩ := F.code
  obtain ⟨cl, cld, csl, hcell⟩ := F.cell
  have X := W.kin
  obtain ⟨mg, g1, g2⟩ := W.glob
  obtain ⟨mb, b1, b2⟩ := W.blt
  obtain ⟨oD, hD1, hD2⟩ : ∃ oD, h.get? D = some oD ∧ oD.data = .cls cdD := by
    unfold clsIn at hD
    split at hD
    · rename_i c d cd' sl ho
      cases hD
      exact ⟨_, X _ _ ho, rfl⟩
    · cases hD
  refine ks_wpAt_super_base (env := ksEnv q scope L f (.ref cda) cc) hks hkc (by decide) rfl (X _ _ hf) rfl hp rfl (X _ _ hcode) rfl hvs hfile F.top ?_
  refine ks_loadName_global hk hks (loadGlobal_builtin (env := ksEnv q scope L f (.ref cda) cc) g1 g2 b1 b2 ⟨rfl, ?_⟩)
  refine wpAny_loadName_free hk hkc rfl ⟨_, X _ _ hcell, rfl⟩ ?_
  rw [ha]
  refine wpAny_loadName_local hk hka hn hv ?_
  refine ks_wpAny_isType_cls hD1 hD2 ⟨rfl, ?_⟩
  refine ks_wpAny_call_super hD1 hD2 I.at_ I.cls (fun c e => ?_) (looks_mroIn X hsub) (fun h' e k => ?_)
  · have := I.no
    unfold notCls at this
    rw [e] at this
    exact Bool.noConfusion this
  · exact hq h' e k
theorem ns_at {h h' : Heap} {L e : Addr} {m : Str → Option Value} (hn : h.Ns L m) (hLe : L ≠ e) (k : ∀ b o, b ≠ e → h.get? b = some o → h'.get? b = some o) : h'.Ns L m := by
  obtain ⟨oL, es, ep, hL, r⟩ := hn
  exact ⟨oL, es, ep, k _ _ hLe hL, r⟩
/-- the base's __init__ -/
abbrev bodB (p0 p1 p2 p3 p4 p5 q0 q1 q2 q3 r0 r1 r2 r3 : Pos) : List Stmt := [sup p0 p1 p2 p3 p4 [.Name "at" p5], stA "at" "at" q0 q1 q2 q3, stA "name" "name" r0 r1 r2 r3]
theorem cw1 {M : Model} {s : Shared} {i : String} {u x : Addr} {pos : Pos} {env : Env} {e : Expr} {rest : List Expr} {Q : Value → Shared → Prop}
    (h : wpAny M A (spliced (backTo pos (starEach (e :: rest) env))) (fun vs s₁ => KxsAt i u x s₁.heap ∧ wpAny M A (call (.ref u) vs) Q E s₁) E s)
    (he : starEach (e :: rest) env = (false, eval e env) :: starEach rest env := by rfl) (hplain : (backTo pos (starEach rest env)).any (·.1) = false := by rfl) :
    wpAny M A (callWith pos (.ref u) [] (backTo pos (starEach (e :: rest) env)) []) Q E s := by
  rw [he] at h ⊢
  refine kxs_callWith (i := i) (x := x) (by show (false || (backTo pos (starEach rest env)).any (·.1)) = false; rw [hplain]; rfl) ?_
  exact evalArgs_plain h
/-- ValueError.__init__, bound, called -/
theorem mw_call {e C t0 ur : Addr} {rest : List Value} {Q : Value → Shared → Prop} (T : L2.OexC K C) (X : K.In h) (he : h.get? e = some (HandSPX.excO C t0)) (hu : h.get? ur = some (kxs_mw "ValueError.__init__" e)) (hz : rest.length ≤ sizeLine)
    (hq : ∀ h' t1, (∀ b o, b ≠ e → h.get? b = some o → h'.get? b = some o) → h'.get? e = some (HandSPX.excO C t1) → Q .none ⟨h', g, d, t, os⟩) : wpAny (model P w) A (call (.ref ur) rest) Q E ⟨h, g, d, t, os⟩ := by
  obtain ⟨nm, q, N, bs, bm, sn, sub, ab, col, dd, k0, k1, k2, k3, k5, hC, hbm⟩ := T.cls
  refine wpAny_call (codeAny_of_tree ?_)
  show wpAny _ A.in1 (callAny (.ref ur) ⟨rest, []⟩) _ _ _
  simp only [callAny]
  refine wpAny_bind (wpAny_load hu ?_)
  simp only [kxs_mw, show (Value.type "method-wrapper" == Value.type "method" || Value.type "method-wrapper" == Value.type "builtin_function_or_method" || Value.type "method-wrapper" == Value.type "method-wrapper") = true by decide, if_true]
  refine KFB.if_so (by decide) ?_
  refine wpAny_bind (check_bound_init F.excBase_ValueError.toExcCallFacts (X _ _ hC) he rfl ?_)
  refine wpAny_bind (wpAny_pure (wpAny_pure ?_))
  refine ⟨plainId_quiet F.excBase_ValueError.init.plain _, codeAny_builtin F.excBase_ValueError.initEntry ?_⟩
  exact exc_init_tree (cls := .ref C) (t0 := t0) (dv := none) (c2 := .none) (c3 := .none) (b4 := .bool false) he hz fun h' k e' _ => hq h' _ k e'
/-- a method's call on one line -/
def McOk (o : Expr) (name : Str) (apos pos : Pos) (args : List Expr) : Prop := ∀ env : Env, ∃ pl : Sem Bool, eval (.Call (.Attribute o name apos) args [] pos) env = (do
      let ov ← attributeBase o name env (eval o env)
      standAt apos.atName
      let (f, first) ← holding [ov] (getMethod ov name pl)
      callWith pos f first (backTo pos (starEach args env)) [])
abbrev sup0 (p0 p1 : Pos) : Expr := .Call (.Name "super" p0) [] [] p1
theorem base_code {hb : Heap} {q : Str} {fd : FuncData} {f cc D L e C t0 : Addr} {env : Env} {m : Str → Option Value} {u nm : Value} {cdD : ClassData} {Q : Flow → Shared → Prop} {p0 p1 p2 p3 p4 p5 q0 q1 q2 q3 r0 r1 r2 r3 : Pos}
    (W : Wd P K hb) (k0 : ∀ b o, hb.get? b = some o → h.get? b = some o) (en : hb.get? e = none) (he : h.get? e = some (HandSPX.excO C t0)) (hn : h.Ns L m) (hLe : L ≠ e)
    (hs : m "self" = some (.ref e)) (ha : m "at" = some u) (hnm : m "name" = some nm) (F : Clo P K f fd q scB L env cc D) (T : L2.OexC K C) (hD : clsIn K D = some cdD) (hsub : mroIn K C (.ref D) = some true)
    (hop : nsIn K cStatics "thirdparty.any" = some none) (hsup : ks_superIn K C D "__init__" = some (some (.builtin "ValueError.__init__"))) (hB : subIn K (.ref C) (.type "ValueError") = some true)
    (fa : findIn K (.ref C) "at" = some none) (fn : findIn K (.ref C) "name" = some none) (hmc : McOk (sup0 p0 p1) "__init__" p2 p3 [.Name "at" p5])
    (hq : ∀ h2 dx t1 t2, (∀ b o, b ≠ e → h.get? b = some o → h2.get? b = some o) → h.objs.size ≤ dx → dx ≠ e → h2.get? e = some { cls := .ref C, dict := some dx, data := .fields #[.ref t1, .none, .none, .none, .bool false, .none] } →
      h2.Ns1 dx (fun y => if y = "name" then some nm else if y = "at" then some u else none) → Q .next ⟨h2, g, d, t2, os⟩) :
    _root_.PySem.wpAt (model P w) A (.func (bodB p0 p1 p2 p3 p4 p5 q0 q1 q2 q3 r0 r1 r2 r3) env) (execs (bodB p0 p1 p2 p3 p4 p5 q0 q1 q2 q3 r0 r1 r2 r3) env) Q E ⟨h, g, d, t, os⟩ := by
  have I : InstAt h e (HandSPX.excO C t0) C none := ⟨he, rfl, rfl, trivial⟩
  have W1 : Wd P K h := W.keeps k0
  obtain ⟨cda, ccl, cdd, vs, ccs, file, tf, rfl, hcode, hvs, hfile⟩ := F.code
  obtain ⟨pl, hmc⟩ := hmc (ksEnv q scB L f (.ref cda) cc)
  refine ks_wpAt_execs_cons (ks_wpAt_Expr_any (ks_wpAt_MethodCall (pl := pl) ?_ hmc))
  refine sup_node W1 F hn hs I hD hsub rfl rfl rfl rfl fun h1 hso k1 => ?_
  have W2 : Wd P K h1 := W1.keeps k1
  have he1 := k1 _ _ he
  have I1 : InstAt h1 e (HandSPX.excO C t0) C none := ⟨he1, rfl, rfl, trivial⟩
  cases hc : clsIn K C with
  | none => unfold ks_superIn at hsup; rw [hc] at hsup; cases hsup
  | some cd =>
    unfold ks_superIn at hsup
    rw [hc] at hsup
    refine kxs_getMethod (i := "ValueError.__init__") (B := "ValueError") kxs_ValueError hso (looks_opaque W2.kin hop) (l₀ := cd.mro) (fun A Q E s k q => wpAny_bind ((looks_clsIn W2.kin hc) A _ E s k (wpAny_pure q))) rfl W2.kin hsup (I1.type.andThen (looks_subIn W2.kin hB)) (ks_ne W2.kin I1 hc) (by decide) ?_
    refine cw1 (i := "ValueError.__init__") (x := e) ?_
    have k2 : ∀ b o, h1.get? b = some o → (h1.push (kxs_mw "ValueError.__init__" e)).get? b = some o := fun b o z => Heap.get?_push_of_some _ z
    have hn2 : (h1.push (kxs_mw "ValueError.__init__" e)).Ns L m := (hn.keeps k1).keeps k2
    have hmw : (h1.push (kxs_mw "ValueError.__init__" e)).get? h1.objs.size = some (kxs_mw "ValueError.__init__" e) := Heap.get?_push_at rfl rfl
    have W3 := W2.keeps k2
    have he2 := k2 _ _ he1
    have sz2 : h1.objs.size ≤ (h1.push (kxs_mw "ValueError.__init__" e)).objs.size := by simp [Heap.push]
    generalize h1.push (kxs_mw "ValueError.__init__" e) = h2 at *
    refine spliced_more (ESX.ldL hn2 ha (spliced_none ⟨hmw, ?_⟩))
    refine mw_call T W3.kin he2 hmw (by simp [sizeLine]) fun h3 t1 k3 he3 => ?_
    have hn3 : h3.Ns L m := ns_at hn2 hLe k3
    have X3 : K.In h3 := (W.kin.keeps fun b o z => k3 b o (fun y => by rw [y, en] at z; cases z) (k2 _ _ (k1 _ _ (k0 _ _ z))))
    refine ks_wpAt_execs_cons (ks_wpAt_Assign_Attr (wpAt_of_wpAny (ESX.ldL hn3 ha (ESX.ldL hn3 hs ?_))))
    obtain ⟨nm', q', N, bs, bm, sn, sub, ab, col, dd, c0, c1, c2, c3, c5, hC, hbm⟩ := T.cls
    have hcl : clsIn K C = some { name := nm', bases := bs, mro := .ref C :: bm, ns := N, qualname := q', hasDict := true, slotNames := sn, subclasses := sub, abstract := ab, collection := col, hasDel := false } := by unfold clsIn; rw [hC] <;> rfl
    refine set_plain X3 (ox := HandSPX.excO C t1) (od := none) ⟨he3, rfl, rfl, trivial⟩ T.sa ?_
    refine HandSPX.exc_osa X3 he3 hcl (show HandSPX.refsVE (.ref C :: bm) = true from hbm) rfl fa (fun h4 t4 dx k4 dn dne hx4 hd4 => ?_)
    have hn4 : h4.Ns L m := ns_at hn3 hLe k4
    have X4 : K.In h4 := (W.kin.keeps fun b o z => k4 b o (fun y => by rw [y, en] at z; cases z) (k3 b o (fun y => by rw [y, en] at z; cases z) (k2 _ _ (k1 _ _ (k0 _ _ z)))))
    refine ks_wpAt_execs_cons (ks_wpAt_Assign_Attr (wpAt_of_wpAny (ESX.ldL hn4 hnm (ESX.ldL hn4 hs ?_))))
    obtain ⟨oD, _, _, hoD, _, _⟩ := hd4.count (Within.cons "at" u Within.nil)
    refine set_plain X4 (ox := { cls := .ref C, dict := some dx, data := .fields #[.ref t1, .none, .none, .none, .bool false, .none] }) (od := some oD) ⟨hx4, rfl, rfl, hoD⟩ T.sa ?_
    refine OEX.osa_old X4 hx4 hd4 (Within.cons "at" u Within.nil) (by simp) hcl (show HandSPX.refsVE (.ref C :: bm) = true from hbm) rfl fn (fun h5 t5 k5 hd5 => ?_)
    have l1 : h.objs.size < h1.objs.size := Heap.lt_size hso
    have le : e < h1.objs.size := Heap.lt_size he1
    have l3 : h1.objs.size < h3.objs.size := Heap.lt_size (k3 _ _ (Nat.ne_of_gt le) hmw)
    show _root_.PySem.wpAt _ _ _ (execs [] (ksEnv q scB L f (.ref cda) cc)) _ _ _
    refine wpAt_of_wpAny (wpAny_pure (hq h5 dx t1 t5 (fun b o hbe z => ?_) (Nat.le_of_lt (Nat.lt_of_lt_of_le (Nat.lt_trans l1 l3) dn)) dne ?_ hd5))
    · have z3 := k3 b o hbe (k2 _ _ (k1 _ _ z))
      have := Heap.lt_size z3
      exact k5 b o (Nat.ne_of_lt (Nat.lt_of_lt_of_le this dn)) (k4 b o hbe z3)
    · exact k5 _ _ (Ne.symm dne) hx4
/-- a class's __init__ that says its own name -/
abbrev bodS (NM : Str) (kk : Nat) (p0 p1 p2 p3 p4 p5 p6 : Pos) : List Stmt := [sup p0 p1 p2 p3 p4 [.Name "at" p5, .Constant (.str NM) kk p6]]
/-- what is written of both classes -/
structure Pg (P : Program) (K : PySem.W.Frag) (C : Addr) (NM : Str) : Prop where
  T : L2.OexC K C
  op : nsIn K cStatics "thirdparty.any" = some none
  /-- the class's own __init__ -/
  own : ∃ fI fd q kk p0 p1 p2 p3 p4 p5 p6, findIn K (.ref C) "__init__" = some (some (.ref fI)) ∧ typeIn K (.ref fI) = some (.type "function") ∧ fd.body = .stmts (bodS NM kk p0 p1 p2 p3 p4 p5 p6) ∧ fd.scope = scS ∧ fd.qualname = q ∧
    (∀ L, ∃ cc, Clo P K fI fd q scS L (callEnv fd L fI) cc C) ∧ codeIn K fd.code fd.qualname = true ∧ McOk (sup0 p0 p1) "__init__" p2 p3 [.Name "at" p5, .Constant (.str NM) kk p6] ∧
    ∀ s a u, BindsTo s fd ⟨[a, u], []⟩ [("self", a), ("at", u)]
  /-- the base's -/
  base : ∃ D cdD fB fd q p0 p1 p2 p3 p4 p5 q0 q1 q2 q3 r0 r1 r2 r3, clsIn K D = some cdD ∧ mroIn K C (.ref D) = some true ∧ ks_superIn K C C "__init__" = some (some (.ref fB)) ∧ typeIn K (.ref fB) = some (.type "function") ∧
    ks_superIn K C D "__init__" = some (some (.builtin "ValueError.__init__")) ∧ fd.body = .stmts (bodB p0 p1 p2 p3 p4 p5 q0 q1 q2 q3 r0 r1 r2 r3) ∧ fd.scope = scB ∧ fd.qualname = q ∧
    (∀ L, ∃ cc, Clo P K fB fd q scB L (callEnv fd L fB) cc D) ∧ codeIn K fd.code fd.qualname = true ∧ fnIn K fB = true ∧ McOk (sup0 p0 p1) "__init__" p2 p3 [.Name "at" p5] ∧
    ∀ (s : Shared) a u n, K.In s.heap → BindsTo s fd ⟨[a, u, n], []⟩ [("self", a), ("at", u), ("name", n)]
  cd : ∃ cd, clsIn K C = some cd
  me : mroIn K C (.ref C) = some true
  isV : subIn K (.ref C) (.type "ValueError") = some true
  fa : findIn K (.ref C) "at" = some none
  fn : findIn K (.ref C) "name" = some none
theorem pg_make {C : Addr} {NM : Str} {u : Value} {Q : Value → Shared → Prop} (G : Pg P K C NM) (W : Wd P K h) (hd : A.depth + 4 < recursionLimit)
    (hq : ∀ h2 e dx t1 t2 tk, (∀ b o, h.get? b = some o → h2.get? b = some o) → h.objs.size ≤ e → h.objs.size ≤ dx → dx ≠ e → h2.get? e = some { cls := .ref C, dict := some dx, data := .fields #[.ref t1, .none, .none, .none, .bool false, .none] } →
      h2.Ns1 dx (fun y => if y = "name" then some (.str NM tk) else if y = "at" then some u else none) → Q (.ref e) ⟨h2, g, d, t2, os⟩) : wpAny (model P w) A (call (.ref C) [u]) Q E ⟨h, g, d, t, os⟩ := by
  obtain ⟨fI, fd, q, kk, p0, p1, p2, p3, p4, p5, p6, iC, tI, hbody, hsc, hqn, hclo, hcode, hmc, hbind⟩ := G.own
  obtain ⟨nm, qq, N, bs, bm, sn, sub, ab, col, dd, k0, k1, k2, k3, k5, hC, hbm⟩ := G.T.cls
  obtain ⟨cd, hcd⟩ := G.cd
  refine wpAny_call (HandSPX.call_own F.excBase_ValueError (fun Y => HandSPX.refsVE_contains Y bm hbm) (W.kin _ _ hC) (looks_findIn W.kin iC) (fun self => bind_fn W.kin self tI) (by simp [sizeLine]) ?_)
  have kk0 : ∀ b o, h.get? b = some o → ((h.push (kdv_tup [u])).push (HandSPX.excO C h.objs.size)).get? b = some o := fun b o z => Heap.get?_push_of_some _ (Heap.get?_push_of_some _ z)
  have he0 : ((h.push (kdv_tup [u])).push (HandSPX.excO C h.objs.size)).get? (h.objs.size + 1) = some (HandSPX.excO C h.objs.size) := by heap_get
  have en : h.get? (h.objs.size + 1) = none := by
    cases z : h.get? (h.objs.size + 1) with
    | none => rfl
    | some o => exact absurd (Heap.lt_size z) (Nat.not_lt.mpr (Nat.le_succ _))
  have sz0 : h.objs.size + 1 < ((h.push (kdv_tup [u])).push (HandSPX.excO C h.objs.size)).objs.size := Heap.lt_size he0
  generalize (h.push (kdv_tup [u])).push (HandSPX.excO C h.objs.size) = h0 at *
  have W0 : Wd P K h0 := W.keeps kk0
  obtain ⟨cc, hcl⟩ := hclo h0.objs.size
  obtain ⟨oc, od, osl, hfn⟩ := hcl.fn
  refine ks_codeAny_call_defAt (fd := fd) (body := bodS NM kk p0 p1 p2 p3 p4 p5 p6) (binds := [("self", .ref (h.objs.size + 1)), ("at", u)]) ?_ (W0.kin _ _ hfn) rfl W0.lim (codeRec_of W0.kin hcode) hbody (hbind _ _ _) ?_ ?_ (fun h1 hns hk1 => ?_) ?_ ?_ ?_
  · rw [L2.make_depth]; omega
  · rw [hsc]; decide
  · rw [hsc]
    intro y hy
    simp only [List.mem_cons, List.not_mem_nil, or_false] at hy
    rcases hy with rfl | rfl <;> rfl
  · have hns1 := hns
    obtain ⟨cda, ccl, cdd, vs, ccs, file, tf, henv, hcode1, hvs, hfile⟩ := hcl.code
    have hk : ∀ b o, h.get? b = some o → h1.get? b = some o := fun b o z => hk1 b o (kk0 b o z)
    have W1 : Wd P K h1 := W.keeps hk
    have he1 := hk1 _ _ he0
    have I : InstAt h1 (h.objs.size + 1) (HandSPX.excO C h.objs.size) C none := ⟨he1, rfl, rfl, trivial⟩
    rw [henv] at hcl ⊢
    generalize h0.objs.size = L at *
    obtain ⟨pl, hmc⟩ := hmc (ksEnv q scS L fI (.ref cda) cc)
    refine ks_wpAt_execs_cons (ks_wpAt_Expr_any (ks_wpAt_MethodCall (pl := pl) ?_ hmc))
    refine sup_node W1 hcl hns rfl I hcd G.me rfl rfl rfl rfl fun h2 hso k2 => ?_
    obtain ⟨D, cdD, fB, fdB, qB, a0, a1, a2, a3, a4, a5, q0, q1, q2, q3, r0, r1, r2, r3, hD, hsub, hsB, tB, hsV, hbB, hscB, hqB, hcloB, hcodeB, hfnB, hmcB, hbindB⟩ := G.base
    have W2 : Wd P K h2 := W1.keeps k2
    have he2 := k2 _ _ he1
    have I2 : InstAt h2 (h.objs.size + 1) (HandSPX.excO C h.objs.size) C none := ⟨he2, rfl, rfl, trivial⟩
    obtain ⟨ccB, hclB⟩ := hcloB 0
    obtain ⟨ocB, odB, oslB, hfB⟩ := hclB.fn
    have hsB' := hsB
    unfold ks_superIn at hsB'
    rw [hcd] at hsB'
    have hfc : (⟨ocB, odB, .func fdB, oslB⟩ : Obj).cls = .type "function" := by
      have tB' : (K.lookup fB).map (·.cls) = some (.type "function") := tB
      rw [hfB] at tB'
      exact Option.some.inj tB'
    refine ks_wpAny_getMethod_super hso (looks_opaque W2.kin G.op) (l₀ := cd.mro) (fun A Q E s k q => wpAny_bind ((looks_clsIn W2.kin hcd) A _ E s k (wpAny_pure q))) rfl W2.kin hsB' (W2.kin _ _ hfB) hfc (ks_ne W2.kin I2 hcd) (by decide) ?_
    have k3 : ∀ b o, h2.get? b = some o → (h2.push { cls := .type "method", data := .fields #[.ref fB, .ref (h.objs.size + 1)] }).get? b = some o := fun b o z => Heap.get?_push_of_some _ z
    have hmo : (h2.push { cls := .type "method", data := .fields #[.ref fB, .ref (h.objs.size + 1)] }).get? h2.objs.size = some (methodObj (.ref fB) (.ref (h.objs.size + 1))) := Heap.get?_push_at rfl rfl
    generalize h2.push { cls := .type "method", data := .fields #[.ref fB, .ref (h.objs.size + 1)] } = h3 at *
    have hk3 : ∀ b o, h.get? b = some o → h3.get? b = some o := fun b o z => k3 b o (k2 b o (hk b o z))
    have W3 : Wd P K h3 := W.keeps hk3
    refine callWith_of (by rfl) (keeps_M (K := K) (q := h2.objs.size) (self := .ref (h.objs.size + 1)) hfnB) (evalArgs_plain ?_)
    have hn3 : h3.Ns L (fun x => [(("self" : Str), Value.ref (h.objs.size + 1)), ("at", u)].reverse.lookup x) := (hns.keeps k2).keeps k3
    refine Calls.spliced_cons (ESX.ldL (x := "at") (pos := p5) hn3 rfl (Calls.spliced_cons (Calls.Constant_str (x := NM) (k := kk) (pos := p6) (env := ksEnv q scS L fI (.ref cda) cc) (Calls.spliced_nil ⟨⟨hmo, W3.kin⟩, ?_⟩))))
    refine wpAny_call (ks_codeAny_call_bound (f := fB) (x := .ref (h.objs.size + 1)) hmo ?_)
    obtain ⟨ccB', hclB'⟩ := hcloB h3.objs.size
    obtain ⟨ocB', odB', oslB', hfB'⟩ := hclB'.fn
    refine ks_codeAny_call_defAt (fd := fdB) (body := bodB a0 a1 a2 a3 a4 a5 q0 q1 q2 q3 r0 r1 r2 r3) (binds := [("self", .ref (h.objs.size + 1)), ("at", u), ("name", _)]) ?_ (W3.kin _ _ hfB') rfl W3.lim (codeRec_of W3.kin hcodeB) hbB (hbindB _ _ _ _ W3.kin) ?_ ?_ (fun h4 hns4 hk4 => ?_) ?_ ?_ ?_
    · show (A.under _).depth + 1 < recursionLimit
      rw [L2.make_depth]; omega
    · rw [hscB]; decide
    · rw [hscB]
      intro y hy
      simp only [List.mem_cons, List.not_mem_nil, or_false] at hy
      rcases hy with rfl | rfl | rfl <;> rfl
    · have he4 := hk4 _ _ (k3 _ _ he2)
      have hLe : h3.objs.size ≠ h.objs.size + 1 := Nat.ne_of_gt (Heap.lt_size (k3 _ _ he2))
      refine base_code W (fun b o z => hk4 b o (hk3 b o z)) en he4 hns4 hLe rfl rfl rfl hclB' G.T hD hsub G.op hsV G.isV G.fa G.fn hmcB fun h5 dx t1 t2 k5 ld dne hx hd5 => ?_
      show _root_.PySem.wpAt _ _ _ (execs [] (ksEnv q scS L fI (.ref cda) cc)) _ _ _
      refine wpAt_of_wpAny (wpAny_pure ⟨rfl, ?_⟩)
      have lt4 : ∀ b o, h3.get? b = some o → b < h4.objs.size := fun b o z => Heap.lt_size (hk4 b o z)
      refine hq h5 (h.objs.size + 1) dx t1 t2 _ (fun b o z => ?_) (Nat.le_succ _) ?_ dne hx hd5
      · exact k5 b o (fun y => by rw [y, en] at z; cases z) (hk4 b o (hk3 b o z))
      · exact Nat.le_trans (Nat.le_succ _) (Nat.le_trans (Nat.le_of_lt (lt4 _ _ (k3 _ _ he2))) ld)
    · rw [hscB]
    · rw [hscB]
    · rw [hscB]
  · rw [hsc]
  · rw [hsc]
  · rw [hsc]
end
end DlX
/-! DlX: exceptions in the layer: raise, calls that let one out, defs that do, try. -/
namespace Dl
open PySem L2 DlX
local macro_rules | `(tactic| walk_at "fle") => `(tactic| (intro P; simp only [List.countP_append, List.countP_cons, List.countP_nil, List.append_nil, List.nil_append]; first | omega | (split <;> omega)))
/-- C(e): the exception's dict -/
def tMkG (C : Addr) (NM : Str) (ta : TA) : St → Hp → XK → Prop := fun σ H Q => ta σ H fun vs H1 => ∃ v, vs = [v] ∧ ∀ d, H1 d = none → Q (.ref C) (some d) (upd H1 d (.xd [("name", .str NM), ("at", v)]))
section
variable {X : Cx} {e : PySem.Expr} {es : List PySem.Expr} {ta : TA} {x : Str} {C : Addr} {NM : Str} {p pos : Pos} {k : Nat}
theorem wd_of {pins : List (Addr × Obj)} {σ : St} {H : Hp} {s : Shared} (I : Inv X pins σ H s) (hs : X.mg "super" = none) : Wd X.prog X.K s.heap := by
  obtain ⟨mb, b1, b2⟩ := I.ok.mod.blt
  exact ⟨I.kIn, ⟨X.mg, I.ok.mod.glob.keeps I.bk, hs⟩, ⟨mb, b1.keeps I.bk, (b2 "super" (by decide)).trans (by rfl)⟩, I.nolimit⟩
theorem pmk_pg (G : Pg X.prog X.K C NM) (hr : Room k X.A) (hs : X.mg "super" = none) (hg : Gl X x) (hm : X.mg x = some (.ref C)) (ha : PA X (e :: es) ta)
    (hdb : (x == ("__debug__" : Str)) = false := by decide) (he : starEach (e :: es) X.env = (false, eval e X.env) :: starEach es X.env := by rfl) (hpl : (backTo pos (starEach es X.env)).any (·.1) = false := by rfl) :
    PMk X (.Call (.Name x p) (e :: es) [] pos) (tMkG C NM ta) := by
  intro pins s σ H Q I h
  refine wpAny_Call_Name_kw (ld_glob I hg hm ?_ hdb)
  refine PySem.W.callWith_K (h₀ := X.base) I.ok.mod.kin G.T.kC (thn (ha.run pos pins s σ H _ I h) fun us s1 ⟨vs, H1, I1, r1, v, hv, q1⟩ => ⟨I1.kIn, ?_⟩) he hpl
  subst hv
  obtain ⟨u, rfl, ru⟩ : ∃ u, us = [u] ∧ RelV v u := by
    cases r1 with
    | cons ra rr => cases rr with
      | nil => exact ⟨_, rfl, ra⟩
  show wpAny _ _ (call (.ref C) [u]) _ _ _
  obtain ⟨hp, g, dr, tk, os⟩ := s1
  refine pg_make G (wd_of I1 hs) (by have := hr.dp; omega) fun h2 a dx t1 t2 tk' k2 la ld dne hx hns => ?_
  obtain ⟨Gh, g1', g2'⟩ := restrict h2 fun b => decide (b ≠ a)
  have gk : ∀ b, b ≠ a → Gh.get? b = h2.get? b := fun b hb => g1' b (decide_eq_true hb)
  have ge : Gh.get? a = none := g2' a (by simp)
  have nha : ∀ {b : Addr} {o : Obj}, hp.get? b = some o → b ≠ a := fun {b o} z => Nat.ne_of_lt (Nat.lt_of_lt_of_le (Heap.lt_size z) la)
  have hkG : ∀ b o, hp.get? b = some o → Gh.get? b = some o := fun b o z => (gk b (nha z)).trans (k2 b o z)
  have hnG : Gh.Ns1 dx (fun y => if y = "name" then some (.str NM tk') else if y = "at" then some u else none) := hns.at fun o q => (gk dx dne).trans q
  have hd : H1 dx = none := I1.hok.fresh ld
  have hok : ObjOk X.prog X.w (upd H1 dx (.xd [("name", .str NM), ("at", v)])) Gh dx (.xd [("name", .str NM), ("at", v)]) := ⟨_, hnG, fun f => by
    rw [lookup_put]
    by_cases h1 : f = "name"
    · rw [if_pos h1, if_pos h1]; exact ⟨tk', rfl⟩
    · rw [if_neg h1, if_neg h1, lookup_put]
      by_cases h2 : f = "at"
      · rw [if_pos h2, if_pos h2]; exact ru
      · rw [if_neg h2, if_neg h2]; trivial⟩
  have J : Inv X pins σ (upd H1 dx (.xd [("name", .str NM), ("at", v)])) ⟨Gh, g, dr, t2, os⟩ := I1.laid (t' := t2) hkG ld hok
  refine ⟨a, _, _, ⟨Gh, g, dr, t2, os⟩, _, .ref C, some dx, rfl, J, fun b o z => ?_, ge, hx, ⟨rfl, rfl⟩, rfl, rfl, ?_, rfl, I1.bare, raises_own G.T.exC G.T.tyC, q1 dx hd⟩
  · by_cases hba : b = a
    · rw [hba, ge] at z; cases z
    · exact (gk b hba).symm.trans z
  · rw [upd_ne (Ne.symm dne)]; exact I1.hok.fresh la
end
section
variable {X : Cx} {K : PySem.W.Frag} {Γ : List Md} {Ek : WX} {rm : Md} {io : List Nat} {e : PySem.Expr} {es : List PySem.Expr} {tr : TA} {fr : Mr (List D)} {x NM : Str} {C : Addr} {p pos pos' : Pos} {k : Nat}
/-- raise C(e) -/
def mRaise (c NM : Str) (fr : Mr (List D)) : Mr Fl := bnd fr fun ds ρ => match ds with
  | [d] => some (.ex ⟨c, true, ["name", "at"], [.str NM, d]⟩ ρ)
  | _ => none
theorem ds_raise (G : Pg X.prog K C NM) (tk : Takes X Ek) (hr : Room k X.A) (hs : X.mg "super" = none) (hn : PySem.W.nsIn K mainGlobals x = some (some (.ref C))) (ha : DA X K Γ Ek [.v .sh] (e :: es) tr fr) (hc : X.calm = true := by rfl) (hm : X.mg x = some (.ref C) := by assumption)
    (hg : Gl X x := by rfl) (hdb : (x == ("__debug__" : Str)) = false := by decide) (he : starEach (e :: es) X.env = (false, eval e X.env) :: starEach es X.env := by rfl) (hpl : (backTo pos (starEach es X.env)).any (·.1) = false := by rfl) (hK : X.K = K := by rfl) :
    DS X K Γ Ek rm io (.Raise (some (.Call (.Name x p) (e :: es) [] pos)) none pos') (fun _ σ H => tMkG C NM tr σ H fun cls d H' => Ek cls d σ H') (mRaise x NM fr) := by
  subst hK
  refine ⟨ps_raise hc tk (pmk_pg G hr hs hg hm ha.pa hdb he hpl), fun σ H Gh Cf ρ E r good hf hq => ?_⟩
  unfold mRaise at hf
  cases e1 : fr ρ with
  | none => rw [bnd_none e1] at hf; cases hf
  | some r1 =>
    refine ha.sn σ H Gh Cf ρ _ r1 good e1 ?_
    cases r1 with
    | ok ds ρ1 =>
      rw [bnd_ok e1] at hf
      intro vs H1 G1 o g1 rel good1
      obtain ⟨d, dr, v, vr, o1, o2, e2, e3, e4, rd, e5, e6, e7⟩ := rel
      subst e5; subst e6; subst e7; subst e2; subst e3
      cases hf
      refine ⟨v, rfl, fun q hq' => ?_⟩
      obtain ⟨zo, sd⟩ := (R.sh_iff d).mp rd
      subst zo
      subst e4
      obtain ⟨os, sl, sat⟩ := good1.ex
      obtain ⟨s', g'⟩ := sat.newG (u := .xd [("name", .str NM), ("at", v)]) hq'
      refine hq _ _ σ _ _ (g1.trans g') (Fix.refl σ) ⟨⟨C, rfl, hn⟩, (fun h => nomatch h), fun _ => ⟨q, [.str NM, v], rfl, upd_same, rfl, .str NM, [v], rfl, rfl, v, [], rfl, Sh.mono g' d sd, rfl⟩⟩ ⟨os, sl.mono g', s'⟩
    | ex x' ρ1 =>
      rw [bnd_ex e1] at hf
      cases hf
      exact fun c dx H' G' g xr good' => hq c dx σ H' G' g (Fix.refl σ) xr good'
end
section
variable {X : Cx} {k : Nat} {f : Addr} {fd : FuncData} {ps : List Str} {sp : Sp} {ds : List Value} {x : Str} {W : WX} {e : PySem.Expr} {es : List PySem.Expr} {t : TA} {p pos : Pos}
theorem run_fnW {pins : List (Addr × Obj)} {σ : St} {H : Hp} {s : Shared} {Q : VK} {us : List Value} {vs : List V} (F : FnOk X.prog X.w X.K X.mg X.base (L2.CX X.prog X.w) k f fd ps sp) (hr : Room k X.A) (hb : Binds X.K fd ps []) (tk : Takes X W)
    (I : Inv X pins σ H s) (r : Vals vs us) (h : sp (vs ++ []) H Q fun c d H' => W c d σ H') : wpAny (model X.prog X.w) X.A (call (.ref f) us) (EP X pins σ Q) X.xe s := by
  have r2 : Vals (vs ++ []) (us ++ []) := r.append .nil
  have hl : (us ++ []).length = ps.length := by rw [← r2.length]; exact F.len _ _ _ _ h
  refine wpAny_call (codeAny_mono (F.run X.A X.stack s H ⟨us, []⟩ (us ++ []) (vs ++ []) Q _ hr I.env0 (hb s us I.kIn hl) r2 h) fun r s' hq => ?_)
  cases r with
  | error e => exact tk e s' (XE.of_call I (fun cls d H' h => h) hq)
  | ok fl =>
    cases fl with
    | ret u => exact I.after hq
    | next => exact False.elim hq
    | brk => exact False.elim hq
    | cont => exact False.elim hq
theorem pe_callW (F : FnOk X.prog X.w X.K X.mg X.base (L2.CX X.prog X.w) k f fd ps sp) (hr : Room k X.A) (hg : Gl X x) (hm : X.mg x = some (.ref f)) (hk : PySem.W.keepIn X.K (.ref f) = true) (hb : Binds X.K fd ps []) (tk : Takes X W)
    (ha : PA X (e :: es) t) (hdb : (x == ("__debug__" : Str)) = false := by decide) (he : starEach (e :: es) X.env = (false, eval e X.env) :: starEach es X.env := by rfl) (hpl : (backTo pos (starEach es X.env)).any (·.1) = false := by rfl) :
    PE X (.Call (.Name x p) (e :: es) [] pos) (tCallW sp W t) := by
  refine ⟨fun pins s σ H Q I h => ?_⟩
  refine wpAny_Call_Name_kw (ld_glob I hg hm ?_ hdb)
  refine PySem.W.callWith_K (h₀ := X.base) I.ok.mod.kin hk (thn (ha.run pos pins s σ H _ I h) fun us s1 ⟨vs, H1, I1, r, q⟩ => ⟨I1.kIn, ?_⟩) he hpl
  exact run_fnW F hr hb tk I1 r q
end
section
variable {X : Cx} {K : PySem.W.Frag} {Γ : List Md} {Ek : WX} {k j : Nat} {x : Str} {ms : List Md} {rm : Md} {F : List D → Option (Rs D)} {ks : List AK} {e : PySem.Expr} {es : List PySem.Expr} {tr : TA} {fr : Mr (List D)} {p pos : Pos}
theorem de_callX (tk : Takes X Ek) (c : Cl X.prog X.w K X.mg X.base (L2.CX X.prog X.w) k x ms rm F) (hr : Room j X.A) (ha : DA X K Γ Ek ks (e :: es) tr fr) (hk : k ≤ j := by omega) (hks : ks.map (akM Γ) = ms.map some := by rfl) (hg : Gl X x := by rfl)
    (hdb : (x == ("__debug__" : Str)) = false := by decide) (he : starEach (e :: es) X.env = (false, eval e X.env) :: starEach es X.env := by rfl) (hpl : (backTo pos (starEach es X.env)).any (·.1) = false := by rfl) (hK : X.K = K := by rfl) :
    DE X K Γ Ek rm (.Call (.Name x p) (e :: es) [] pos) (tCallW (spD K ms rm F) Ek tr) (mClX ks F fr) := by
  subst hK
  obtain ⟨f, fd, ps, a, hm, kp, b⟩ := c.ex
  exact ⟨pe_callW a (hr.mono hk) hg hm kp b tk ha.pa hdb he hpl, snd_call ha.sn hks⟩
end
section
variable {X : Cx} {K : PySem.W.Frag} {Γ : List Md} {Ek : WX} {k j : Nat} {x : Str} {ms : List Md} {rm : Md} {F : List D → Option (Rs D)} {ks : List AK} {e : PySem.Expr} {es : List PySem.Expr} {tr : TA} {fr : Mr (List D)} {p pos : Pos}
/-- a call of a def that may raise, where it does not -/
theorem de_callN (c : Cl X.prog X.w K X.mg X.base (L2.CX X.prog X.w) k x ms rm F) (hr : Room j X.A) (ha : DA X K Γ Ek ks (e :: es) tr fr) (hk : k ≤ j := by omega) (hks : ks.map (akM Γ) = ms.map some := by rfl) (hg : Gl X x := by rfl)
    (hdb : (x == ("__debug__" : Str)) = false := by decide) (he : starEach (e :: es) X.env = (false, eval e X.env) :: starEach es X.env := by rfl) (hpl : (backTo pos (starEach es X.env)).any (·.1) = false := by rfl) (hK : X.K = K := by rfl) :
    DE X K Γ Ek rm (.Call (.Name x p) (e :: es) [] pos) (tCall (spD K ms rm F) [] E0 tr) (mCl0 ks F fr) := by
  subst hK
  obtain ⟨f, fd, ps, a, hm, kp, b⟩ := c.ex
  exact ⟨pe_call a (hr.mono hk) hg hm kp b .nil passL ha.pa hdb he hpl, snd_call0 ha.sn hks⟩
end
section
variable {P : Program} {w : World} {K : PySem.W.Frag} {mg : Str → Option Value} {base : Heap}
/-- a def that may let an exception out keeps its promise -/
theorem fn_okX {x qual : Str} {st : Stmt} {f : Addr} {fd : FuncData} {N ps : List Str} {k : Nat} {Γ : List Md} {rm : Md} {io : List Nat} {ms : List Md} {fb : Mr Fl} (F : Fun K x qual st f fd) (S : FnScope N ps (defScope st)) (hΓ : Γ.length = N.length) (hp : ps.length = ms.length) (hm : Γ.take ms.length = ms)
    (hbody : ∀ (cdv : Value) (A : Around) (outer : List Env) (s : Shared) (H : Hp) (E : XK), Room k (A.deeper (PyProof.Rows.envOfC qual (defScope st) s.heap.objs.size f cdv)) →
      Takes (cxOf (L2.CX P w) P w K mg base N qual (defScope st) f cdv A outer s H E) (fun c d _ H => E c d H) → PassesOwn (model P w) (cxOf (L2.CX P w) P w K mg base N qual (defScope st) f cdv A outer s H E).A (cxOf (L2.CX P w) P w K mg base N qual (defScope st) f cdv A outer s H E).env (cxOf (L2.CX P w) P w K mg base N qual (defScope st) f cdv A outer s H E).xe →
      ∃ t, DSs (cxOf (L2.CX P w) P w K mg base N qual (defScope st) f cdv A outer s H E) K Γ (fun c d _ H => E c d H) rm io (defBody st) t fb) : FnOk P w K mg base (L2.CX P w) (k + 1) f fd ps (spD K ms rm (bodyF N.length io fb)) := by
  refine F.okX S (fun vs H Q E h => ?_) (fun cdv A outer s H vs Q E hr h => ?_)
  · obtain ⟨G, C, ds, r, hl, _⟩ := h
    rw [hl, hp]
  · obtain ⟨G, C, ds, r, hl, good, hF, hr'⟩ := h
    obtain ⟨t, b⟩ := hbody cdv A outer s H E hr (takes_of rfl rfl rfl rfl) (passes_of rfl)
    have ld : ds.length = ms.length := by
      have := good.lenσ
      simp only [List.length_map] at this
      omega
    have hn : ms.length ≤ N.length := by
      have := congrArg List.length hm
      rw [List.length_take] at this; omega
    refine ⟨t, b.ps, ?_⟩
    unfold bodyF at hF
    cases e : fb (ds.map some ++ List.replicate (N.length - ds.length) none) with
    | none => rw [e] at hF; cases hF
    | some r1 =>
      rw [e] at hF
      refine b.sn (start N vs) H G C _ _ r1 (good.extend hΓ hm hl) e ?_
      cases r1 with
      | ok fl ρ1 =>
        cases fl with
        | nx =>
          cases hF
          exact fun σ' H' G' g fx good' => hr' .non H' G' [] g ⟨rfl, rfl⟩ (by rw [ld]; exact good'.restrict fx hm hl hn hΓ)
        | rt d =>
          cases hF
          exact fun v σ' H' G' o g fx r good' => hr' v H' G' o g r (by rw [ld]; exact good'.restrict fx hm hl hn hΓ)
        | bk => cases hF
        | ct => cases hF
      | ex x ρ1 =>
        cases hF
        exact fun c dx σ' H' G' g fx xr good' => hr' c dx H' G' g xr (by rw [ld]; exact good'.restrict fx hm hl hn hΓ)
end
/-! ### try: .. except x as n: return .. -/
/-- what the clause returns of e.at -/
def atOf (x : XD) : Option D := if x.own = true ∧ x.ns = (["name", "at"] : List Str) then (match x.xs with
  | [_, d] => some d
  | _ => none) else none
def mTry (c : Str) (fb : Mr Fl) (g : D → D) : Mr Fl := fun ρ => match fb ρ with
  | some (.ex x ρ') => if x.cls = c then (atOf x).map fun d => .ok (.rt (g d)) ρ' else none
  | r => r
/-- the caught class -/
structure Ct (K : PySem.W.Frag) (C : Addr) (x : Str) : Prop where
  nm : PySem.W.nsIn K mainGlobals x = some (some (.ref C))
  xf : XfC K C
  ex : PySem.W.exmOne K (.ref C) (.ref C) = some true
  fa : PySem.W.findIn K (.ref C) "at" = some none
theorem atOf_r {K : PySem.W.Frag} {G : Hp} {x : XD} {c : Value} {dx : Option Addr} {d : D} (h : XR K G x c dx) (e : atOf x = some d) : ∃ q fs v, dx = some q ∧ G q = some (.xd fs) ∧ fs.lookup ("at" : Str) = some v ∧ Sh K G d v := by
  obtain ⟨_, _, h3⟩ := h
  unfold atOf at e
  split at e
  · rename_i h4
    obtain ⟨h5, h6⟩ := h4
    obtain ⟨q, vs, e1, e2, e3, e4⟩ := h3 h5
    rw [h6] at e2
    match hxs : x.xs, e with
    | [d0, d1], e =>
      cases e
      rw [hxs] at e4
      obtain ⟨v0, r0, z0, s0, e5⟩ := e4
      obtain ⟨v1, r1, z1, s1, z2⟩ := e5
      subst z0; subst z1; subst z2
      exact ⟨q, _, v1, e1, e2, rfl, s1⟩
  · cases e
section
variable {X : Cx} {K : PySem.W.Frag} {Γ : List Md} {io : List Nat} {body : List Stmt} {tb : WX → TS} {fb : Mr Fl} {x n w : Str} {C : Addr} {i kk x1 : Nat} {np pos pos' q0 q1 q2 q3 q4 : Pos}
/-- the reading of both clauses' returns -/
def tsA (a C : Addr) (i : Nat) (cls : Value) (d : Option Addr) : TS := tRet (tXf a cls d C "at" (tVar i))
def tsT (w : Str) (a C : Addr) (i : Nat) (cls : Value) (d : Option Addr) : TS := tRet (tTup (tCons (tC (.str w)) (tCons (tXf a cls d C "at" (tVar i)) tNil)))
theorem snd_try {ts : Addr → Value → Option Addr → TS} {g : D → D} {rm : Md} (T : Ct K C x) (hb : ∀ W : WX, SndS K Γ W rm io (tb W) fb) (Wout : WX)
    (hts : ∀ (a : Addr) (cls : Value) (dx : Option Addr) (d : D) (xd : XD) (σ : St) (H G : Hp) (Cf : Fg) (ρ : De) (E : Ends), XR K G xd cls dx → cls = .ref C → atOf xd = some d → Good K Γ G H Cf σ ρ →
      (∀ v H' G' o, GLe G G' → R K G' (g d) rm v o → Good K Γ G' H' (o ++ Cf) σ ρ → E.rt v H') → ts a cls dx E (σ.set i (some (.ref a))) H) (Ek : WX) :
    SndS K Γ Ek rm io (fun D σ H => tb (wAs K (.ref C) i ts Wout D) D σ H) (mTry x fb g) := by
  intro σ H G Cf ρ E r good hf hq
  unfold mTry at hf
  cases e : fb ρ with
  | none => rw [e] at hf; cases hf
  | some r1 =>
    rw [e] at hf
    refine hb _ σ H G Cf ρ E r1 good e ?_
    cases r1 with
    | ok fl ρ1 =>
      cases hf
      cases fl with
      | nx => exact hq
      | bk => exact hq
      | ct => exact hq
      | rt d => exact hq
    | ex xd ρ1 =>
      dsimp only at hf
      split at hf
      · rename_i hc
        cases ea : atOf xd with
        | none => rw [ea] at hf; cases hf
        | some d =>
          rw [ea] at hf
          cases hf
          intro c dx σ' H' G' gl fx xr good'
          obtain ⟨⟨C', e1, e2⟩, _⟩ := id xr
          rw [hc, T.nm] at e2
          cases e2
          subst e1
          refine ⟨true, T.ex, fun _ a na => hts a _ dx d xd σ' H' G' Cf ρ1 _ xr rfl ea good' fun v H2 G2 o g2 r2 good2 => ?_, fun h => nomatch h⟩
          exact hq v σ' H2 G2 o (gl.trans g2) fx r2 good2
      · cases hf
theorem tXf_r {a : Addr} {cls : Value} {dx : Option Addr} {d : D} {xd : XD} {σ : St} {H G : Hp} {Q : VK} {Cf : Fg} {ρ : De} (xr : XR K G xd cls dx) (hc : cls = .ref C) (ea : atOf xd = some d) (good : Good K Γ G H Cf σ ρ) (hi : i < σ.length)
    (h : ∀ v, Sh K G d v → Q v H) : tXf a cls dx C "at" (tVar i) (σ.set i (some (.ref a))) H Q := by
  obtain ⟨q, fs, v, e1, e2, e3, e4⟩ := atOf_r xr ea
  obtain ⟨os, sl, s⟩ := good.ex
  exact ⟨.ref a, List.getElem?_set_self hi, rfl, hc, q, fs, v, e1, s.le _ _ e2, e3, h v e4⟩
/-- try: body / except x as n: return (w, n.at) -/
theorem ds_tryT (T : Ct K C x) (hN : X.N.Nodup) (hm : X.mg x = some (.ref C)) (Ek Wout : WX) (tk : Takes X Wout)
    (hb : ∀ (W : WX) (pn : List (Addr × Obj)) (xe : Value → Shared → Prop), Takes (X.tr pn xe) W → DSs (X.tr pn xe) K Γ W .sh io body (tb W) fb)
    (hat : attributeBase (.Name n q1) "at" X.env (eval (.Name n q1) X.env) = eval (.Name n q1) X.env := by rfl)
    (hl : i < Γ.length := by decide) (hs : X.stack = X.env :: X.outer := by rfl) (hf : X.env.frame = some X.env.locals := by rfl) (hi : X.N[i]? = some n := by rfl) (hln : X.env.kindOf n = some .local := by rfl) (hg : Gl X x := by rfl) (hdx : (x == ("__debug__" : Str)) = false := by decide) (hd : (n == ("__debug__" : Str)) = false := by decide) (hcd : (n == ("__classdict__" : Str)) = false := by decide) (hK : X.K = K := by rfl) :
    DS X K Γ Ek .sh io (.Try body [.ExceptHandler (some (.Name x np)) (some n) [.Return (some (.Tuple [.Constant (.str w) kk q0, .Attribute (.Name n q1) "at" q2] x1 q3)) q4] pos'] [] [] pos)
      (fun D σ H => tb (wAs K (.ref C) i (fun a cls d => tsT w a C i cls d) Wout D) D σ H) (mTry x fb fun d => .tup [.str w, d]) := by
  subst hK
  refine ⟨ps_try_as hs hf hN hi hln ⟨hg, hdx, .inl hm⟩ tk (fun W pn xe h1 h2 => (hb W pn xe h1).ps) fun a oe cls d pn hz hfl => ?_, snd_try T (fun W => (hb W [] (fun _ _ => True) (fun _ _ _ => trivial)).sn) Wout ?_ Ek⟩
  · exact pss_one (ps_ret (pe_tup (pa_cons pe_str (pa_cons (pe_xf (C := C) T.xf T.fa hz hfl (pe_var (i := i) hi (.inl hln) hd hcd) hat) pa_nil))))
  · intro a cls dx d xd σ H G Cf ρ E xr hc ea good h
    refine tXf_r xr hc ea good (by rw [← good.lenΓ]; exact hl) fun v sv => ⟨by simp [sizeLine], fun p hp => ?_⟩
    obtain ⟨os, sl, sat⟩ := good.ex
    obtain ⟨s', g'⟩ := sat.newG (u := .tup [.str w, v]) hp
    exact h _ _ _ [] g' ⟨rfl, p, [.str w, v], rfl, upd_same, .str w, [v], rfl, rfl, v, [], rfl, Sh.mono g' d sv, rfl⟩ ⟨os, sl.mono g', by simpa using s'⟩
/-- try: body / except x as n: return n.at -/
theorem ds_tryA (T : Ct K C x) (hN : X.N.Nodup) (hm : X.mg x = some (.ref C)) (Ek Wout : WX) (tk : Takes X Wout)
    (hb : ∀ (W : WX) (pn : List (Addr × Obj)) (xe : Value → Shared → Prop), Takes (X.tr pn xe) W → DSs (X.tr pn xe) K Γ W .sh io body (tb W) fb)
    (hat : attributeBase (.Name n q1) "at" X.env (eval (.Name n q1) X.env) = eval (.Name n q1) X.env := by rfl)
    (hl : i < Γ.length := by decide) (hs : X.stack = X.env :: X.outer := by rfl) (hf : X.env.frame = some X.env.locals := by rfl) (hi : X.N[i]? = some n := by rfl) (hln : X.env.kindOf n = some .local := by rfl) (hg : Gl X x := by rfl) (hdx : (x == ("__debug__" : Str)) = false := by decide) (hd : (n == ("__debug__" : Str)) = false := by decide) (hcd : (n == ("__classdict__" : Str)) = false := by decide) (hK : X.K = K := by rfl) :
    DS X K Γ Ek .sh io (.Try body [.ExceptHandler (some (.Name x np)) (some n) [.Return (some (.Attribute (.Name n q1) "at" q2)) q4] pos'] [] [] pos)
      (fun D σ H => tb (wAs K (.ref C) i (fun a cls d => tsA a C i cls d) Wout D) D σ H) (mTry x fb fun d => d) := by
  subst hK
  refine ⟨ps_try_as hs hf hN hi hln ⟨hg, hdx, .inl hm⟩ tk (fun W pn xe h1 h2 => (hb W pn xe h1).ps) fun a oe cls d pn hz hfl => ?_, snd_try T (fun W => (hb W [] (fun _ _ => True) (fun _ _ _ => trivial)).sn) Wout ?_ Ek⟩
  · exact pss_one (ps_ret (pe_xf (C := C) T.xf T.fa hz hfl (pe_var (i := i) hi (.inl hln) hd hcd) hat))
  · intro a cls dx d xd σ H G Cf ρ E xr hc ea good h
    refine tXf_r xr hc ea good (by rw [← good.lenΓ]; exact hl) fun v sv => ?_
    exact h _ _ _ [] (GLe.refl G) (R.of_sh sv) (by simpa using good)
end
/-- all that is asked of an own class of exceptions -/
structure Xc (P : Program) (K : PySem.W.Frag) (mg : Str → Option Value) (C : Addr) (x : Str) : Prop where
  G : Pg P K C x
  T : Ct K C x
  m : mg x = some (.ref C)
  s : mg "super" = none
/-! ### from what is written -/
section
variable {P : Program} {K : PySem.W.Frag}
theorem clo_mk {f cc cda D : Addr} {q : Str} {pa : Arguments} {bo : List Stmt} {sc : Scope} {dV kV doc pm ct oc ccl cl : Value} {an od cdd cld : Option Addr} {sl ccs csl : Array (Option Value)} {vs : Array Value} {file : Str} {tf : Tok} {ar : PySem.Arg}
    (lf : K.lookup f = some ⟨oc, od, .func (PySem.W.ksFn "__init__" q pa bo sc dV kV doc pm an (.ref cda) ct cc), sl⟩) (hh : (pa.posonlyargs ++ pa.args).head? = some ar) (ha : ar.arg = "self")
    (lc : K.lookup cda = some ⟨ccl, cdd, .fields vs, ccs⟩) (hv : vs[2]? = some (.str file tf)) (hf : ((P.main.file : Str) == file) = true) (le : K.lookup cc = some ⟨cl, cld, .cell (some (.ref D)), csl⟩) (ht : (P.main.scope.names.lookup ("super" : Str)).isSome = false) (L : Addr) :
    ∃ cc, Clo P K f (PySem.W.ksFn "__init__" q pa bo sc dV kV doc pm an (.ref cda) ct cc) q sc L (callEnv (PySem.W.ksFn "__init__" q pa bo sc dV kV doc pm an (.ref cda) ct cc) L f) cc D :=
  ⟨cc, ⟨⟨oc, od, sl, lf⟩, ⟨ar, hh, ha⟩, ⟨cda, ccl, cdd, vs, ccs, file, tf, rfl, lc, hv, hf⟩, ⟨cl, cld, csl, le⟩, ht⟩⟩
/-- a class's def -/
def mth (st : Stmt) : Stmt := match st with
  | .ClassDef _ _ _ (m :: _) _ _ _ _ _ _ _ => m
  | st => st
theorem xc_mk {mg : Str → Option Value} {h : Heap} (X : K.In h) (Gl : h.Ns mainGlobals mg) {x nm qc qI qB : Str} {C N D fI fB ccI ccB cdI cdB : Addr} {bs bm sub : List Value} {sn : List Str} {ab : Bool} {col : Option Bool} {dd anI anB odI odB : Option Addr} {k0 k1 k2 k3 k5 : Option Value}
    {paI paB : Arguments} {boI boB : List Stmt} {dI dB kVI kVB docI docB pmI pmB ctI ctB ocI ocB : Value} {slI slB : Array (Option Value)} {cd cdD : ClassData} {kk : Nat} {i0 i1 i2 i3 i4 i5 i6 p0 p1 p2 p3 p4 p5 q0 q1 q2 q3 r0 r1 r2 r3 : Pos}
    (z : PySem.W.nsIn K mainGlobals x = some (some (.ref C))) (zs : PySem.W.nsIn K mainGlobals "super" = some none)
    (lC : K.lookup C = some (excClassObj nm qc C N bs bm true sn sub ab col dd k0 k1 k2 k3 k5 "ValueError.__new__")) (rC : PySem.HandSPX.refsVE bm = true) (sa : PySem.W.findIn K (.ref C) "__setattr__" = some (some (.builtin "object.__setattr__")))
    (exC : PySem.W.subIn K (.ref C) (.type "BaseException") = some true) (tyC : PySem.W.typeIn K (.ref C) = some (.type "type")) (kC : PySem.W.keepIn K (.ref C) = true) (op : PySem.W.nsIn K cStatics "thirdparty.any" = some none) (cC : PySem.W.clsIn K C = some cd)
    (ga : PySem.W.findIn K (.ref C) "__getattribute__" = some (some (.builtin "BaseException.__getattribute__"))) (gg : PySem.W.findIn K (.ref C) "__getattr__" = some none) (hd : PySem.W.hasDictIn K C = true) (me : PySem.W.mroIn K C (.ref C) = some true)
    (isV : PySem.W.subIn K (.ref C) (.type "ValueError") = some true) (fa : PySem.W.findIn K (.ref C) "at" = some none) (fn : PySem.W.findIn K (.ref C) "name" = some none)
    (iC : PySem.W.findIn K (.ref C) "__init__" = some (some (.ref fI))) (tI : PySem.W.typeIn K (.ref fI) = some (.type "function")) (cI : PySem.W.codeIn K (.ref cdI) qI = true) (eI : boI = bodS x kk i0 i1 i2 i3 i4 i5 i6)
    (clI : ∀ L, ∃ cc, Clo P K fI (PySem.W.ksFn "__init__" qI paI boI scS dI kVI docI pmI anI (.ref cdI) ctI ccI) qI scS L (callEnv (PySem.W.ksFn "__init__" qI paI boI scS dI kVI docI pmI anI (.ref cdI) ctI ccI) L fI) cc C)
    (mI : McOk (sup0 i0 i1) "__init__" i2 i3 [.Name "at" i5, .Constant (.str x) kk i6]) (bI : ∀ (s : Shared) a u, BindsTo s (PySem.W.ksFn "__init__" qI paI boI scS dI kVI docI pmI anI (.ref cdI) ctI ccI) ⟨[a, u], []⟩ [("self", a), ("at", u)])
    (cD : PySem.W.clsIn K D = some cdD) (sD : PySem.W.mroIn K C (.ref D) = some true) (sB : PySem.W.ks_superIn K C C "__init__" = some (some (.ref fB))) (tB : PySem.W.typeIn K (.ref fB) = some (.type "function")) (sV : PySem.W.ks_superIn K C D "__init__" = some (some (.builtin "ValueError.__init__")))
    (eB : boB = bodB p0 p1 p2 p3 p4 p5 q0 q1 q2 q3 r0 r1 r2 r3) (clB : ∀ L, ∃ cc, Clo P K fB (PySem.W.ksFn "__init__" qB paB boB scB dB kVB docB pmB anB (.ref cdB) ctB ccB) qB scB L (callEnv (PySem.W.ksFn "__init__" qB paB boB scB dB kVB docB pmB anB (.ref cdB) ctB ccB) L fB) cc D)
    (cB : PySem.W.codeIn K (.ref cdB) qB = true) (fB' : PySem.W.fnIn K fB = true) (mB : McOk (sup0 p0 p1) "__init__" p2 p3 [.Name "at" p5])
    (bB : ∀ (s : Shared) a u n, K.In s.heap → BindsTo s (PySem.W.ksFn "__init__" qB paB boB scB dB kVB docB pmB anB (.ref cdB) ctB ccB) ⟨[a, u, n], []⟩ [("self", a), ("at", u), ("name", n)]) : Xc P K mg C x where
  G := {
    T := ⟨⟨nm, qc, N, bs, bm, sn, sub, ab, col, dd, k0, k1, k2, k3, k5, lC, rC⟩, sa, exC, tyC, kC⟩
    op := op
    own := ⟨fI, _, qI, kk, i0, i1, i2, i3, i4, i5, i6, iC, tI, by rw [← eI], rfl, rfl, clI, cI, mI, bI⟩
    base := ⟨D, cdD, fB, _, qB, p0, p1, p2, p3, p4, p5, q0, q1, q2, q3, r0, r1, r2, r3, cD, sD, sB, tB, sV, by rw [← eB], rfl, rfl, clB, cB, fB', mB, bB⟩
    cd := ⟨cd, cC⟩
    me := me
    isV := isV
    fa := fa
    fn := fn }
  T := ⟨z, ⟨ga, gg, exC, hd⟩, by
    unfold PySem.W.exmOne
    rw [if_pos (by rw [exC]; rfl)]
    unfold PySem.W.kitCls
    dsimp only
    rw [if_pos (by rw [cC, tyC]; rfl)]
    exact me, fa⟩
  m := PySem.W.mg_of X Gl z
  s := PySem.W.mg_none_of X Gl zs
end
end Dl
/-! DlY: sorted(set(xs)) of a list of ints. -/
namespace Dl
open PySem L2 PySem.Spec PyProof.Rows
local macro_rules | `(tactic| walk_at "fle") => `(tactic| (intro P; simp only [List.countP_append, List.countP_cons, List.countP_nil, List.append_nil, List.nil_append]; first | omega | (split <;> omega)))
/-- a set as it is made -/
abbrev nuS (w : World) : Obj := { cls := .type "set", dict := none, data := .set #[] 0 (.fresh 0 0 (!w.params.followText "set-order")) }
section
variable {P : Program} {w : World} {A : Around} {E : Value → Shared → Prop}
theorem call_set_l {h : Heap} {g : Array GenState} {d : Drawn} {t : Nat} {os : OsState} {l : Addr} {items : Array Value} (ns : List Int) {Q : Value → Shared → Prop} (hh : A.handled = none) (hl : h.IsList l items) (hit : IntsAre items.toList ns) (hb : ns.length + 1 < scanBound)
    (hq : ∀ (h' : Heap) (tk c : Nat), SetR w h' h.objs.size (fun j => decide (j ∈ ns)) c → c ≤ ns.length → (∀ b o, h.get? b = some o → h'.get? b = some o) → Q (.ref h.objs.size) ⟨h', g, d, tk, os⟩) :
    wpAny (model P w) A (call (.type "set") [.ref l]) Q E ⟨h, g, d, t, os⟩ := by
  have hisz : items.size = ns.length := by
    have := IntsAre.length hit
    rwa [Array.length_toList] at this
  obtain ⟨c, tl, hmro⟩ := F.called_set.mro
  have hmade := F.called_set.made
  have hsub := F.called_set.sub
  have h1 := F.called_set.notType
  have h2 := F.called_set.canCreate
  have hct := F.typeCall_set_1 (.ref l)
  have hS : (h.push (nuS w)).get? h.objs.size = some (nuS w) := Heap.get?_push_size _ rfl
  have hlS : l < h.objs.size := by obtain ⟨o, ho, _⟩ := hl; exact Heap.lt_size ho
  have hsz : (h.push (nuS w)).objs.size = h.objs.size + 1 := Heap.size_push ..
  refine wpAny_call (codeAny_of_tree ?_)
  show wpAny _ _ (callAny (.type "set") _) _ _ _
  refine wpAny_pure ⟨Code.quiet_builtin _ (by decide +kernel), codeAny_builtin F.entry_type_call ?_⟩
  rw [Around.under_plain (weight_type_call_type "set" [.ref l] []) rfl]
  repeat (any_goals (first | assumption | wp_step))
  refine codeAny_mono (code_set_led1 (.ref l) (E := E) (Q₁ := fun obj s₁ => obj = .ref h.objs.size ∧ s₁ = ⟨h.push (nuS w), g, d, t, os⟩) ⟨rfl, rfl⟩) fun r s₁ hr => ?_
  cases r with
  | error e => exact hr
  | ok fl =>
    cases fl with
    | ret obj =>
      obtain ⟨rfl, rfl⟩ := hr
      have hT : Shared.TypeIs ⟨h.push (nuS w), g, d, t, os⟩ (.ref h.objs.size) "set" := ⟨_, hS, rfl⟩
      have hli := F.called_set.init.lookup
      have hbi := F.called_set.init.bind (.ref h.objs.size)
      repeat (any_goals (first | assumption | wp_step))
      refine codeAny_mono (codeAny_call_builtin (R := wants (fun r s₂ => r = .none ∧ ∃ h' tk c, s₂ = ⟨h', g, d, tk, os⟩ ∧ SetR w h' h.objs.size (fun j => decide (j ∈ ns)) c ∧ c ≤ ns.length ∧ ∀ b o, h.get? b = some o → h'.get? b = some o) E) F.called_set.init.plain F.entry_set_init (check_set_init_1 hT ?_)) fun r₂ s₂ hr₂ => ?_
      · obtain ⟨ol, hol, hcl, nl, hdl⟩ := hl
        obtain ⟨ocls, odict, odata, oslots⟩ := ol
        simp only at hcl hdl
        subst hcl; subst hdl
        have hol' := Heap.get?_push_of_some (nuS w) hol
        have hl1 : (h.push (nuS w)).IsList l items := ⟨_, hol', rfl, nl, rfl⟩
        have hsls := F.sub_list_set
        have hslf := F.sub_list_frozenset
        have hne : (Value.type "list" == Value.type "dict") = false := by decide
        unfold Builtin.«set.__init__» noKeywords Builtin.Frozenset.updateFrom
        generalize hPI : pyIter = PI
        wp_walk
        subst hPI
        refine wpAny_pyIter_list hl1 (wpAny_bind (wpAny_runValue ?_))
        have hh3 : A.in1.in1.in1.handled = none := by simp [hh]
        have hneI : l ≠ (h.push (nuS w)).objs.size := by rw [hsz]; exact Nat.ne_of_lt (Nat.lt_succ_of_lt hlS)
        refine set_update_ints ((Walks.list hh3 _ l hneI items).toS) h.objs.size ?_ ns hisz hb (fun i v hv => ?_) (items.size - 0) 0 _ (by omega) (Nat.zero_le _) ⟨⟨_, Heap.get?_push_size _ rfl, rfl, rfl⟩, (hl1.push _)⟩ ⟨0, Nat.le_refl 0, setR_new_at (Heap.get?_push_of_some _ hS)⟩ ?_
        · rw [hsz]
          simp only [List.mem_cons, List.not_mem_nil, or_false, not_or]
          exact ⟨Nat.ne_of_lt (Nat.lt_succ_self _), Nat.ne_of_gt hlS⟩
        · have hi : i < ns.length := by rw [← hisz]; exact (Array.getElem?_eq_some_iff.mp hv).1
          obtain ⟨tt, e⟩ := PyProof.Rows.IntsAre.int_at hit i v (by rw [Array.getElem?_toList]; exact hv)
          refine ⟨ns[i], tt, List.getElem?_eq_getElem hi, ?_⟩
          rw [e, List.getD_eq_getElem?_getD, List.getElem?_eq_getElem hi] <;> rfl
        · intro s' c' hm hc' hS'
          obtain ⟨h', g2, d', tk', os'⟩ := s'
          obtain rfl : g2 = g := hm.gens
          obtain rfl : d' = d := hm.drawn
          obtain rfl : os' = os := hm.os
          rw [hisz] at hc'
          refine wpAny_pure (wpAny_pure ⟨rfl, h', tk', c', rfl, hS', hc', fun b o e => ?_⟩)
          have hb0 := Heap.lt_size e
          refine hm.heap b o ?_ (Heap.get?_push_of_some _ (Heap.get?_push_of_some _ e))
          rw [hsz]
          simp only [List.mem_cons, List.not_mem_nil, or_false, not_or]
          exact ⟨Nat.ne_of_lt hb0, Nat.ne_of_lt (Nat.lt_succ_of_lt hb0)⟩
      · cases r₂ with
        | error e => exact hr₂
        | ok fl₂ =>
          cases fl₂ with
          | ret r =>
            obtain ⟨rfl, h', tk, c', rfl, hS', hc', hk'⟩ := hr₂
            repeat (any_goals (first | assumption | wp_step))
            exact hq _ _ _ hS' hc' hk'
          | _ => exact hr₂.elim
    | _ => exact hr.elim
end
/-- a list's elements, each once, ascending -/
def insU (k : Int) : List Int → List Int
  | [] => [k]
  | x :: xs => if k < x then k :: x :: xs else if k = x then x :: xs else x :: insU k xs
def sset (ns : List Int) : List Int := ns.foldr insU []
theorem mem_insU {k j : Int} : ∀ {l : List Int}, j ∈ insU k l ↔ j = k ∨ j ∈ l
  | [] => by simp [insU]
  | x :: xs => by
    have := mem_insU (k := k) (j := j) (l := xs)
    unfold insU
    split
    · simp
    · split
      · rename_i h; subst h; simp
      · rw [List.mem_cons, this, List.mem_cons]
        constructor
        · rintro (h | h | h)
          · exact .inr (.inl h)
          · exact .inl h
          · exact .inr (.inr h)
        · rintro (h | h | h)
          · exact .inr (.inl h)
          · exact .inl h
          · exact .inr (.inr h)
theorem srt_insU {k : Int} : ∀ {l : List Int}, l.Pairwise (· < ·) → (insU k l).Pairwise (· < ·)
  | [], _ => by simp [insU]
  | x :: xs, h => by
    obtain ⟨h1, h2⟩ := List.pairwise_cons.mp h
    unfold insU
    split
    · rename_i hk
      refine List.pairwise_cons.mpr ⟨fun y hy => ?_, h⟩
      rcases List.mem_cons.mp hy with rfl | hy
      · exact hk
      · have := h1 y hy; omega
    · split
      · exact h
      · refine List.pairwise_cons.mpr ⟨fun y hy => ?_, srt_insU h2⟩
        rcases mem_insU.mp hy with rfl | hy
        · omega
        · exact h1 y hy
theorem mem_sset {j : Int} : ∀ {ns : List Int}, j ∈ sset ns ↔ j ∈ ns
  | [] => by simp [sset]
  | n :: ns => by
    show j ∈ insU n (sset ns) ↔ _
    rw [mem_insU, mem_sset, List.mem_cons]
theorem srt_sset : ∀ ns : List Int, (sset ns).Pairwise (· < ·)
  | [] => List.Pairwise.nil
  | n :: ns => srt_insU (srt_sset ns)
theorem srt_uniq : ∀ {a b : List Int}, a.Pairwise (· < ·) → b.Pairwise (· < ·) → (∀ k, k ∈ a ↔ k ∈ b) → a = b
  | [], [], _, _, _ => rfl
  | [], y :: b, _, _, h => absurd ((h y).mpr List.mem_cons_self) (by simp)
  | x :: a, [], _, _, h => absurd ((h x).mp List.mem_cons_self) (by simp)
  | x :: a, y :: b, ha, hb, h => by
    obtain ⟨a1, a2⟩ := List.pairwise_cons.mp ha
    obtain ⟨b1, b2⟩ := List.pairwise_cons.mp hb
    have e : x = y := by
      have h1 := (h x).mp List.mem_cons_self
      have h2 := (h y).mpr List.mem_cons_self
      rcases List.mem_cons.mp h1 with h1 | h1
      · exact h1
      · rcases List.mem_cons.mp h2 with h2 | h2
        · exact h2.symm
        · have := b1 x h1; have := a1 y h2; omega
    subst e
    rw [srt_uniq a2 b2 fun k => ?_]
    have := h k
    simp only [List.mem_cons] at this
    constructor
    · intro hk
      rcases this.mp (.inr hk) with e | e
      · subst e; have := a1 _ hk; omega
      · exact e
    · intro hk
      rcases this.mpr (.inr hk) with e | e
      · subst e; have := b1 _ hk; omega
      · exact e
section
variable {X : Cx} {K : PySem.W.Frag} {Γ : List Md} {Ek : WX} {e : PySem.Expr} {te : TE} {fe : Mr D} {p p2 q pos : Pos}
def rSetL (K : PySem.W.Frag) (w : World) : List V → Hp → VK → Prop := fun xs H Q => ∃ (l : Addr) (ns : List Int), xs = [.ref l] ∧ SqL K H l (ns.map V.int) ∧ ns.length ≤ 60 ∧ ∀ (a : Addr) (c : Nat), H a = none → c ≤ ns.length → Q (.ref a) (upd H a (SetO w a (fun j => decide (j ∈ ns)) c))
theorem cr_setL (hc : X.calm = true) : CallR X (.type "set") (rSetL X.K X.w) := by
  intro pins s σ H xs us Q I r h
  obtain ⟨l, ns, rfl, hq, hl, q⟩ := h
  rw [Vals.ref1 r]
  obtain ⟨its, rv, pl, hz⟩ := I.list hq
  obtain ⟨hp, g, d, t, os⟩ := s
  refine call_set_l ns (I.ok.hd hc) pl.isList (by simpa using ints_of_vals rv) (by unfold scanBound; omega) fun h' tk c R hc' k => ?_
  exact ⟨.ref _, upd H hp.objs.size (SetO X.w hp.objs.size (fun j => decide (j ∈ ns)) c), I.laid (t' := tk) k (Nat.le_refl _) (setO_new R), rfl, q _ _ (I.hok.fresh (Nat.le_refl _)) hc'⟩
def dSSet (d : D) : Option D := (dSeqL d).bind fun xs => (intsD xs).bind fun ns => if ns.length ≤ 60 then some (.lst ((sset ns).map .int)) else none
theorem de_sset (ms : X.mg "sorted" = none) (mt : X.mg "set" = none) (h : DE X K Γ Ek .sh e te fe) (hc : X.calm = true := by rfl) (hg : Gl X "sorted" := by rfl) (hg2 : Gl X "set" := by rfl)
    (he : starEach [e] X.env = (false, eval e X.env) :: starEach [] X.env := by rfl) (he2 : starEach [.Call (.Name "set" p2) [e] [] q] X.env = (false, eval (.Call (.Name "set" p2) [e] [] q) X.env) :: starEach [] X.env := by rfl)
    (hv : bootBuiltins "sorted" = some (.builtin "sorted") := by first | rfl | decide +kernel) (hv2 : bootBuiltins "set" = some (.type "set") := by first | rfl | decide +kernel) (hK : X.K = K := by rfl) :
    DE X K Γ Ek (.own .sh) (.Call (.Name "sorted" p) [.Call (.Name "set" p2) [e] [] q] [] pos) (tCB (rSortedSet X.w) (tCons (tCB (rSetL K X.w) (tCons te tNil)) tNil)) (bnd fe fun d => lft (dSSet d)) := by
  subst hK
  refine ⟨pe_callB (cr_sortedSet hc) hg ms hv (pa_cons (pe_callTy (cr_setL hc) hg2 mt hv2 (pa_cons h.pe pa_nil he) (he := he)) pa_nil he2) (he := he2), ?_⟩
  refine SndG.op (k := fun v H1 Q => rSetL X.K X.w [v] H1 fun a H2 => rSortedSet X.w [a] H2 Q) h.sn fun σ G H C d v o r Q rel s hg hq => ?_
  obtain ⟨zo, sd⟩ := (R.sh_iff d).mp rel
  subst zo
  obtain ⟨xs, e1, e2⟩ := Option.bind_eq_some_iff.mp hg
  obtain ⟨ns, e3, e4⟩ := Option.bind_eq_some_iff.mp e2
  split at e4
  · rename_i hl
    cases e4
    obtain ⟨a, us, e5, e6, r1⟩ := dSeqL_of (H := H) e1 sd
    have e7 := intsD_of e3 r1
    subst e5; subst e7
    refine ⟨a, ns, rfl, s.le.sqL e6, hl, fun b c hb hcl => ?_⟩
    obtain ⟨s1, g1⟩ := s.newG (u := SetO X.w b (fun j => decide (j ∈ ns)) c) hb
    refine ⟨b, _, c, rfl, upd_same, by omega, fun ns' p' h1 h2 h3 h4 => ?_⟩
    have en : ns' = sset ns := srt_uniq h1 (srt_sset ns) fun k => by rw [h2, mem_sset, decide_eq_true_eq]
    subst en
    exact hq _ _ _ _ g1 ⟨p', _, [], rfl, rfl, (RL.sh_iff _).mpr ⟨rfl, shl_ints _⟩⟩ (s1.newO h4)
  · cases e4
end
end Dl
/-! DlZ: weakest preconditions with exceptions. -/
namespace Dl
open PySem L2
def kBx (io : List Nat) (n : Nat) (Q : Rs D → Prop) : Rs Fl → Prop
  | .ok (.rt d) ρ => Q (.ok d (maskIo io n ρ))
  | .ok .nx ρ => Q (.ok .non (maskIo io n ρ))
  | .ex x ρ => Q (.ex x (maskIo io n ρ))
  | _ => False
theorem kBx_rt (io : List Nat) (n : Nat) (Q : Rs D → Prop) (d : D) (ρ : De) : kBx io n Q (.ok (.rt d) ρ) = Q (.ok d (maskIo io n ρ)) := propext Iff.rfl
theorem kBx_nx (io : List Nat) (n : Nat) (Q : Rs D → Prop) (ρ : De) : kBx io n Q (.ok .nx ρ) = Q (.ok .non (maskIo io n ρ)) := propext Iff.rfl
theorem kBx_ex (io : List Nat) (n : Nat) (Q : Rs D → Prop) (x : XD) (ρ : De) : kBx io n Q (.ex x ρ) = Q (.ex x (maskIo io n ρ)) := propext Iff.rfl
theorem kR_fnX {n : Nat} {io : List Nat} {f : Mr Fl} {ds : List D} {Q : Rs D → Prop} (ρ0 : De) (h0 : ds.map some ++ List.replicate (n - ds.length) none = ρ0) (h : Wp f ρ0 (kBx io ds.length Q)) : kR (bodyF n io f ds) Q := by
  unfold bodyF
  rw [h0]
  unfold Wp at h
  cases e : f ρ0 with
  | none => rw [e] at h; exact h.elim
  | some r =>
    rw [e] at h
    cases r with
    | ok fl ρ =>
      cases fl with
      | nx => exact h
      | rt d => exact h
      | bk => exact h.elim
      | ct => exact h.elim
    | ex x ρ => exact h
/-- the exception that raise C(d) makes -/
abbrev pgX (c : Str) (d : D) : XD := ⟨c, true, ["name", "at"], [.str c, d]⟩
def kRs (c NM : Str) (Q : Rs Fl → Prop) : Rs (List D) → Prop
  | .ok [d] ρ => Q (.ex ⟨c, true, ["name", "at"], [.str NM, d]⟩ ρ)
  | .ok _ _ => False
  | .ex x ρ => Q (.ex x ρ)
theorem kRs_ok (c : Str) (Q : Rs Fl → Prop) (d : D) (ρ : De) : kRs c c Q (.ok [d] ρ) = Q (.ex (pgX c d) ρ) := propext Iff.rfl
theorem wp_raise {ρ : De} (c NM : Str) (fr : Mr (List D)) (Q : Rs Fl → Prop) : Wp (mRaise c NM fr) ρ Q = Wp fr ρ (kRs c NM Q) := propext (by
  unfold Wp mRaise bnd
  cases e : fr ρ with
  | none => exact Iff.rfl
  | some r =>
    cases r with
    | ok ds ρ' =>
      match ds with
      | [] => exact Iff.rfl
      | [d] => exact Iff.rfl
      | a :: b :: r => exact Iff.rfl
    | ex x ρ' => exact Iff.rfl)
def kTry (c : Str) (g : D → D) (Q : Rs Fl → Prop) : Rs Fl → Prop
  | .ex x ρ => kR (if x.cls = c then (atOf x).map fun d => .ok (.rt (g d)) ρ else none) Q
  | r => Q r
theorem kTry_ok (c : Str) (g : D → D) (Q : Rs Fl → Prop) (f : Fl) (ρ : De) : kTry c g Q (.ok f ρ) = Q (.ok f ρ) := propext Iff.rfl
theorem kTry_ex (c : Str) (g : D → D) (Q : Rs Fl → Prop) (d : D) (ρ : De) : kTry c g Q (.ex (pgX c d) ρ) = Q (.ok (.rt (g d)) ρ) := propext (by
  unfold kTry
  dsimp only
  rw [if_pos rfl]
  have : atOf (pgX c d) = some d := by unfold atOf; rw [if_pos ⟨rfl, rfl⟩]
  rw [this]
  exact Iff.rfl)
theorem wp_try {ρ : De} (c : Str) (fb : Mr Fl) (g : D → D) (Q : Rs Fl → Prop) : Wp (mTry c fb g) ρ Q = Wp fb ρ (kTry c g Q) := propext (by
  unfold Wp mTry
  cases e : fb ρ with
  | none => exact Iff.rfl
  | some r =>
    cases r with
    | ok f ρ' => exact Iff.rfl
    | ex x ρ' => exact Iff.rfl)
def kBkX (ks : List AK) (ρ : De) (Q : Rs D → Prop) : Rs D → Prop
  | .ok d fs => Q (.ok d (backIo ks fs ρ))
  | .ex x fs => Q (.ex x (backIo ks fs ρ))
theorem kBkX_ok (ks : List AK) (ρ : De) (Q : Rs D → Prop) (d : D) (fs : De) : kBkX ks ρ Q (.ok d fs) = Q (.ok d (backIo ks fs ρ)) := propext Iff.rfl
theorem kBkX_ex (ks : List AK) (ρ : De) (Q : Rs D → Prop) (x : XD) (fs : De) : kBkX ks ρ Q (.ex x fs) = Q (.ex x (backIo ks fs ρ)) := propext Iff.rfl
def kClX (ks : List AK) (F : List D → Option (Rs D)) (Q : Rs D → Prop) : Rs (List D) → Prop
  | .ok ds ρ => kR (F ds) (kBkX ks ρ Q)
  | .ex x ρ => Q (.ex x ρ)
theorem kClX_ok (ks : List AK) (F : List D → Option (Rs D)) (Q : Rs D → Prop) (ds : List D) (ρ : De) : kClX ks F Q (.ok ds ρ) = kR (F ds) (kBkX ks ρ Q) := propext Iff.rfl
theorem wp_clX {ρ : De} (ks : List AK) (F : List D → Option (Rs D)) (fr : Mr (List D)) (Q : Rs D → Prop) : Wp (mClX ks F fr) ρ Q = Wp fr ρ (kClX ks F Q) := propext (by
  unfold Wp mClX bnd
  cases e : fr ρ with
  | none => exact Iff.rfl
  | some r =>
    cases r with
    | ok ds ρ' =>
      show kR (match F ds with | some (.ok d fs) => some (.ok d (backIo ks fs ρ')) | some (.ex x fs) => some (.ex x (backIo ks fs ρ')) | none => none) Q ↔ kR (F ds) (kBkX ks ρ' Q)
      cases e2 : F ds with
      | none => exact Iff.rfl
      | some r2 =>
        cases r2 with
        | ok d fs => exact Iff.rfl
        | ex x fs => exact Iff.rfl
    | ex x ρ' => exact Iff.rfl)
end Dl
namespace Wk
open PySem L2 Dl RZ
def top (i : Nat) : Stmt := PySem.Challenge.pw_pagewright_k87_whole_colours_and_curves.main.body.getD i (.Pass ⟨0, 0, 0, 0⟩)
abbrev s__law_draws : Stmt := top 14
abbrev N__law_draws : List Str := ["script"]
theorem sc__law_draws : FnScope N__law_draws ["script"] (defScope s__law_draws) := ⟨rfl, rfl, rfl, by decide +kernel, rfl, by decide +kernel, by decide +kernel⟩
def b__law_draws  : Mr Fl :=
  (bnd (bnd (mCons (mCall bList (mCons (mVar 0) mNil)) (mCons (ret (.int 0)) (mCons (ret (.int 0)) (mCons (ret (.int 1)) mNil)))) fun ds => lft (dLst ds)) fun d => ret (.rt d))
def F__law_draws : List D → Option (Rs D) := bodyF0 1 [] b__law_draws
theorem ok__law_draws {P : Program} {w : World} {K : PySem.W.Frag} {mg : Str → Option Value} {base : Heap} {f : Addr} {fd : FuncData} {k : Nat} (F : Fun K "_law_draws" "_law_draws" s__law_draws f fd) (m_list : mg "list" = none) :
    FnOk P w K mg base CX0 (k + 1) f fd ["script"] (spD K [.sh] (.own .sh) (bodyF0 1 [] (b__law_draws))) :=
  fn_ok (N := N__law_draws) (Γ := [.sh]) F sc__law_draws rfl rfl rfl fun cdv A outer s H E hr => ⟨_, (dss_one (ds_ret (de_lst (m := .sh) (da_cons (DE.fz (de_ct (m := (.own .sh)) b_list m_list (da_cons (dv 0) da_nil))) (da_cons (de_int (m := .sh)) (da_cons (de_int (m := .sh)) (da_cons (de_int (m := .sh)) da_nil)))))))⟩
abbrev s_back_curve : Stmt := top 12
abbrev N_back_curve : List Str := ["curve", "found", "at", "level"]
theorem sc_back_curve : FnScope N_back_curve ["curve"] (defScope s_back_curve) := ⟨rfl, rfl, rfl, by decide +kernel, rfl, by decide +kernel, by decide +kernel⟩
def b_back_curve_52  : Mr Fl :=
  (mAsg (bnd mNil fun ds => lft (dLst ds)) (gtName 1))
def b_back_curve_53  : Mr Fl :=
  (mAsg (ret (.int 0)) (gtName 2))
def b_back_curve_56  : Mr Fl :=
  (mAug 2 (fun i j => i + j) (ret (.int 1)))
def b_back_curve_55  : Mr Fl :=
  (whileM (mAnd (bnd (mOp dLe (mVar 2) (ret (.int 255))) fun d => lft (dBool d)) (bnd (mOp dLt (mOp dIx (mVar 0) (mVar 2)) (mVar 3)) fun d => lft (dBool d)))
  (b_back_curve_56) 1000000)
def b_back_curve_57  : Mr Fl :=
  (bnd (mApp 1 (bnd (mTk 1) fun d => ret (d, [])) (mCons (mVar 2) mNil)) fun _ => mSkip)
def b_back_curve_54  : Mr Fl :=
  (mFor (mRng (mCons (mOp dAdd (ret (.int 255)) (ret (.int 1))) mNil)) (gtName 3)
  (mSeq (b_back_curve_55)
  (b_back_curve_57)))
def b_back_curve_58  : Mr Fl :=
  (bnd (mFz 1) fun d => ret (.rt d))
def b_back_curve  : Mr Fl :=
  (mSeq (b_back_curve_52)
  (mSeq (b_back_curve_53)
  (mSeq (b_back_curve_54)
  (b_back_curve_58))))
def F_back_curve : List D → Option (Rs D) := bodyF0 4 [] b_back_curve
theorem ok_back_curve {P : Program} {w : World} {K : PySem.W.Frag} {mg : Str → Option Value} {base : Heap} {f : Addr} {fd : FuncData} {k : Nat} (F : Fun K "back_curve" "back_curve" s_back_curve f fd) (m_TOP : ∃ t, mg "TOP" = some (.int 255 t)) (m_range : mg "range" = none) :
    FnOk P w K mg base CX0 (k + 1) f fd ["curve"] (spD K [.sh] .sh (bodyF0 4 [] (b_back_curve))) :=
  fn_ok (N := N_back_curve) (Γ := [.sh, (.own .sh), .sh, .sh]) F sc_back_curve rfl rfl rfl fun cdv A outer s H E hr => ⟨_, (dss_cons (ds_asg (de_lst (m := .sh) da_nil) (dg_name 1 sc_back_curve.nd))
  (dss_cons (ds_asg (de_int (m := .sh)) (dg_name 2 sc_back_curve.nd))
  (dss_cons (ds_for PassesOwn.never rfl (di_range1 m_range (da_cons (DE.fz (de_op (m := (.own .sh)) o_add (de_gi 255 m_TOP) (de_int (m := .sh)))) da_nil)) (dg_name 3 sc_back_curve.nd)
  (dss_cons (ds_while 1000000 PassesOwn.never (DW.dt (dw_and (dt_cmp o_le (dv 2) (de_gi 255 m_TOP) (nomark _)) (dw_and1 (dt_cmp o_lt (de_ix (dv 0) (dv 2)) (dv 3) (nomark _)))))
  (dss_one (ds_aug 2 sc_back_curve.nd (de_int (m := .sh)) ip_add)))
  (dss_one (ds_expr0 (m := .sh) (de_app (c := .sh) (dp_var 1) (da_cons (dv 2) da_nil))))))
  (dss_one (ds_ret (dfz 1))))))⟩
abbrev s_curve_through : Stmt := top 10
abbrev N_curve_through : List Str := ["points", "found", "at", "behind", "point", "ahead", "a", "b", "c", "d"]
theorem sc_curve_through : FnScope N_curve_through ["points"] (defScope s_curve_through) := ⟨rfl, rfl, rfl, by decide +kernel, rfl, by decide +kernel, by decide +kernel⟩
def b_curve_through_37  : Mr Fl :=
  (mAsg (bnd mNil fun ds => lft (dLst ds)) (gtName 1))
def b_curve_through_39  : Mr Fl :=
  (mAsg (mLc (bnd (mVar 0) fun d => lft (dItems d)) [4] (gtName 4) (bnd (mOp dLe (mOp dIx (mVar 4) (ret (.int 0))) (mVar 2)) fun d => lft (dBool d)) (mVar 4)) (gtName 3))
def b_curve_through_40  : Mr Fl :=
  (mAsg (mLc (bnd (mVar 0) fun d => lft (dItems d)) [4] (gtName 4) (bnd (mOp dGt (mOp dIx (mVar 4) (ret (.int 0))) (mVar 2)) fun d => lft (dBool d)) (mVar 4)) (gtName 5))
def b_curve_through_42  : Mr Fl :=
  (bnd (mApp 1 (bnd (mTk 1) fun d => ret (d, [])) (mCons (mOp dIx (mOp dIx (mVar 5) (ret (.int 0))) (ret (.int 1))) mNil)) fun _ => mSkip)
def b_curve_through_44  : Mr Fl :=
  (bnd (mApp 1 (bnd (mTk 1) fun d => ret (d, [])) (mCons (mOp dIx (mOp dIx (mVar 3) (mUn dNeg (ret (.int 1)))) (ret (.int 1))) mNil)) fun _ => mSkip)
def b_curve_through_46  : Mr Fl :=
  (mAsg (bnd (mCons (mOp dIx (mVar 3) (mUn dNeg (ret (.int 1)))) (mCons (mOp dIx (mVar 5) (ret (.int 0))) mNil)) fun ds => lft (dTup ds)) (gtTup 2 (gtCons (gtTup 2 (gtCons (gtName 6) (gtCons (gtName 7) gtNil))) (gtCons (gtTup 2 (gtCons (gtName 8) (gtCons (gtName 9) gtNil))) gtNil))))
def b_curve_through_47  : Mr Fl :=
  (bnd (mApp 1 (bnd (mTk 1) fun d => ret (d, [])) (mCons (mOp dAdd (mVar 7) (mOp dFdiv (mOp dMul (mOp dSub (mVar 9) (mVar 7)) (mOp dSub (mVar 2) (mVar 6))) (mOp dSub (mVar 8) (mVar 6)))) mNil)) fun _ => mSkip)
def b_curve_through_43  : Mr Fl :=
  (mIf (bnd (mOp dEq (mCall bLen (mCons (mVar 5) mNil)) (ret (.int 0))) fun d => lft (dBool d))
  (b_curve_through_44)
  (mSeq (b_curve_through_46)
  (b_curve_through_47)))
def b_curve_through_41  : Mr Fl :=
  (mIf (bnd (mOp dEq (mCall bLen (mCons (mVar 3) mNil)) (ret (.int 0))) fun d => lft (dBool d))
  (b_curve_through_42)
  (b_curve_through_43))
def b_curve_through_38  : Mr Fl :=
  (mFor (mRng (mCons (mOp dAdd (ret (.int 255)) (ret (.int 1))) mNil)) (gtName 2)
  (mSeq (b_curve_through_39)
  (mSeq (b_curve_through_40)
  (b_curve_through_41))))
def b_curve_through_48  : Mr Fl :=
  (bnd (mFz 1) fun d => ret (.rt d))
def b_curve_through  : Mr Fl :=
  (mSeq (b_curve_through_37)
  (mSeq (b_curve_through_38)
  (b_curve_through_48)))
def F_curve_through : List D → Option (Rs D) := bodyF0 10 [] b_curve_through
theorem ok_curve_through {P : Program} {w : World} {K : PySem.W.Frag} {mg : Str → Option Value} {base : Heap} {f : Addr} {fd : FuncData} {k : Nat} (F : Fun K "curve_through" "curve_through" s_curve_through f fd) (m_TOP : ∃ t, mg "TOP" = some (.int 255 t)) (m_range : mg "range" = none) (m_len : mg "len" = none) :
    FnOk P w K mg base CX0 (k + 1) f fd ["points"] (spD K [.sh] .sh (bodyF0 10 [] (b_curve_through))) :=
  fn_ok (N := N_curve_through) (Γ := [.sh, (.own .sh), .sh, .sh, .sh, .sh, .sh, .sh, .sh, .sh]) F sc_curve_through rfl rfl rfl fun cdv A outer s H E hr => ⟨_, (dss_cons (ds_asg (de_lst (m := .sh) da_nil) (dg_name 1 sc_curve_through.nd))
  (dss_cons (ds_for PassesOwn.never rfl (di_range1 m_range (da_cons (DE.fz (de_op (m := (.own .sh)) o_add (de_gi 255 m_TOP) (de_int (m := .sh)))) da_nil)) (dg_name 2 sc_curve_through.nd)
  (dss_cons (ds_setLcS 3 (io' := [0, 1, 2, 3, 5, 6, 7, 8, 9]) [("point", 4)] rfl sc_curve_through.nd (di_seq (dv 0)) (blkOk_by (N := N_curve_through) (sc := defScope s_curve_through) (by decide +kernel)) (fun _ _ _ _ _ => (dg_name 4 sc_curve_through.nd)) (fun _ _ _ _ _ => (dts_one (dt_cmp o_le (de_ix (dv 4) (de_int (m := .sh))) (dv 2) (nomark _)))) (fun _ _ _ _ _ => (dv 4)) (sw_true rfl rfl rfl (by decide +kernel)))
  (dss_cons (ds_setLcS 5 (io' := [0, 1, 2, 3, 5, 6, 7, 8, 9]) [("point", 4)] rfl sc_curve_through.nd (di_seq (dv 0)) (blkOk_by (N := N_curve_through) (sc := defScope s_curve_through) (by decide +kernel)) (fun _ _ _ _ _ => (dg_name 4 sc_curve_through.nd)) (fun _ _ _ _ _ => (dts_one (dt_cmp o_gt (de_ix (dv 4) (de_int (m := .sh))) (dv 2) (nomark _)))) (fun _ _ _ _ _ => (dv 4)) (sw_true rfl rfl rfl (by decide +kernel)))
  (dss_one (ds_if (dt_cmp (o_eq hr) (de_cb (m := .sh) b_len m_len (da_cons (dv 3) da_nil)) (de_int (m := .sh)) (nomark _))
  (dss_one (ds_expr0 (m := .sh) (de_app (c := .sh) (dp_var 1) (da_cons (de_ix (de_ix (dv 5) (de_int (m := .sh))) (de_int (m := .sh))) da_nil))))
  (dss_one (ds_if (dt_cmp (o_eq hr) (de_cb (m := .sh) b_len m_len (da_cons (dv 5) da_nil)) (de_int (m := .sh)) (nomark _))
  (dss_one (ds_expr0 (m := .sh) (de_app (c := .sh) (dp_var 1) (da_cons (de_ix (de_ix (dv 3) (de_neg (m := .sh) (de_int (m := .sh)))) (de_int (m := .sh))) da_nil))))
  (dss_cons (ds_asg (DE.fz (de_tup (m := .sh) (da_cons (de_ix (dv 3) (de_neg (m := .sh) (de_int (m := .sh)))) (da_cons (de_ix (dv 5) (de_int (m := .sh))) da_nil)))) (dg_tupS rfl (dgs_cons (dg_tupS rfl (dgs_cons (dg_name 6 sc_curve_through.nd) (dgs_cons (dg_name 7 sc_curve_through.nd) dgs_nil))) (dgs_cons (dg_tupS rfl (dgs_cons (dg_name 8 sc_curve_through.nd) (dgs_cons (dg_name 9 sc_curve_through.nd) dgs_nil))) dgs_nil))))
  (dss_one (ds_expr0 (m := .sh) (de_app (c := .sh) (dp_var 1) (da_cons (DE.fz (de_op (m := (.own .sh)) o_add (dv 7) (de_op (m := .sh) o_fdiv (DE.fz (de_op (m := (.own .sh)) o_mul (de_op (m := .sh) o_sub (dv 9) (dv 7)) (de_op (m := .sh) o_sub (dv 2) (dv 6)))) (de_op (m := .sh) o_sub (dv 8) (dv 6))))) da_nil))))))))))))
  (dss_one (ds_ret (dfz 1)))))⟩
abbrev s__law_draw : Stmt := top 15
abbrev N__law_draw : List Str := ["draws", "limit", "cell", "value"]
theorem sc__law_draw : FnScope N__law_draw ["draws", "limit"] (defScope s__law_draw) := ⟨rfl, rfl, rfl, by decide +kernel, rfl, by decide +kernel, by decide +kernel⟩
def b__law_draw_64  : Mr Fl :=
  (mAsg (mOp dIx (mRead 0 (bnd (mPair (bnd (mTk 0) fun d => ret (d, [])) (ret (.int 0))) fun p => lft (ixP p.1 p.2))) (mRead 0 (bnd (mPair (bnd (mTk 0) fun d => ret (d, [])) (ret (.int 1))) fun p => lft (ixP p.1 p.2)))) (gtName 2))
def b__law_draw_65  : Mr Fl :=
  (mAsg (mOp dAdd (mRead 0 (bnd (mPair (bnd (mTk 0) fun d => ret (d, [])) (ret (.int 1))) fun p => lft (ixP p.1 p.2))) (ret (.int 1))) (gtSub 0 (bnd (mTk 0) fun d => ret (d, [])) (ret (.int 1))))
def b__law_draw_67  : Mr Fl :=
  (mAsg (mVar 2) (gtSub 0 (bnd (mTk 0) fun d => ret (d, [])) (ret (.int 2))))
def b__law_draw_66  : Mr Fl :=
  (mIf (bnd (mOp dGe (mVar 2) (mOp dPow (ret (.int 10)) (ret (.int 18)))) fun d => lft (dBool d))
  (b__law_draw_67)
  mSkip)
def b__law_draw_68  : Mr Fl :=
  (mAsg (mOp dMod (mCall bInt (mCons (mOp dAdd (mOp dAdd (mOp dMul (mRead 0 (bnd (mPair (bnd (mTk 0) fun d => ret (d, [])) (ret (.int 3))) fun p => lft (ixP p.1 p.2))) (ret (.int 48271))) (mVar 2)) (ret (.int 13))) mNil)) (ret (.int 2147483647))) (gtSub 0 (bnd (mTk 0) fun d => ret (d, [])) (ret (.int 3))))
def b__law_draw_63  : Mr Fl :=
  (mIf (mAnd (bnd (mOp dEq (mRead 0 (bnd (mPair (bnd (mTk 0) fun d => ret (d, [])) (ret (.int 2))) fun p => lft (ixP p.1 p.2))) (ret (.int 0))) fun d => lft (dBool d)) (bnd (mOp dLt (mRead 0 (bnd (mPair (bnd (mTk 0) fun d => ret (d, [])) (ret (.int 1))) fun p => lft (ixP p.1 p.2))) (mLen 0 (bnd (mPair (bnd (mTk 0) fun d => ret (d, [])) (ret (.int 0))) fun p => lft (ixP p.1 p.2)))) fun d => lft (dBool d)))
  (mSeq (b__law_draw_64)
  (mSeq (b__law_draw_65)
  (mSeq (b__law_draw_66)
  (b__law_draw_68))))
  mSkip)
def b__law_draw_70  : Mr Fl :=
  (mAsg (mOp dMod (mCall bInt (mCons (mRead 0 (bnd (mPair (bnd (mTk 0) fun d => ret (d, [])) (ret (.int 2))) fun p => lft (ixP p.1 p.2))) mNil)) (mVar 1)) (gtName 3))
def b__law_draw_71  : Mr Fl :=
  (mAsg (mOp dFdiv (mRead 0 (bnd (mPair (bnd (mTk 0) fun d => ret (d, [])) (ret (.int 2))) fun p => lft (ixP p.1 p.2))) (mVar 1)) (gtSub 0 (bnd (mTk 0) fun d => ret (d, [])) (ret (.int 2))))
def b__law_draw_72  : Mr Fl :=
  (bnd (mVar 3) fun d => ret (.rt d))
def b__law_draw_69  : Mr Fl :=
  (mIf (bnd (mOp dGt (mRead 0 (bnd (mPair (bnd (mTk 0) fun d => ret (d, [])) (ret (.int 2))) fun p => lft (ixP p.1 p.2))) (ret (.int 0))) fun d => lft (dBool d))
  (mSeq (b__law_draw_70)
  (mSeq (b__law_draw_71)
  (b__law_draw_72)))
  mSkip)
def b__law_draw_73  : Mr Fl :=
  (mAsg (mOp dMod (mCall bInt (mCons (mOp dAdd (mOp dMul (mRead 0 (bnd (mPair (bnd (mTk 0) fun d => ret (d, [])) (ret (.int 3))) fun p => lft (ixP p.1 p.2))) (ret (.int 69621))) (ret (.int 7))) mNil)) (ret (.int 2147483629))) (gtSub 0 (bnd (mTk 0) fun d => ret (d, [])) (ret (.int 3))))
def b__law_draw_74  : Mr Fl :=
  (bnd (mOp dMod (mCall bInt (mCons (mOp dFdiv (mRead 0 (bnd (mPair (bnd (mTk 0) fun d => ret (d, [])) (ret (.int 3))) fun p => lft (ixP p.1 p.2))) (ret (.int 11))) mNil)) (mVar 1)) fun d => ret (.rt d))
def b__law_draw  : Mr Fl :=
  (mSeq (b__law_draw_63)
  (mSeq (b__law_draw_69)
  (mSeq (b__law_draw_73)
  (b__law_draw_74))))
def F__law_draw : List D → Option (Rs D) := bodyF0 4 [0] b__law_draw
theorem ok__law_draw {P : Program} {w : World} {K : PySem.W.Frag} {mg : Str → Option Value} {base : Heap} {f : Addr} {fd : FuncData} {k : Nat} (F : Fun K "_law_draw" "_law_draw" s__law_draw f fd) (m_len : mg "len" = none) (m_int : mg "int" = none) :
    FnOk P w K mg base CX0 (k + 1) f fd ["draws", "limit"] (spD K [(.own .sh), .sh] .sh (bodyF0 4 [0] (b__law_draw))) :=
  fn_ok (N := N__law_draw) (Γ := [(.own .sh), .sh, .sh, .sh]) F sc__law_draw rfl rfl rfl fun cdv A outer s H E hr => ⟨_, (dss_cons (ds_if (DW.dt (dw_and (dt_cmp (o_eq hr) (de_read (dp_ix (dp_var 0) (de_int (m := .sh)))) (de_int (m := .sh)) (nomark _)) (dw_and1 (dt_cmp o_lt (de_read (dp_ix (dp_var 0) (de_int (m := .sh)))) (de_lenP (c := .sh) m_len (dp_ix (dp_var 0) (de_int (m := .sh)))) (nomark _)))))
  (dss_cons (ds_asg (de_ix (de_read (dp_ix (dp_var 0) (de_int (m := .sh)))) (de_read (dp_ix (dp_var 0) (de_int (m := .sh))))) (dg_name 2 sc__law_draw.nd))
  (dss_cons (ds_asg (DE.fz (de_op (m := (.own .sh)) o_add (de_read (dp_ix (dp_var 0) (de_int (m := .sh)))) (de_int (m := .sh)))) (dg_sub (dp_var 0) (de_int (m := .sh))))
  (dss_cons (ds_if (dt_cmp o_ge (dv 2) (de_op (m := .sh) o_pow (de_int (m := .sh)) (de_int (m := .sh))) (nomark _))
  (dss_one (ds_asg (dv 2) (dg_sub (dp_var 0) (de_int (m := .sh)))))
  dss_nil)
  (dss_one (ds_asg (de_op (m := .sh) o_mod (de_ct (m := .sh) b_int m_int (da_cons (DE.fz (de_op (m := (.own .sh)) o_add (DE.fz (de_op (m := (.own .sh)) o_add (DE.fz (de_op (m := (.own .sh)) o_mul (de_read (dp_ix (dp_var 0) (de_int (m := .sh)))) (de_int (m := .sh)))) (dv 2))) (de_int (m := .sh)))) da_nil)) (de_int (m := .sh))) (dg_sub (dp_var 0) (de_int (m := .sh))))))))
  dss_nil)
  (dss_cons (ds_if (dt_cmp o_gt (de_read (dp_ix (dp_var 0) (de_int (m := .sh)))) (de_int (m := .sh)) (nomark _))
  (dss_cons (ds_asg (de_op (m := .sh) o_mod (de_ct (m := .sh) b_int m_int (da_cons (de_read (dp_ix (dp_var 0) (de_int (m := .sh)))) da_nil)) (dv 1)) (dg_name 3 sc__law_draw.nd))
  (dss_cons (ds_asg (de_op (m := .sh) o_fdiv (de_read (dp_ix (dp_var 0) (de_int (m := .sh)))) (dv 1)) (dg_sub (dp_var 0) (de_int (m := .sh))))
  (dss_one (ds_ret (dv 3)))))
  dss_nil)
  (dss_cons (ds_asg (de_op (m := .sh) o_mod (de_ct (m := .sh) b_int m_int (da_cons (DE.fz (de_op (m := (.own .sh)) o_add (DE.fz (de_op (m := (.own .sh)) o_mul (de_read (dp_ix (dp_var 0) (de_int (m := .sh)))) (de_int (m := .sh)))) (de_int (m := .sh)))) da_nil)) (de_int (m := .sh))) (dg_sub (dp_var 0) (de_int (m := .sh))))
  (dss_one (ds_ret (de_op (m := .sh) o_mod (de_ct (m := .sh) b_int m_int (da_cons (de_op (m := .sh) o_fdiv (de_read (dp_ix (dp_var 0) (de_int (m := .sh)))) (de_int (m := .sh))) da_nil)) (dv 1)))))))⟩
abbrev s__law_colour : Stmt := top 21
abbrev N__law_colour : List Str := ["draws", "k"]
theorem sc__law_colour : FnScope N__law_colour ["draws"] (defScope s__law_colour) := ⟨rfl, rfl, rfl, by decide +kernel, rfl, by decide +kernel, by decide +kernel⟩
def b__law_colour_116  : Mr Fl :=
  (bnd (mCall bTuple (mCons (mLc (mRng (mCons (ret (.int 3)) mNil)) [1] (gtName 1) (ret true) (mOp dIx (bnd (mCons (ret (.int 0)) (mCons (ret (.int 255)) (mCons (ret (.int 128)) (mCons (mCl0 [.io 0, .v .sh] F__law_draw (mCons (mMov 0) (mCons (ret (.int 256)) mNil))) mNil)))) fun ds => lft (dLst ds)) (mCl0 [.io 0, .v .sh] F__law_draw (mCons (mMov 0) (mCons (ret (.int 4)) mNil))))) mNil)) fun d => ret (.rt d))
def b__law_colour  : Mr Fl :=
  (b__law_colour_116)
def F__law_colour : List D → Option (Rs D) := bodyF0 2 [0] b__law_colour
theorem ok__law_colour {P : Program} {w : World} {K : PySem.W.Frag} {mg : Str → Option Value} {base : Heap} {f : Addr} {fd : FuncData} {k : Nat} (F : Fun K "_law_colour" "_law_colour" s__law_colour f fd) (c__law_draw : Cl P w K mg base CX0 k "_law_draw" [(.own .sh), .sh] .sh F__law_draw) (m_range : mg "range" = none) (m_tuple : mg "tuple" = none) :
    FnOk P w K mg base CX0 (k + 1) f fd ["draws"] (spD K [(.own .sh)] .sh (bodyF0 2 [0] (b__law_colour))) :=
  fn_ok (N := N__law_colour) (Γ := [(.own .sh), .sh]) F sc__law_colour rfl rfl rfl fun cdv A outer s H E hr => ⟨_, (dss_one (ds_ret (DE.fz (de_ct (m := (.own .sh)) b_tuple m_tuple (da_cons (DE.fz (de_lc (io' := [0]) [("k", 1)] rfl sc__law_colour.nd (di_range1 m_range (da_cons (de_int (m := .sh)) da_nil)) (blkOk_by (N := N__law_colour) (sc := defScope s__law_colour) (by decide +kernel)) (fun _ _ _ _ _ => (dg_name 1 sc__law_colour.nd)) (fun _ _ _ _ _ => dts_nil) (fun _ _ _ _ _ => (de_ix (DE.fz (de_lst (m := .sh) (da_cons (de_int (m := .sh)) (da_cons (de_int (m := .sh)) (da_cons (de_int (m := .sh)) (da_cons (de_call c__law_draw hr (da_io 0 (da_cons (de_int (m := .sh)) da_nil))) da_nil)))))) (de_call c__law_draw hr (da_io 0 (da_cons (de_int (m := .sh)) da_nil))))))) da_nil)))))⟩
abbrev s_plates_of : Stmt := top 6
abbrev N_plates_of : List Str := ["colour", "above", "below", "shades", "level", "black", "shade"]
theorem sc_plates_of : FnScope N_plates_of ["colour", "above", "below"] (defScope s_plates_of) := ⟨rfl, rfl, rfl, by decide +kernel, rfl, by decide +kernel, by decide +kernel⟩
def b_plates_of_16  : Mr Fl :=
  (mAsg (mLc (bnd (mVar 0) fun d => lft (dItems d)) [4] (gtName 4) (ret true) (mOp dSub (ret (.int 255)) (mVar 4))) (gtName 3))
def b_plates_of_17  : Mr Fl :=
  (mAsg (mOp dFdiv (mOp dMul (mCall bMin (mCons (mVar 3) mNil)) (mVar 1)) (mVar 2)) (gtName 5))
def b_plates_of_18  : Mr Fl :=
  (bnd (mCall bTuple (mCons (mOp dAdd (mLc (bnd (mVar 3) fun d => lft (dItems d)) [6] (gtName 6) (ret true) (mOp dSub (mVar 6) (mVar 5))) (bnd (mCons (mVar 5) mNil) fun ds => lft (dLst ds))) mNil)) fun d => ret (.rt d))
def b_plates_of  : Mr Fl :=
  (mSeq (b_plates_of_16)
  (mSeq (b_plates_of_17)
  (b_plates_of_18)))
def F_plates_of : List D → Option (Rs D) := bodyF0 7 [] b_plates_of
theorem ok_plates_of {P : Program} {w : World} {K : PySem.W.Frag} {mg : Str → Option Value} {base : Heap} {f : Addr} {fd : FuncData} {k : Nat} (F : Fun K "plates_of" "plates_of" s_plates_of f fd) (m_TOP : ∃ t, mg "TOP" = some (.int 255 t)) (m_min : mg "min" = none) (m_tuple : mg "tuple" = none) :
    FnOk P w K mg base CX0 (k + 1) f fd ["colour", "above", "below"] (spD K [.sh, .sh, .sh] .sh (bodyF0 7 [] (b_plates_of))) :=
  fn_ok (N := N_plates_of) (Γ := [.sh, .sh, .sh, .sh, .sh, .sh, .sh]) F sc_plates_of rfl rfl rfl fun cdv A outer s H E hr => ⟨_, (dss_cons (ds_setLcS 3 (io' := [0, 1, 2, 3, 5, 6]) [("level", 4)] rfl sc_plates_of.nd (di_seq (dv 0)) (blkOk_by (N := N_plates_of) (sc := defScope s_plates_of) (by decide +kernel)) (fun _ _ _ _ _ => (dg_name 4 sc_plates_of.nd)) (fun _ _ _ _ _ => dts_nil) (fun _ _ _ _ _ => (de_op (m := .sh) o_sub (de_gi 255 m_TOP) (dv 4))) (sw_true rfl rfl rfl (by decide +kernel)))
  (dss_cons (ds_asg (de_op (m := .sh) o_fdiv (DE.fz (de_op (m := (.own .sh)) o_mul (de_cb (m := .sh) (b_min rfl) m_min (da_cons (dv 3) da_nil)) (dv 1))) (dv 2)) (dg_name 5 sc_plates_of.nd))
  (dss_one (ds_ret (DE.fz (de_ct (m := (.own .sh)) b_tuple m_tuple (da_cons (DE.fz (de_op (m := (.own .sh)) o_add (DE.fz (de_lc (io' := [0, 1, 2, 3, 4, 5]) [("shade", 6)] rfl sc_plates_of.nd (di_seq (dv 3)) (blkOk_by (N := N_plates_of) (sc := defScope s_plates_of) (by decide +kernel)) (fun _ _ _ _ _ => (dg_name 6 sc_plates_of.nd)) (fun _ _ _ _ _ => dts_nil) (fun _ _ _ _ _ => (de_op (m := .sh) o_sub (dv 6) (dv 5))))) (DE.fz (de_lst (m := .sh) (da_cons (dv 5) da_nil))))) da_nil)))))))⟩
abbrev s__law_curve : Stmt := top 20
abbrev N__law_curve : List Str := ["draws", "found", "here", "k"]
theorem sc__law_curve : FnScope N__law_curve ["draws"] (defScope s__law_curve) := ⟨rfl, rfl, rfl, by decide +kernel, rfl, by decide +kernel, by decide +kernel⟩
def b__law_curve_108  : Mr Fl :=
  (mAsg (bnd mNil fun ds => lft (dLst ds)) (gtName 1))
def b__law_curve_109  : Mr Fl :=
  (mAsg (mCl0 [.io 0, .v .sh] F__law_draw (mCons (mMov 0) (mCons (ret (.int 50)) mNil))) (gtName 2))
def b__law_curve_112  : Mr Fl :=
  (mAsg (mCall bMin (mCons (ret (.int 255)) (mCons (mOp dAdd (mVar 2) (mCl0 [.io 0, .v .sh] F__law_draw (mCons (mMov 0) (mCons (ret (.int 7)) mNil)))) mNil))) (gtName 2))
def b__law_curve_111  : Mr Fl :=
  (mIf (bnd (mOp dEq (mCl0 [.io 0, .v .sh] F__law_draw (mCons (mMov 0) (mCons (ret (.int 3)) mNil))) (ret (.int 0))) fun d => lft (dBool d))
  (b__law_curve_112)
  mSkip)
def b__law_curve_113  : Mr Fl :=
  (bnd (mApp 1 (bnd (mTk 1) fun d => ret (d, [])) (mCons (mVar 2) mNil)) fun _ => mSkip)
def b__law_curve_110  : Mr Fl :=
  (mFor (mRng (mCons (ret (.int 256)) mNil)) (gtName 3)
  (mSeq (b__law_curve_111)
  (b__law_curve_113)))
def b__law_curve_114  : Mr Fl :=
  (bnd (mFz 1) fun d => ret (.rt d))
def b__law_curve  : Mr Fl :=
  (mSeq (b__law_curve_108)
  (mSeq (b__law_curve_109)
  (mSeq (b__law_curve_110)
  (b__law_curve_114))))
def F__law_curve : List D → Option (Rs D) := bodyF0 4 [0] b__law_curve
theorem ok__law_curve {P : Program} {w : World} {K : PySem.W.Frag} {mg : Str → Option Value} {base : Heap} {f : Addr} {fd : FuncData} {k : Nat} (F : Fun K "_law_curve" "_law_curve" s__law_curve f fd) (c__law_draw : Cl P w K mg base CX0 k "_law_draw" [(.own .sh), .sh] .sh F__law_draw) (m_range : mg "range" = none) (m_min : mg "min" = none) :
    FnOk P w K mg base CX0 (k + 1) f fd ["draws"] (spD K [(.own .sh)] .sh (bodyF0 4 [0] (b__law_curve))) :=
  fn_ok (N := N__law_curve) (Γ := [(.own .sh), (.own .sh), .sh, .sh]) F sc__law_curve rfl rfl rfl fun cdv A outer s H E hr => ⟨_, (dss_cons (ds_asg (de_lst (m := .sh) da_nil) (dg_name 1 sc__law_curve.nd))
  (dss_cons (ds_asg (de_call c__law_draw hr (da_io 0 (da_cons (de_int (m := .sh)) da_nil))) (dg_name 2 sc__law_curve.nd))
  (dss_cons (ds_for PassesOwn.never rfl (di_range1 m_range (da_cons (de_int (m := .sh)) da_nil)) (dg_name 3 sc__law_curve.nd)
  (dss_cons (ds_if (dt_cmp (o_eq hr) (de_call c__law_draw hr (da_io 0 (da_cons (de_int (m := .sh)) da_nil))) (de_int (m := .sh)) (nomark _))
  (dss_one (ds_asg (de_cb (m := .sh) (b_min rfl) m_min (da_cons (de_int (m := .sh)) (da_cons (DE.fz (de_op (m := (.own .sh)) o_add (dv 2) (de_call c__law_draw hr (da_io 0 (da_cons (de_int (m := .sh)) da_nil))))) da_nil))) (dg_name 2 sc__law_curve.nd)))
  dss_nil)
  (dss_one (ds_expr0 (m := .sh) (de_app (c := .sh) (dp_var 1) (da_cons (dv 2) da_nil))))))
  (dss_one (ds_ret (dfz 1))))))⟩
abbrev s__law_same : Stmt := top 16
abbrev N__law_same : List Str := ["x", "due", "key", "right", "at"]
theorem sc__law_same : FnScope N__law_same ["x", "due"] (defScope s__law_same) := ⟨rfl, rfl, rfl, by decide +kernel, rfl, by decide +kernel, by decide +kernel⟩
def b__law_same (f__law_same : List D → Option (Rs D)) : Mr Fl :=
  (mSeq (mIf (bnd (mOp dIs (mVar 1) (ret .non)) fun d => lft (dBool d))
  (bnd (mOp dIs (mVar 0) (ret .non)) fun d => ret (.rt d))
  mSkip)
  (mSeq (mIf (bnd (mCall (bIsi .bool) (mCons (mVar 1) (mCons (ret (.val (.ty "bool"))) mNil))) fun d => lft (dTr d))
  (bnd (mAndV (mCall (bIsi .bool) (mCons (mVar 0) (mCons (ret (.val (.ty "bool"))) mNil))) (mOp dEq (mVar 0) (mVar 1))) fun d => ret (.rt d))
  mSkip)
  (mSeq (mIf (bnd (mCall (bIsi .int) (mCons (mVar 1) (mCons (ret (.val (.ty "int"))) mNil))) fun d => lft (dTr d))
  (bnd (mAndV (mCall (bIsi .int) (mCons (mVar 0) (mCons (ret (.val (.ty "int"))) mNil))) (mAndV (mNotV (mCall (bIsi .bool) (mCons (mVar 0) (mCons (ret (.val (.ty "bool"))) mNil)))) (mOp dEq (mVar 0) (mVar 1)))) fun d => ret (.rt d))
  mSkip)
  (mSeq (mIf (bnd (mCall (bIsi .str) (mCons (mVar 1) (mCons (ret (.val (.ty "str"))) mNil))) fun d => lft (dTr d))
  (bnd (mAndV (mCall (bIsi .str) (mCons (mVar 0) (mCons (ret (.val (.ty "str"))) mNil))) (mOp dEq (mVar 0) (mVar 1))) fun d => ret (.rt d))
  mSkip)
  (mSeq (mIf (bnd (mCall (bIsi .dict) (mCons (mVar 1) (mCons (ret (.val (.ty "dict"))) mNil))) fun d => lft (dTr d))
  (mSeq (mIf (mOr (mNot (bnd (mCall (bIsi .dict) (mCons (mVar 0) (mCons (ret (.val (.ty "dict"))) mNil))) fun d => lft (dTr d))) (mOr (bnd (mOp dNe (mCall bLen (mCons (mVar 0) mNil)) (mCall bLen (mCons (mVar 1) mNil))) fun d => lft (dBool d)) (mNot (bnd (mCall bAll (mCons (mLc (bnd (mVar 1) fun d => lft (dItems d)) [2] (gtName 2) (ret true) (mOp dIn (mVar 2) (mVar 0))) mNil)) fun d => lft (dTr d)))))
  (bnd (ret (.bl false)) fun d => ret (.rt d))
  mSkip)
  (bnd (mCall bAll (mCons (mLc (bnd (mVar 1) fun d => lft (dItems d)) [2] (gtName 2) (ret true) (mCl0 [.v .sh, .v .sh] f__law_same (mCons (mOp dIx (mVar 0) (mVar 2)) (mCons (mOp dIx (mVar 1) (mVar 2)) mNil)))) mNil)) fun d => ret (.rt d)))
  mSkip)
  (mSeq (mIf (bnd (mCall (bIsi .list) (mCons (mVar 1) (mCons (ret (.val (.ty "list"))) mNil))) fun d => lft (dTr d))
  (mAsg (mCall (bIsi .list) (mCons (mVar 0) (mCons (ret (.val (.ty "list"))) mNil))) (gtName 3))
  (mAsg (mCall (bIsi .tuple) (mCons (mVar 0) (mCons (ret (.val (.ty "tuple"))) mNil))) (gtName 3)))
  (bnd (mAndV (mVar 3) (mAndV (mOp dEq (mCall bLen (mCons (mVar 0) mNil)) (mCall bLen (mCons (mVar 1) mNil))) (mCall bAll (mCons (mLc (mRng (mCons (mCall bLen (mCons (mVar 1) mNil)) mNil)) [4] (gtName 4) (ret true) (mCl0 [.v .sh, .v .sh] f__law_same (mCons (mOp dIx (mVar 0) (mVar 4)) (mCons (mOp dIx (mVar 1) (mVar 4)) mNil)))) mNil)))) fun d => ret (.rt d))))))))
def F__law_same : Nat → List D → Option (Rs D)
  | 0 => fun _ => none
  | n + 1 => bodyF0 5 [] (b__law_same (F__law_same n))
theorem ok__law_same {P : Program} {w : World} {K : PySem.W.Frag} {mg : Str → Option Value} {base : Heap} {f : Addr} {fd : FuncData} {k : Nat} (F : Fun K "_law_same" "_law_same" s__law_same f fd) {f__law_same : List D → Option (Rs D)} (c__law_same : Cl P w K mg base CX0 k "_law_same" [.sh, .sh] .sh f__law_same) (m_isinstance : mg "isinstance" = none) (m_bool : mg "bool" = none) (m_int : mg "int" = none) (m_str : mg "str" = none) (m_dict : mg "dict" = none) (m_len : mg "len" = none) (m_all : mg "all" = none) (m_list : mg "list" = none) (m_tuple : mg "tuple" = none) (m_range : mg "range" = none) :
    FnOk P w K mg base CX0 (k + 1) f fd ["x", "due"] (spD K [.sh, .sh] .sh (bodyF0 5 [] (b__law_same f__law_same))) :=
  fn_ok (N := N__law_same) (Γ := [.sh, .sh, .sh, .sh, .sh]) F sc__law_same rfl rfl rfl fun cdv A outer s H E hr => ⟨_, (dss_cons (ds_if (dt_cmp o_is (dv 1) (de_non (m := .sh)) (nomark _))
  (dss_one (ds_ret (de_cmp (m := .sh) o_is (dv 0) (de_non (m := .sh)) (nomark _))))
  dss_nil)
  (dss_cons (ds_if (dt_tr (de_cb (m := .sh) (b_isi .bool) m_isinstance (da_cons (dv 1) (da_cons (de_ty (m := .sh) m_bool) da_nil))))
  (dss_one (ds_ret (de_and (de_cb (m := .sh) (b_isi .bool) m_isinstance (da_cons (dv 0) (da_cons (de_ty (m := .sh) m_bool) da_nil))) (de_one (de_cmp (m := .sh) (o_eq hr) (dv 0) (dv 1) (nomark _))))))
  dss_nil)
  (dss_cons (ds_if (dt_tr (de_cb (m := .sh) (b_isi .int) m_isinstance (da_cons (dv 1) (da_cons (de_ty (m := .sh) m_int) da_nil))))
  (dss_one (ds_ret (de_and (de_cb (m := .sh) (b_isi .int) m_isinstance (da_cons (dv 0) (da_cons (de_ty (m := .sh) m_int) da_nil))) (de_and (de_not (m := .sh) (de_cb (m := .sh) (b_isi .bool) m_isinstance (da_cons (dv 0) (da_cons (de_ty (m := .sh) m_bool) da_nil)))) (de_one (de_cmp (m := .sh) (o_eq hr) (dv 0) (dv 1) (nomark _)))))))
  dss_nil)
  (dss_cons (ds_if (dt_tr (de_cb (m := .sh) (b_isi .str) m_isinstance (da_cons (dv 1) (da_cons (de_ty (m := .sh) m_str) da_nil))))
  (dss_one (ds_ret (de_and (de_cb (m := .sh) (b_isi .str) m_isinstance (da_cons (dv 0) (da_cons (de_ty (m := .sh) m_str) da_nil))) (de_one (de_cmp (m := .sh) (o_eq hr) (dv 0) (dv 1) (nomark _))))))
  dss_nil)
  (dss_cons (ds_if (dt_tr (de_cb (m := .sh) (b_isi .dict) m_isinstance (da_cons (dv 1) (da_cons (de_ty (m := .sh) m_dict) da_nil))))
  (dss_cons (ds_if (DW.dt (dw_or (dt_not (dt_tr (de_cb (m := .sh) (b_isi .dict) m_isinstance (da_cons (dv 0) (da_cons (de_ty (m := .sh) m_dict) da_nil))))) (dw_or (dt_cmp (o_ne hr) (de_cb (m := .sh) b_len m_len (da_cons (dv 0) da_nil)) (de_cb (m := .sh) b_len m_len (da_cons (dv 1) da_nil)) (nomark _)) (dw_or1 (dt_not (dt_tr (de_cb (m := .sh) (b_all rfl) m_all (da_cons (DE.fz (de_lc (io' := [0, 1, 3, 4]) [("key", 2)] rfl sc__law_same.nd (di_seq (dv 1)) (blkOk_by (N := N__law_same) (sc := defScope s__law_same) (by decide +kernel)) (fun _ _ _ _ _ => (dg_name 2 sc__law_same.nd)) (fun _ _ _ _ _ => dts_nil) (fun _ _ _ _ _ => (de_cmp (m := .sh) (o_in hr) (dv 2) (dv 0) rfl)))) da_nil))))))))
  (dss_one (ds_ret (de_bl (m := .sh))))
  dss_nil)
  (dss_one (ds_ret (de_cb (m := .sh) (b_all rfl) m_all (da_cons (DE.fz (de_lc (io' := [0, 1, 3, 4]) [("key", 2)] rfl sc__law_same.nd (di_seq (dv 1)) (blkOk_by (N := N__law_same) (sc := defScope s__law_same) (by decide +kernel)) (fun _ _ _ _ _ => (dg_name 2 sc__law_same.nd)) (fun _ _ _ _ _ => dts_nil) (fun _ _ _ _ _ => (de_call c__law_same hr (da_cons (de_ix (dv 0) (dv 2)) (da_cons (de_ix (dv 1) (dv 2)) da_nil)))))) da_nil)))))
  dss_nil)
  (dss_cons (ds_if (dt_tr (de_cb (m := .sh) (b_isi .list) m_isinstance (da_cons (dv 1) (da_cons (de_ty (m := .sh) m_list) da_nil))))
  (dss_one (ds_asg (de_cb (m := .sh) (b_isi .list) m_isinstance (da_cons (dv 0) (da_cons (de_ty (m := .sh) m_list) da_nil))) (dg_name 3 sc__law_same.nd)))
  (dss_one (ds_asg (de_cb (m := .sh) (b_isi .tuple) m_isinstance (da_cons (dv 0) (da_cons (de_ty (m := .sh) m_tuple) da_nil))) (dg_name 3 sc__law_same.nd))))
  (dss_one (ds_ret (de_and (dv 3) (de_and (de_cmp (m := .sh) (o_eq hr) (de_cb (m := .sh) b_len m_len (da_cons (dv 0) da_nil)) (de_cb (m := .sh) b_len m_len (da_cons (dv 1) da_nil)) (nomark _)) (de_one (de_cb (m := .sh) (b_all rfl) m_all (da_cons (DE.fz (de_lc (io' := [0, 1, 2, 3]) [("at", 4)] rfl sc__law_same.nd (di_range1 m_range (da_cons (de_cb (m := .sh) b_len m_len (da_cons (dv 1) da_nil)) da_nil)) (blkOk_by (N := N__law_same) (sc := defScope s__law_same) (by decide +kernel)) (fun _ _ _ _ _ => (dg_name 4 sc__law_same.nd)) (fun _ _ _ _ _ => dts_nil) (fun _ _ _ _ _ => (de_call c__law_same hr (da_cons (de_ix (dv 0) (dv 4)) (da_cons (de_ix (dv 1) (dv 4)) da_nil)))))) da_nil)))))))))))))⟩
abbrev s_colour_of : Stmt := top 7
abbrev N_colour_of : List Str := ["plates", "level"]
theorem sc_colour_of : FnScope N_colour_of ["plates"] (defScope s_colour_of) := ⟨rfl, rfl, rfl, by decide +kernel, rfl, by decide +kernel, by decide +kernel⟩
def b_colour_of_20  : Mr Fl :=
  (bnd (mCall bTuple (mCons (mLc (bnd (bnd (mPair (mVar 0) (mPair (ret none) (bnd (ret (.int 3)) fun d => lft (dPart d)))) fun p => lft (dSl p.1 p.2.1 p.2.2)) fun d => lft (dItems d)) [1] (gtName 1) (ret true) (mOp dSub (ret (.int 255)) (mCall bMin (mCons (ret (.int 255)) (mCons (mOp dAdd (mVar 1) (mOp dIx (mVar 0) (ret (.int 3)))) mNil))))) mNil)) fun d => ret (.rt d))
def b_colour_of  : Mr Fl :=
  (b_colour_of_20)
def F_colour_of : List D → Option (Rs D) := bodyF0 2 [] b_colour_of
theorem ok_colour_of {P : Program} {w : World} {K : PySem.W.Frag} {mg : Str → Option Value} {base : Heap} {f : Addr} {fd : FuncData} {k : Nat} (F : Fun K "colour_of" "colour_of" s_colour_of f fd) (m_TOP : ∃ t, mg "TOP" = some (.int 255 t)) (m_min : mg "min" = none) (m_tuple : mg "tuple" = none) :
    FnOk P w K mg base CX0 (k + 1) f fd ["plates"] (spD K [.sh] .sh (bodyF0 2 [] (b_colour_of))) :=
  fn_ok (N := N_colour_of) (Γ := [.sh, .sh]) F sc_colour_of rfl rfl rfl fun cdv A outer s H E hr => ⟨_, (dss_one (ds_ret (DE.fz (de_ct (m := (.own .sh)) b_tuple m_tuple (da_cons (DE.fz (de_lc (io' := [0]) [("level", 1)] rfl sc_colour_of.nd (di_seq (DE.fz (de_sl (dv 0) do_none (do_some (de_int (m := .sh)))))) (blkOk_by (N := N_colour_of) (sc := defScope s_colour_of) (by decide +kernel)) (fun _ _ _ _ _ => (dg_name 1 sc_colour_of.nd)) (fun _ _ _ _ _ => dts_nil) (fun _ _ _ _ _ => (de_op (m := .sh) o_sub (de_gi 255 m_TOP) (de_cb (m := .sh) (b_min rfl) m_min (da_cons (de_gi 255 m_TOP) (da_cons (DE.fz (de_op (m := (.own .sh)) o_add (dv 1) (de_ix (dv 0) (de_int (m := .sh))))) da_nil))))))) da_nil)))))⟩
abbrev s_least_ink : Stmt := top 8
abbrev N_least_ink : List Str := ["colour", "most", "shades", "level", "black", "shade"]
theorem sc_least_ink : FnScope N_least_ink ["colour", "most"] (defScope s_least_ink) := ⟨rfl, rfl, rfl, by decide +kernel, rfl, by decide +kernel, by decide +kernel⟩
def b_least_ink_22  : Mr Fl :=
  (mAsg (mLc (bnd (mVar 0) fun d => lft (dItems d)) [3] (gtName 3) (ret true) (mOp dSub (ret (.int 255)) (mVar 3))) (gtName 2))
def b_least_ink_25  : Mr Fl :=
  (bnd (mCall bTuple (mCons (mOp dAdd (mLc (bnd (mVar 2) fun d => lft (dItems d)) [5] (gtName 5) (ret true) (mOp dSub (mVar 5) (mVar 4))) (bnd (mCons (mVar 4) mNil) fun ds => lft (dLst ds))) mNil)) fun d => ret (.rt d))
def b_least_ink_24  : Mr Fl :=
  (mIf (bnd (mOp dLe (mOp dSub (mCall bSum (mCons (mVar 2) mNil)) (mOp dMul (ret (.int 2)) (mVar 4))) (mVar 1)) fun d => lft (dBool d))
  (b_least_ink_25)
  mSkip)
def b_least_ink_23  : Mr Fl :=
  (mFor (mRng (mCons (mOp dAdd (mCall bMin (mCons (mVar 2) mNil)) (ret (.int 1))) mNil)) (gtName 4)
  (b_least_ink_24))
def b_least_ink_26  : Mr Fl :=
  (bnd (ret .non) fun d => ret (.rt d))
def b_least_ink  : Mr Fl :=
  (mSeq (b_least_ink_22)
  (mSeq (b_least_ink_23)
  (b_least_ink_26)))
def F_least_ink : List D → Option (Rs D) := bodyF0 6 [] b_least_ink
theorem ok_least_ink {P : Program} {w : World} {K : PySem.W.Frag} {mg : Str → Option Value} {base : Heap} {f : Addr} {fd : FuncData} {k : Nat} (F : Fun K "least_ink" "least_ink" s_least_ink f fd) (m_TOP : ∃ t, mg "TOP" = some (.int 255 t)) (m_min : mg "min" = none) (m_range : mg "range" = none) (m_sum : mg "sum" = none) (m_tuple : mg "tuple" = none) :
    FnOk P w K mg base CX0 (k + 1) f fd ["colour", "most"] (spD K [.sh, .sh] .sh (bodyF0 6 [] (b_least_ink))) :=
  fn_ok (N := N_least_ink) (Γ := [.sh, .sh, .sh, .sh, .sh, .sh]) F sc_least_ink rfl rfl rfl fun cdv A outer s H E hr => ⟨_, (dss_cons (ds_setLcS 2 (io' := [0, 1, 2, 4, 5]) [("level", 3)] rfl sc_least_ink.nd (di_seq (dv 0)) (blkOk_by (N := N_least_ink) (sc := defScope s_least_ink) (by decide +kernel)) (fun _ _ _ _ _ => (dg_name 3 sc_least_ink.nd)) (fun _ _ _ _ _ => dts_nil) (fun _ _ _ _ _ => (de_op (m := .sh) o_sub (de_gi 255 m_TOP) (dv 3))) (sw_true rfl rfl rfl (by decide +kernel)))
  (dss_cons (ds_for PassesOwn.never rfl (di_range1 m_range (da_cons (DE.fz (de_op (m := (.own .sh)) o_add (de_cb (m := .sh) (b_min rfl) m_min (da_cons (dv 2) da_nil)) (de_int (m := .sh)))) da_nil)) (dg_name 4 sc_least_ink.nd)
  (dss_one (ds_if (dt_cmp o_le (de_op (m := .sh) o_sub (de_cb (m := .sh) (b_sum rfl) m_sum (da_cons (dv 2) da_nil)) (DE.fz (de_op (m := (.own .sh)) o_mul (de_int (m := .sh)) (dv 4)))) (dv 1) (nomark _))
  (dss_one (ds_ret (DE.fz (de_ct (m := (.own .sh)) b_tuple m_tuple (da_cons (DE.fz (de_op (m := (.own .sh)) o_add (DE.fz (de_lc (io' := [0, 1, 2, 3, 4]) [("shade", 5)] rfl sc_least_ink.nd (di_seq (dv 2)) (blkOk_by (N := N_least_ink) (sc := defScope s_least_ink) (by decide +kernel)) (fun _ _ _ _ _ => (dg_name 5 sc_least_ink.nd)) (fun _ _ _ _ _ => dts_nil) (fun _ _ _ _ _ => (de_op (m := .sh) o_sub (dv 5) (dv 4))))) (DE.fz (de_lst (m := .sh) (da_cons (dv 4) da_nil))))) da_nil)))))
  dss_nil)))
  (dss_one (ds_ret (de_non (m := .sh))))))⟩
abbrev s_composed : Stmt := top 11
abbrev N_composed : List Str := ["one", "other", "level"]
theorem sc_composed : FnScope N_composed ["one", "other"] (defScope s_composed) := ⟨rfl, rfl, rfl, by decide +kernel, rfl, by decide +kernel, by decide +kernel⟩
def b_composed_50  : Mr Fl :=
  (bnd (mLc (bnd (mVar 1) fun d => lft (dItems d)) [2] (gtName 2) (ret true) (mOp dIx (mVar 0) (mVar 2))) fun d => ret (.rt d))
def b_composed  : Mr Fl :=
  (b_composed_50)
def F_composed : List D → Option (Rs D) := bodyF0 3 [] b_composed
theorem ok_composed {P : Program} {w : World} {K : PySem.W.Frag} {mg : Str → Option Value} {base : Heap} {f : Addr} {fd : FuncData} {k : Nat} (F : Fun K "composed" "composed" s_composed f fd)  :
    FnOk P w K mg base CX0 (k + 1) f fd ["one", "other"] (spD K [.sh, .sh] .sh (bodyF0 3 [] (b_composed))) :=
  fn_ok (N := N_composed) (Γ := [.sh, .sh, .sh]) F sc_composed rfl rfl rfl fun cdv A outer s H E hr => ⟨_, (dss_one (ds_ret (DE.fz (de_lc (io' := [0, 1]) [("level", 2)] rfl sc_composed.nd (di_seq (dv 1)) (blkOk_by (N := N_composed) (sc := defScope s_composed) (by decide +kernel)) (fun _ _ _ _ _ => (dg_name 2 sc_composed.nd)) (fun _ _ _ _ _ => dts_nil) (fun _ _ _ _ _ => (de_ix (dv 0) (dv 2)))))))⟩
abbrev s__law_whole : Stmt := top 17
abbrev N__law_whole : List Str := ["thing"]
theorem sc__law_whole : FnScope N__law_whole ["thing"] (defScope s__law_whole) := ⟨rfl, rfl, rfl, by decide +kernel, rfl, by decide +kernel, by decide +kernel⟩
def b__law_whole_94  : Mr Fl :=
  (bnd (mAndV (mCall (bIsi .int) (mCons (mVar 0) (mCons (ret (.val (.ty "int"))) mNil))) (mNotV (mCall (bIsi .bool) (mCons (mVar 0) (mCons (ret (.val (.ty "bool"))) mNil))))) fun d => ret (.rt d))
def b__law_whole  : Mr Fl :=
  (b__law_whole_94)
def F__law_whole : List D → Option (Rs D) := bodyF0 1 [] b__law_whole
theorem ok__law_whole {P : Program} {w : World} {K : PySem.W.Frag} {mg : Str → Option Value} {base : Heap} {f : Addr} {fd : FuncData} {k : Nat} (F : Fun K "_law_whole" "_law_whole" s__law_whole f fd) (m_isinstance : mg "isinstance" = none) (m_int : mg "int" = none) (m_bool : mg "bool" = none) :
    FnOk P w K mg base CX0 (k + 1) f fd ["thing"] (spD K [.sh] .sh (bodyF0 1 [] (b__law_whole))) :=
  fn_ok (N := N__law_whole) (Γ := [.sh]) F sc__law_whole rfl rfl rfl fun cdv A outer s H E hr => ⟨_, (dss_one (ds_ret (de_and (de_cb (m := .sh) (b_isi .int) m_isinstance (da_cons (dv 0) (da_cons (de_ty (m := .sh) m_int) da_nil))) (de_one (de_not (m := .sh) (de_cb (m := .sh) (b_isi .bool) m_isinstance (da_cons (dv 0) (da_cons (de_ty (m := .sh) m_bool) da_nil))))))))⟩
abbrev s_check_curve : Stmt := top 9
abbrev N_check_curve : List Str := ["curve", "at", "level"]
theorem sc_check_curve : FnScope N_check_curve ["curve"] (defScope s_check_curve) := ⟨rfl, rfl, rfl, by decide +kernel, rfl, by decide +kernel, by decide +kernel⟩
def b_check_curve_29  : Mr Fl :=
  (mRaise "PackWrong" "PackWrong" (mCons (ret .non) mNil))
def b_check_curve_28  : Mr Fl :=
  (mIf (bnd (mOp dNe (mCall bLen (mCons (mVar 0) mNil)) (mOp dAdd (ret (.int 255)) (ret (.int 1)))) fun d => lft (dBool d))
  (b_check_curve_29)
  mSkip)
def b_check_curve_31  : Mr Fl :=
  (mAsg (mOp dIx (mVar 0) (mVar 1)) (gtName 2))
def b_check_curve_33  : Mr Fl :=
  (mRaise "PackWrong" "PackWrong" (mCons (mVar 1) mNil))
def b_check_curve_32  : Mr Fl :=
  (mIf (mOr (mNot (bnd (mCall (bIsi .int) (mCons (mVar 2) (mCons (ret (.val (.ty "int"))) mNil))) fun d => lft (dTr d))) (mOr (bnd (mCall (bIsi .bool) (mCons (mVar 2) (mCons (ret (.val (.ty "bool"))) mNil))) fun d => lft (dTr d)) (mNot (bnd (mChain dLe dLe (ret (.int 0)) (mVar 2) (ret (.int 255))) fun d => lft (dBool d)))))
  (b_check_curve_33)
  mSkip)
def b_check_curve_35  : Mr Fl :=
  (mRaise "PackWrong" "PackWrong" (mCons (mVar 1) mNil))
def b_check_curve_34  : Mr Fl :=
  (mIf (mAnd (bnd (mOp dGt (mVar 1) (ret (.int 0))) fun d => lft (dBool d)) (bnd (mOp dLt (mVar 2) (mOp dIx (mVar 0) (mOp dSub (mVar 1) (ret (.int 1))))) fun d => lft (dBool d)))
  (b_check_curve_35)
  mSkip)
def b_check_curve_30  : Mr Fl :=
  (mFor (mRng (mCons (mCall bLen (mCons (mVar 0) mNil)) mNil)) (gtName 1)
  (mSeq (b_check_curve_31)
  (mSeq (b_check_curve_32)
  (b_check_curve_34))))
def b_check_curve  : Mr Fl :=
  (mSeq (b_check_curve_28)
  (b_check_curve_30))
def F_check_curve : List D → Option (Rs D) := bodyF 3 [] b_check_curve
theorem ok_check_curve {P : Program} {w : World} {K : PySem.W.Frag} {mg : Str → Option Value} {base : Heap} {f : Addr} {fd : FuncData} {k : Nat} (F : Fun K "check_curve" "check_curve" s_check_curve f fd) (m_len : mg "len" = none) (m_TOP : ∃ t, mg "TOP" = some (.int 255 t)) (m_range : mg "range" = none) (m_isinstance : mg "isinstance" = none) (m_int : mg "int" = none) (m_bool : mg "bool" = none) {C_PackWrong : Addr} (x_PackWrong : Xc P K mg C_PackWrong "PackWrong") :
    FnOk P w K mg base (L2.CX P w) (k + 1) f fd ["curve"] (spD K [.sh] .sh (bodyF 3 [] (b_check_curve))) :=
  fn_okX (N := N_check_curve) (Γ := [.sh, .sh, .sh]) F sc_check_curve rfl rfl rfl fun cdv A outer s H E hr tk po => ⟨_, (dss_cons (ds_if (dt_cmp (o_ne hr) (de_cb (m := .sh) b_len m_len (da_cons (dv 0) da_nil)) (DE.fz (de_op (m := (.own .sh)) o_add (de_gi 255 m_TOP) (de_int (m := .sh)))) (nomark _))
  (dss_one (ds_raise x_PackWrong.G tk hr x_PackWrong.s x_PackWrong.T.nm (da_cons (de_non (m := .sh)) da_nil) (hm := x_PackWrong.m)))
  dss_nil)
  (dss_one (ds_for po rfl (di_range1 m_range (da_cons (de_cb (m := .sh) b_len m_len (da_cons (dv 0) da_nil)) da_nil)) (dg_name 1 sc_check_curve.nd)
  (dss_cons (ds_asg (de_ix (dv 0) (dv 1)) (dg_name 2 sc_check_curve.nd))
  (dss_cons (ds_if (DW.dt (dw_or (dt_not (dt_tr (de_cb (m := .sh) (b_isi .int) m_isinstance (da_cons (dv 2) (da_cons (de_ty (m := .sh) m_int) da_nil))))) (dw_or (dt_tr (de_cb (m := .sh) (b_isi .bool) m_isinstance (da_cons (dv 2) (da_cons (de_ty (m := .sh) m_bool) da_nil)))) (dw_or1 (dt_not (dt_chain o_le o_le (de_int (m := .sh)) (dv 2) (de_gi 255 m_TOP)))))))
  (dss_one (ds_raise x_PackWrong.G tk hr x_PackWrong.s x_PackWrong.T.nm (da_cons (dv 1) da_nil) (hm := x_PackWrong.m)))
  dss_nil)
  (dss_one (ds_if (DW.dt (dw_and (dt_cmp o_gt (dv 1) (de_int (m := .sh)) (nomark _)) (dw_and1 (dt_cmp o_lt (dv 2) (de_ix (dv 0) (de_op (m := .sh) o_sub (dv 1) (de_int (m := .sh)))) (nomark _)))))
  (dss_one (ds_raise x_PackWrong.G tk hr x_PackWrong.s x_PackWrong.T.nm (da_cons (dv 1) da_nil) (hm := x_PackWrong.m)))
  dss_nil)))))))⟩
abbrev s__law_told : Stmt := top 18
abbrev N__law_told : List Str := ["curve", "e"]
theorem sc__law_told : FnScope N__law_told ["curve"] (defScope s__law_told) := ⟨rfl, rfl, rfl, by decide +kernel, rfl, by decide +kernel, by decide +kernel⟩
def b__law_told_97  : Mr Fl :=
  (bnd (bnd (mCons (ret (.str "told")) (mCons (mClX [.v .sh] F_check_curve (mCons (mVar 0) mNil)) mNil)) fun ds => lft (dTup ds)) fun d => ret (.rt d))
def b__law_told_96  : Mr Fl :=
  (mTry "PackWrong"
  (b__law_told_97) (fun d => .tup [.str "wrong", d]))
def b__law_told  : Mr Fl :=
  (b__law_told_96)
def F__law_told : List D → Option (Rs D) := bodyF0 2 [] b__law_told
theorem ok__law_told {P : Program} {w : World} {K : PySem.W.Frag} {mg : Str → Option Value} {base : Heap} {f : Addr} {fd : FuncData} {k : Nat} (F : Fun K "_law_told" "_law_told" s__law_told f fd) (c_check_curve : Cl P w K mg base (L2.CX P w) k "check_curve" [.sh] .sh F_check_curve) {C_PackWrong : Addr} (x_PackWrong : Xc P K mg C_PackWrong "PackWrong") :
    FnOk P w K mg base CX0 (k + 1) f fd ["curve"] (spD K [.sh] .sh (bodyF0 2 [] (b__law_told))) :=
  fn_ok (N := N__law_told) (Γ := [.sh, .sh]) F sc__law_told rfl rfl rfl fun cdv A outer s H E hr => ⟨_, (dss_one (ds_tryT x_PackWrong.T (i := 1) sc__law_told.nd x_PackWrong.m _ (fun _ _ _ _ => False) takes0 fun W pn xe tk =>
  (dss_one (ds_ret (DE.fz (de_tup (m := .sh) (da_cons (de_str (m := .sh)) (da_cons (de_callX tk c_check_curve hr (da_cons (dv 0) da_nil)) da_nil))))))))⟩
abbrev s__law_wrong : Stmt := top 19
abbrev N__law_wrong : List Str := ["curve", "k"]
theorem sc__law_wrong : FnScope N__law_wrong ["curve"] (defScope s__law_wrong) := ⟨rfl, rfl, rfl, by decide +kernel, rfl, by decide +kernel, by decide +kernel⟩
def b__law_wrong_102  : Mr Fl :=
  (bnd (bnd (mCons (ret (.str "wrong")) (mCons (ret .non) mNil)) fun ds => lft (dTup ds)) fun d => ret (.rt d))
def b__law_wrong_101  : Mr Fl :=
  (mIf (bnd (mOp dNe (mCall bLen (mCons (mVar 0) mNil)) (ret (.int 256))) fun d => lft (dBool d))
  (b__law_wrong_102)
  mSkip)
def b__law_wrong_105  : Mr Fl :=
  (bnd (bnd (mCons (ret (.str "wrong")) (mCons (mVar 1) mNil)) fun ds => lft (dTup ds)) fun d => ret (.rt d))
def b__law_wrong_104  : Mr Fl :=
  (mIf (mOr (mNot (bnd (mCl0 [.v .sh] F__law_whole (mCons (mOp dIx (mVar 0) (mVar 1)) mNil)) fun d => lft (dTr d))) (mOr (mNot (bnd (mChain dLe dLe (ret (.int 0)) (mOp dIx (mVar 0) (mVar 1)) (ret (.int 255))) fun d => lft (dBool d))) (mAnd (bnd (mOp dGt (mVar 1) (ret (.int 0))) fun d => lft (dBool d)) (bnd (mOp dLt (mOp dIx (mVar 0) (mVar 1)) (mOp dIx (mVar 0) (mOp dSub (mVar 1) (ret (.int 1))))) fun d => lft (dBool d)))))
  (b__law_wrong_105)
  mSkip)
def b__law_wrong_103  : Mr Fl :=
  (mFor (mRng (mCons (ret (.int 256)) mNil)) (gtName 1)
  (b__law_wrong_104))
def b__law_wrong_106  : Mr Fl :=
  (bnd (bnd (mCons (ret (.str "told")) (mCons (ret .non) mNil)) fun ds => lft (dTup ds)) fun d => ret (.rt d))
def b__law_wrong  : Mr Fl :=
  (mSeq (b__law_wrong_101)
  (mSeq (b__law_wrong_103)
  (b__law_wrong_106)))
def F__law_wrong : List D → Option (Rs D) := bodyF0 2 [] b__law_wrong
theorem ok__law_wrong {P : Program} {w : World} {K : PySem.W.Frag} {mg : Str → Option Value} {base : Heap} {f : Addr} {fd : FuncData} {k : Nat} (F : Fun K "_law_wrong" "_law_wrong" s__law_wrong f fd) (c__law_whole : Cl P w K mg base CX0 k "_law_whole" [.sh] .sh F__law_whole) (m_len : mg "len" = none) (m_range : mg "range" = none) :
    FnOk P w K mg base CX0 (k + 1) f fd ["curve"] (spD K [.sh] .sh (bodyF0 2 [] (b__law_wrong))) :=
  fn_ok (N := N__law_wrong) (Γ := [.sh, .sh]) F sc__law_wrong rfl rfl rfl fun cdv A outer s H E hr => ⟨_, (dss_cons (ds_if (dt_cmp (o_ne hr) (de_cb (m := .sh) b_len m_len (da_cons (dv 0) da_nil)) (de_int (m := .sh)) (nomark _))
  (dss_one (ds_ret (DE.fz (de_tup (m := .sh) (da_cons (de_str (m := .sh)) (da_cons (de_non (m := .sh)) da_nil))))))
  dss_nil)
  (dss_cons (ds_for PassesOwn.never rfl (di_range1 m_range (da_cons (de_int (m := .sh)) da_nil)) (dg_name 1 sc__law_wrong.nd)
  (dss_one (ds_if (DW.dt (dw_or (dt_not (dt_tr (de_call c__law_whole hr (da_cons (de_ix (dv 0) (dv 1)) da_nil)))) (dw_or (dt_not (dt_chain o_le o_le (de_int (m := .sh)) (de_ix (dv 0) (dv 1)) (de_int (m := .sh)))) (dw_or1 (DW.dt (dw_and (dt_cmp o_gt (dv 1) (de_int (m := .sh)) (nomark _)) (dw_and1 (dt_cmp o_lt (de_ix (dv 0) (dv 1)) (de_ix (dv 0) (de_op (m := .sh) o_sub (dv 1) (de_int (m := .sh)))) (nomark _)))))))))
  (dss_one (ds_ret (DE.fz (de_tup (m := .sh) (da_cons (de_str (m := .sh)) (da_cons (dv 1) da_nil))))))
  dss_nil)))
  (dss_one (ds_ret (DE.fz (de_tup (m := .sh) (da_cons (de_str (m := .sh)) (da_cons (de_non (m := .sh)) da_nil))))))))⟩
abbrev s_law : Stmt := top 22
abbrev N_law : List Str := ["script", "draws", "turn", "colour", "below", "above", "shades", "level", "black", "plates", "any_plates", "k", "most", "some", "due", "one", "other", "back", "x", "y", "bent", "at", "firsts", "points", "first", "told", "a", "b", "c", "d"]
theorem sc_law : FnScope N_law ["script"] (defScope s_law) := ⟨rfl, rfl, rfl, by decide +kernel, rfl, by decide +kernel, by decide +kernel⟩
def b_law_118  : Mr Fl :=
  (mAsg (mCl0 [.v .sh] F__law_draws (mCons (mVar 0) mNil)) (gtName 1))
def b_law_120  : Mr Fl :=
  (mAsg (mCl0 [.io 1] F__law_colour (mCons (mMov 1) mNil)) (gtName 3))
def b_law_121  : Mr Fl :=
  (mAsg (mOp dAdd (ret (.int 1)) (mCl0 [.io 1, .v .sh] F__law_draw (mCons (mMov 1) (mCons (ret (.int 9)) mNil)))) (gtName 4))
def b_law_122  : Mr Fl :=
  (mAsg (mCl0 [.io 1, .v .sh] F__law_draw (mCons (mMov 1) (mCons (mOp dAdd (mVar 4) (ret (.int 1))) mNil))) (gtName 5))
def b_law_123  : Mr Fl :=
  (mAsg (mLc (bnd (mVar 3) fun d => lft (dItems d)) [7] (gtName 7) (ret true) (mOp dSub (ret (.int 255)) (mVar 7))) (gtName 6))
def b_law_124  : Mr Fl :=
  (mAsg (mOp dFdiv (mOp dMul (mCall bMin (mCons (mVar 6) mNil)) (mVar 5)) (mVar 4)) (gtName 8))
def b_law_125  : Mr Fl :=
  (mAsg (mCl0 [.v .sh, .v .sh, .v .sh] F_plates_of (mCons (mVar 3) (mCons (mVar 5) (mCons (mVar 4) mNil)))) (gtName 9))
def b_law_127  : Mr Fl :=
  (bnd (ret (.bl false)) fun d => ret (.rt d))
def b_law_126  : Mr Fl :=
  (mIf (mNot (bnd (mCl0 [.v .sh, .v .sh] (F__law_same 9) (mCons (bnd (mCons (mVar 9) (mCons (mCl0 [.v .sh] F_colour_of (mCons (mVar 9) mNil)) mNil)) fun ds => lft (dLst ds)) (mCons (bnd (mCons (bnd (mCons (mOp dSub (mOp dIx (mVar 6) (ret (.int 0))) (mVar 8)) (mCons (mOp dSub (mOp dIx (mVar 6) (ret (.int 1))) (mVar 8)) (mCons (mOp dSub (mOp dIx (mVar 6) (ret (.int 2))) (mVar 8)) (mCons (mVar 8) mNil)))) fun ds => lft (dTup ds)) (mCons (mVar 3) mNil)) fun ds => lft (dLst ds)) mNil))) fun d => lft (dTr d)))
  (b_law_127)
  mSkip)
def b_law_128  : Mr Fl :=
  (mAsg (mCall bTuple (mCons (mLc (mRng (mCons (ret (.int 4)) mNil)) [11] (gtName 11) (ret true) (mCl0 [.io 1, .v .sh] F__law_draw (mCons (mMov 1) (mCons (ret (.int 256)) mNil)))) mNil)) (gtName 10))
def b_law_130  : Mr Fl :=
  (bnd (ret (.bl false)) fun d => ret (.rt d))
def b_law_129  : Mr Fl :=
  (mIf (mNot (bnd (mCl0 [.v .sh, .v .sh] (F__law_same 9) (mCons (mCl0 [.v .sh] F_colour_of (mCons (mVar 10) mNil)) (mCons (mCall bTuple (mCons (mLc (bnd (bnd (mPair (mVar 10) (mPair (ret none) (bnd (ret (.int 3)) fun d => lft (dPart d)))) fun p => lft (dSl p.1 p.2.1 p.2.2)) fun d => lft (dItems d)) [7] (gtName 7) (ret true) (mCall bMax (mCons (ret (.int 0)) (mCons (mOp dSub (mOp dSub (ret (.int 255)) (mVar 7)) (mOp dIx (mVar 10) (ret (.int 3)))) mNil)))) mNil)) mNil))) fun d => lft (dTr d)))
  (b_law_130)
  mSkip)
def b_law_131  : Mr Fl :=
  (mAsg (mCl0 [.io 1, .v .sh] F__law_draw (mCons (mMov 1) (mCons (ret (.int 800)) mNil))) (gtName 12))
def b_law_132  : Mr Fl :=
  (mAsg (mLc (mRng (mCons (mOp dAdd (mCall bMin (mCons (mVar 6) mNil)) (ret (.int 1))) mNil)) [11] (gtName 11) (bnd (mOp dLe (mOp dAdd (mOp dSub (mCall bSum (mCons (mVar 6) mNil)) (mOp dMul (ret (.int 3)) (mVar 11))) (mVar 11)) (mVar 12)) fun d => lft (dBool d)) (mVar 11)) (gtName 13))
def b_law_133  : Mr Fl :=
  (mAsg (mIf (bnd (mOp dEq (mCall bLen (mCons (mVar 13) mNil)) (ret (.int 0))) fun d => lft (dBool d)) (ret .non) (bnd (mCons (mOp dSub (mOp dIx (mVar 6) (ret (.int 0))) (mOp dIx (mVar 13) (ret (.int 0)))) (mCons (mOp dSub (mOp dIx (mVar 6) (ret (.int 1))) (mOp dIx (mVar 13) (ret (.int 0)))) (mCons (mOp dSub (mOp dIx (mVar 6) (ret (.int 2))) (mOp dIx (mVar 13) (ret (.int 0)))) (mCons (mOp dIx (mVar 13) (ret (.int 0))) mNil)))) fun ds => lft (dTup ds))) (gtName 14))
def b_law_135  : Mr Fl :=
  (bnd (ret (.bl false)) fun d => ret (.rt d))
def b_law_134  : Mr Fl :=
  (mIf (mNot (bnd (mCl0 [.v .sh, .v .sh] (F__law_same 9) (mCons (mCl0 [.v .sh, .v .sh] F_least_ink (mCons (mVar 3) (mCons (mVar 12) mNil))) (mCons (mVar 14) mNil))) fun d => lft (dTr d)))
  (b_law_135)
  mSkip)
def b_law_119  : Mr Fl :=
  (mFor (mRng (mCons (ret (.int 8)) mNil)) (gtName 2)
  (mSeq (b_law_120)
  (mSeq (b_law_121)
  (mSeq (b_law_122)
  (mSeq (b_law_123)
  (mSeq (b_law_124)
  (mSeq (b_law_125)
  (mSeq (b_law_126)
  (mSeq (b_law_128)
  (mSeq (b_law_129)
  (mSeq (b_law_131)
  (mSeq (b_law_132)
  (mSeq (b_law_133)
  (b_law_134))))))))))))))
def b_law_136  : Mr Fl :=
  (mAsg (bnd (mCons (mCl0 [.io 1] F__law_curve (mCons (mMov 1) mNil)) (mCons (mCl0 [.io 1] F__law_curve (mCons (mMov 1) mNil)) mNil)) fun ds => lft (dTup ds)) (gtTup 2 (gtCons (gtName 15) (gtCons (gtName 16) gtNil))))
def b_law_137  : Mr Fl :=
  (mAsg (mCl0 [.v .sh] F_back_curve (mCons (mCall bList (mCons (mVar 15) mNil)) mNil)) (gtName 17))
def b_law_139  : Mr Fl :=
  (bnd (ret (.bl false)) fun d => ret (.rt d))
def b_law_138  : Mr Fl :=
  (mIf (mNot (bnd (mCl0 [.v .sh, .v .sh] (F__law_same 9) (mCons (bnd (mCons (mCl0 [.v .sh, .v .sh] F_composed (mCons (mVar 15) (mCons (mVar 16) mNil))) (mCons (mCall bLen (mCons (mVar 17) mNil)) mNil)) fun ds => lft (dLst ds)) (mCons (bnd (mCons (mLc (mRng (mCons (ret (.int 256)) mNil)) [11] (gtName 11) (ret true) (mOp dIx (mVar 15) (mOp dIx (mVar 16) (mVar 11)))) (mCons (ret (.int 256)) mNil)) fun ds => lft (dLst ds)) mNil))) fun d => lft (dTr d)))
  (b_law_139)
  mSkip)
def b_law_141  : Mr Fl :=
  (mPar 18 19 (mCons (mCl0 [.io 1, .v .sh] F__law_draw (mCons (mMov 1) (mCons (ret (.int 256)) mNil))) (mCons (mCl0 [.io 1, .v .sh] F__law_draw (mCons (mMov 1) (mCons (ret (.int 256)) mNil))) mNil)))
def b_law_143  : Mr Fl :=
  (bnd (ret (.bl false)) fun d => ret (.rt d))
def b_law_142  : Mr Fl :=
  (mIf (mOr (mNot (bnd (mCl0 [.v .sh] F__law_whole (mCons (mOp dIx (mVar 17) (mVar 19)) mNil)) fun d => lft (dTr d))) (bnd (mOp dNe (mOp dLe (mOp dIx (mVar 17) (mVar 19)) (mVar 18)) (mOp dLe (mVar 19) (mOp dIx (mVar 15) (mVar 18)))) fun d => lft (dBool d)))
  (b_law_143)
  mSkip)
def b_law_140  : Mr Fl :=
  (mFor (mRng (mCons (ret (.int 12)) mNil)) (gtName 11)
  (mSeq (b_law_141)
  (b_law_142)))
def b_law_145  : Mr Fl :=
  (mAsg (mCall bList (mCons (mVar 15) mNil)) (gtName 20))
def b_law_146  : Mr Fl :=
  (mAsg (mCl0 [.io 1, .v .sh] F__law_draw (mCons (mMov 1) (mCons (ret (.int 256)) mNil))) (gtName 21))
def b_law_147  : Mr Fl :=
  (mAsg (mOp dIx (bnd (mCons (ret (.int 256)) (mCons (mOp dSub (ret (.int 0)) (ret (.int 1))) (mCons (ret .non) (mCons (ret (.bl true)) (mCons (ret (.str "1")) (mCons (ret (.int 0)) (mCons (ret (.int 255)) mNil))))))) fun ds => lft (dLst ds)) (mCl0 [.io 1, .v .sh] F__law_draw (mCons (mMov 1) (mCons (ret (.int 7)) mNil)))) (gtSub 20 (bnd (mTk 20) fun d => ret (d, [])) (mVar 21)))
def b_law_148  : Mr Fl :=
  (mAsg (mOp dIx (bnd (mCons (mFz 20) (mCons (mVar 15) (mCons (bnd (mPair (mFz 20) (mPair (ret none) (bnd (mVar 21) fun d => lft (dPart d)))) fun p => lft (dSl p.1 p.2.1 p.2.2)) (mCons (mOp dAdd (mVar 15) (bnd (mCons (ret (.int 255)) mNil) fun ds => lft (dLst ds))) mNil)))) fun ds => lft (dLst ds)) (mCl0 [.io 1, .v .sh] F__law_draw (mCons (mMov 1) (mCons (ret (.int 4)) mNil)))) (gtShd 20))
def b_law_150  : Mr Fl :=
  (bnd (ret (.bl false)) fun d => ret (.rt d))
def b_law_149  : Mr Fl :=
  (mIf (mNot (bnd (mCl0 [.v .sh, .v .sh] (F__law_same 9) (mCons (mCl0 [.v .sh] F__law_told (mCons (mCall bList (mCons (mFz 20) mNil)) mNil)) (mCons (mCl0 [.v .sh] F__law_wrong (mCons (mFz 20) mNil)) mNil))) fun d => lft (dTr d)))
  (b_law_150)
  mSkip)
def b_law_144  : Mr Fl :=
  (mFor (mRng (mCons (ret (.int 4)) mNil)) (gtName 11)
  (mSeq (b_law_145)
  (mSeq (b_law_146)
  (mSeq (b_law_147)
  (mSeq (b_law_148)
  (b_law_149))))))
def b_law_151  : Mr Fl :=
  (mAsg (bnd (mLc (mRng (mCons (mOp dAdd (ret (.int 1)) (mCl0 [.io 1, .v .sh] F__law_draw (mCons (mMov 1) (mCons (ret (.int 5)) mNil)))) mNil)) [11] (gtName 11) (ret true) (mCl0 [.io 1, .v .sh] F__law_draw (mCons (mMov 1) (mCons (ret (.int 256)) mNil)))) fun d => lft (dSSet d)) (gtName 22))
def b_law_152  : Mr Fl :=
  (mAsg (mLc (bnd (mVar 22) fun d => lft (dItems d)) [24] (gtName 24) (ret true) (bnd (mCons (mVar 24) (mCons (mCl0 [.io 1, .v .sh] F__law_draw (mCons (mMov 1) (mCons (ret (.int 256)) mNil))) mNil)) fun ds => lft (dTup ds))) (gtName 23))
def b_law_153  : Mr Fl :=
  (mAsg (mCl0 [.v .sh] F_curve_through (mCons (mCall bList (mCons (mVar 23) mNil)) mNil)) (gtName 25))
def b_law_155  : Mr Fl :=
  (bnd (ret (.bl false)) fun d => ret (.rt d))
def b_law_154  : Mr Fl :=
  (mIf (bnd (mOp dNe (mCall bLen (mCons (mVar 25) mNil)) (ret (.int 256))) fun d => lft (dBool d))
  (b_law_155)
  mSkip)
def b_law_157  : Mr Fl :=
  (mAsg (mIf (bnd (mOp dLt (mVar 18) (mOp dIx (mOp dIx (mVar 23) (ret (.int 0))) (ret (.int 0)))) fun d => lft (dBool d)) (mOp dIx (mOp dIx (mVar 23) (ret (.int 0))) (ret (.int 1))) (mOp dIx (mOp dIx (mVar 23) (mUn dNeg (ret (.int 1)))) (ret (.int 1)))) (gtName 14))
def b_law_159  : Mr Fl :=
  (mAsg (bnd (mCons (mOp dIx (mVar 23) (mVar 11)) (mCons (mOp dIx (mVar 23) (mOp dAdd (mVar 11) (ret (.int 1)))) mNil)) fun ds => lft (dTup ds)) (gtTup 2 (gtCons (gtTup 2 (gtCons (gtName 26) (gtCons (gtName 27) gtNil))) (gtCons (gtTup 2 (gtCons (gtName 28) (gtCons (gtName 29) gtNil))) gtNil))))
def b_law_161  : Mr Fl :=
  (mAsg (mOp dFdiv (mOp dAdd (mOp dMul (mVar 27) (mOp dSub (mVar 28) (mVar 18))) (mOp dMul (mVar 29) (mOp dSub (mVar 18) (mVar 26)))) (mOp dSub (mVar 28) (mVar 26))) (gtName 14))
def b_law_160  : Mr Fl :=
  (mIf (bnd (mChain dLe dLt (mVar 26) (mVar 18) (mVar 28)) fun d => lft (dBool d))
  (b_law_161)
  mSkip)
def b_law_158  : Mr Fl :=
  (mFor (mRng (mCons (mOp dSub (mCall bLen (mCons (mVar 23) mNil)) (ret (.int 1))) mNil)) (gtName 11)
  (mSeq (b_law_159)
  (b_law_160)))
def b_law_163  : Mr Fl :=
  (bnd (ret (.bl false)) fun d => ret (.rt d))
def b_law_162  : Mr Fl :=
  (mIf (mNot (bnd (mCl0 [.v .sh, .v .sh] (F__law_same 9) (mCons (mOp dIx (mVar 25) (mVar 18)) (mCons (mVar 14) mNil))) fun d => lft (dTr d)))
  (b_law_163)
  mSkip)
def b_law_156  : Mr Fl :=
  (mFor (mRng (mCons (ret (.int 256)) mNil)) (gtName 18)
  (mSeq (b_law_157)
  (mSeq (b_law_158)
  (b_law_162))))
def b_law_164  : Mr Fl :=
  (bnd (ret (.bl true)) fun d => ret (.rt d))
def b_law  : Mr Fl :=
  (mSeq (b_law_118)
  (mSeq (b_law_119)
  (mSeq (b_law_136)
  (mSeq (b_law_137)
  (mSeq (b_law_138)
  (mSeq (b_law_140)
  (mSeq (b_law_144)
  (mSeq (b_law_151)
  (mSeq (b_law_152)
  (mSeq (b_law_153)
  (mSeq (b_law_154)
  (mSeq (b_law_156)
  (b_law_164)))))))))))))
def F_law : List D → Option (Rs D) := bodyF0 30 [] b_law
theorem ok_law {P : Program} {w : World} {K : PySem.W.Frag} {mg : Str → Option Value} {base : Heap} {f : Addr} {fd : FuncData} {k : Nat} (F : Fun K "law" "law" s_law f fd) (c__law_draws : Cl P w K mg base CX0 k "_law_draws" [.sh] (.own .sh) F__law_draws) (c__law_colour : Cl P w K mg base CX0 k "_law_colour" [(.own .sh)] .sh F__law_colour) (c__law_draw : Cl P w K mg base CX0 k "_law_draw" [(.own .sh), .sh] .sh F__law_draw) (c_plates_of : Cl P w K mg base CX0 k "plates_of" [.sh, .sh, .sh] .sh F_plates_of) (c__law_same : Cl P w K mg base CX0 k "_law_same" [.sh, .sh] .sh (F__law_same 9)) (c_colour_of : Cl P w K mg base CX0 k "colour_of" [.sh] .sh F_colour_of) (c_least_ink : Cl P w K mg base CX0 k "least_ink" [.sh, .sh] .sh F_least_ink) (c__law_curve : Cl P w K mg base CX0 k "_law_curve" [(.own .sh)] .sh F__law_curve) (c_back_curve : Cl P w K mg base CX0 k "back_curve" [.sh] .sh F_back_curve) (c_composed : Cl P w K mg base CX0 k "composed" [.sh, .sh] .sh F_composed) (c__law_whole : Cl P w K mg base CX0 k "_law_whole" [.sh] .sh F__law_whole) (c__law_told : Cl P w K mg base CX0 k "_law_told" [.sh] .sh F__law_told) (c__law_wrong : Cl P w K mg base CX0 k "_law_wrong" [.sh] .sh F__law_wrong) (c_curve_through : Cl P w K mg base CX0 k "curve_through" [.sh] .sh F_curve_through) (m_range : mg "range" = none) (m_min : mg "min" = none) (m_tuple : mg "tuple" = none) (m_max : mg "max" = none) (m_sum : mg "sum" = none) (m_len : mg "len" = none) (m_list : mg "list" = none) (m_sorted : mg "sorted" = none) (m_set : mg "set" = none) :
    FnOk P w K mg base CX0 (k + 1) f fd ["script"] (spD K [.sh] .sh (bodyF0 30 [] (b_law))) :=
  fn_ok (N := N_law) (Γ := [.sh, (.own .sh), .sh, .sh, .sh, .sh, .sh, .sh, .sh, .sh, .sh, .sh, .sh, .sh, .sh, .sh, .sh, .sh, .sh, .sh, (.own .sh), .sh, .sh, .sh, .sh, .sh, .sh, .sh, .sh, .sh]) F sc_law rfl rfl rfl fun cdv A outer s H E hr => ⟨_, (dss_cons (ds_asg (de_call c__law_draws hr (da_cons (dv 0) da_nil)) (dg_name 1 sc_law.nd))
  (dss_cons (ds_for PassesOwn.never rfl (di_range1 m_range (da_cons (de_int (m := .sh)) da_nil)) (dg_name 2 sc_law.nd)
  (dss_cons (ds_asg (de_call c__law_colour hr (da_io 1 da_nil)) (dg_name 3 sc_law.nd))
  (dss_cons (ds_asg (DE.fz (de_op (m := (.own .sh)) o_add (de_int (m := .sh)) (de_call c__law_draw hr (da_io 1 (da_cons (de_int (m := .sh)) da_nil))))) (dg_name 4 sc_law.nd))
  (dss_cons (ds_asg (de_call c__law_draw hr (da_io 1 (da_cons (DE.fz (de_op (m := (.own .sh)) o_add (dv 4) (de_int (m := .sh)))) da_nil))) (dg_name 5 sc_law.nd))
  (dss_cons (ds_asg (DE.fz (de_lc (io' := [0, 1, 2, 3, 4, 5, 6, 8, 9, 10, 11, 12, 13, 14, 15, 16, 17, 18, 19, 20, 21, 22, 23, 24, 25, 26, 27, 28, 29]) [("level", 7)] rfl sc_law.nd (di_seq (dv 3)) (blkOk_by (N := N_law) (sc := defScope s_law) (by decide +kernel)) (fun _ _ _ _ _ => (dg_name 7 sc_law.nd)) (fun _ _ _ _ _ => dts_nil) (fun _ _ _ _ _ => (de_op (m := .sh) o_sub (de_int (m := .sh)) (dv 7))))) (dg_name 6 sc_law.nd))
  (dss_cons (ds_asg (de_op (m := .sh) o_fdiv (DE.fz (de_op (m := (.own .sh)) o_mul (de_cb (m := .sh) (b_min rfl) m_min (da_cons (dv 6) da_nil)) (dv 5))) (dv 4)) (dg_name 8 sc_law.nd))
  (dss_cons (ds_asg (de_call c_plates_of hr (da_cons (dv 3) (da_cons (dv 5) (da_cons (dv 4) da_nil)))) (dg_name 9 sc_law.nd))
  (dss_cons (ds_if (dt_not (dt_tr (de_call c__law_same hr (da_cons (DE.fz (de_lst (m := .sh) (da_cons (dv 9) (da_cons (de_call c_colour_of hr (da_cons (dv 9) da_nil)) da_nil)))) (da_cons (DE.fz (de_lst (m := .sh) (da_cons (DE.fz (de_tup (m := .sh) (da_cons (de_op (m := .sh) o_sub (de_ix (dv 6) (de_int (m := .sh))) (dv 8)) (da_cons (de_op (m := .sh) o_sub (de_ix (dv 6) (de_int (m := .sh))) (dv 8)) (da_cons (de_op (m := .sh) o_sub (de_ix (dv 6) (de_int (m := .sh))) (dv 8)) (da_cons (dv 8) da_nil)))))) (da_cons (dv 3) da_nil)))) da_nil)))))
  (dss_one (ds_ret (de_bl (m := .sh))))
  dss_nil)
  (dss_cons (ds_asg (DE.fz (de_ct (m := (.own .sh)) b_tuple m_tuple (da_cons (DE.fz (de_lc (io' := [0, 1, 2, 3, 4, 5, 6, 7, 8, 9, 10, 12, 13, 14, 15, 16, 17, 18, 19, 20, 21, 22, 23, 24, 25, 26, 27, 28, 29]) [("k", 11)] rfl sc_law.nd (di_range1 m_range (da_cons (de_int (m := .sh)) da_nil)) (blkOk_by (N := N_law) (sc := defScope s_law) (by decide +kernel)) (fun _ _ _ _ _ => (dg_name 11 sc_law.nd)) (fun _ _ _ _ _ => dts_nil) (fun _ _ _ _ _ => (de_call c__law_draw hr (da_io 1 (da_cons (de_int (m := .sh)) da_nil)))))) da_nil))) (dg_name 10 sc_law.nd))
  (dss_cons (ds_if (dt_not (dt_tr (de_call c__law_same hr (da_cons (de_call c_colour_of hr (da_cons (dv 10) da_nil)) (da_cons (DE.fz (de_ct (m := (.own .sh)) b_tuple m_tuple (da_cons (DE.fz (de_lc (io' := [0, 1, 2, 3, 4, 5, 6, 8, 9, 10, 11, 12, 13, 14, 15, 16, 17, 18, 19, 20, 21, 22, 23, 24, 25, 26, 27, 28, 29]) [("level", 7)] rfl sc_law.nd (di_seq (DE.fz (de_sl (dv 10) do_none (do_some (de_int (m := .sh)))))) (blkOk_by (N := N_law) (sc := defScope s_law) (by decide +kernel)) (fun _ _ _ _ _ => (dg_name 7 sc_law.nd)) (fun _ _ _ _ _ => dts_nil) (fun _ _ _ _ _ => (de_cb (m := .sh) (b_max rfl) m_max (da_cons (de_int (m := .sh)) (da_cons (de_op (m := .sh) o_sub (de_op (m := .sh) o_sub (de_int (m := .sh)) (dv 7)) (de_ix (dv 10) (de_int (m := .sh)))) da_nil)))))) da_nil))) da_nil)))))
  (dss_one (ds_ret (de_bl (m := .sh))))
  dss_nil)
  (dss_cons (ds_asg (de_call c__law_draw hr (da_io 1 (da_cons (de_int (m := .sh)) da_nil))) (dg_name 12 sc_law.nd))
  (dss_cons (ds_setLcS 13 (io' := [0, 1, 2, 3, 4, 5, 6, 7, 8, 9, 10, 12, 13, 14, 15, 16, 17, 18, 19, 20, 21, 22, 23, 24, 25, 26, 27, 28, 29]) [("k", 11)] rfl sc_law.nd (di_range1 m_range (da_cons (DE.fz (de_op (m := (.own .sh)) o_add (de_cb (m := .sh) (b_min rfl) m_min (da_cons (dv 6) da_nil)) (de_int (m := .sh)))) da_nil)) (blkOk_by (N := N_law) (sc := defScope s_law) (by decide +kernel)) (fun _ _ _ _ _ => (dg_name 11 sc_law.nd)) (fun _ _ _ _ _ => (dts_one (dt_cmp o_le (DE.fz (de_op (m := (.own .sh)) o_add (de_op (m := .sh) o_sub (de_cb (m := .sh) (b_sum rfl) m_sum (da_cons (dv 6) da_nil)) (DE.fz (de_op (m := (.own .sh)) o_mul (de_int (m := .sh)) (dv 11)))) (dv 11))) (dv 12) (nomark _)))) (fun _ _ _ _ _ => (dv 11)) (sw_true rfl rfl rfl (by decide +kernel)))
  (dss_cons (ds_asg (de_if (dt_cmp (o_eq hr) (de_cb (m := .sh) b_len m_len (da_cons (dv 13) da_nil)) (de_int (m := .sh)) (nomark _)) (de_non (m := .sh)) (DE.fz (de_tup (m := .sh) (da_cons (de_op (m := .sh) o_sub (de_ix (dv 6) (de_int (m := .sh))) (de_ix (dv 13) (de_int (m := .sh)))) (da_cons (de_op (m := .sh) o_sub (de_ix (dv 6) (de_int (m := .sh))) (de_ix (dv 13) (de_int (m := .sh)))) (da_cons (de_op (m := .sh) o_sub (de_ix (dv 6) (de_int (m := .sh))) (de_ix (dv 13) (de_int (m := .sh)))) (da_cons (de_ix (dv 13) (de_int (m := .sh))) da_nil))))))) (dg_name 14 sc_law.nd))
  (dss_one (ds_if (dt_not (dt_tr (de_call c__law_same hr (da_cons (de_call c_least_ink hr (da_cons (dv 3) (da_cons (dv 12) da_nil))) (da_cons (dv 14) da_nil)))))
  (dss_one (ds_ret (de_bl (m := .sh))))
  dss_nil)))))))))))))))
  (dss_cons (ds_asg (DE.fz (de_tup (m := .sh) (da_cons (de_call c__law_curve hr (da_io 1 da_nil)) (da_cons (de_call c__law_curve hr (da_io 1 da_nil)) da_nil)))) (dg_tupS rfl (dgs_cons (dg_name 15 sc_law.nd) (dgs_cons (dg_name 16 sc_law.nd) dgs_nil))))
  (dss_cons (ds_asg (de_call c_back_curve hr (da_cons (DE.fz (de_ct (m := (.own .sh)) b_list m_list (da_cons (dv 15) da_nil))) da_nil)) (dg_name 17 sc_law.nd))
  (dss_cons (ds_if (dt_not (dt_tr (de_call c__law_same hr (da_cons (DE.fz (de_lst (m := .sh) (da_cons (de_call c_composed hr (da_cons (dv 15) (da_cons (dv 16) da_nil))) (da_cons (de_cb (m := .sh) b_len m_len (da_cons (dv 17) da_nil)) da_nil)))) (da_cons (DE.fz (de_lst (m := .sh) (da_cons (DE.fz (de_lc (io' := [0, 1, 2, 3, 4, 5, 6, 7, 8, 9, 10, 12, 13, 14, 15, 16, 17, 18, 19, 20, 21, 22, 23, 24, 25, 26, 27, 28, 29]) [("k", 11)] rfl sc_law.nd (di_range1 m_range (da_cons (de_int (m := .sh)) da_nil)) (blkOk_by (N := N_law) (sc := defScope s_law) (by decide +kernel)) (fun _ _ _ _ _ => (dg_name 11 sc_law.nd)) (fun _ _ _ _ _ => dts_nil) (fun _ _ _ _ _ => (de_ix (dv 15) (de_ix (dv 16) (dv 11)))))) (da_cons (de_int (m := .sh)) da_nil)))) da_nil)))))
  (dss_one (ds_ret (de_bl (m := .sh))))
  dss_nil)
  (dss_cons (ds_for PassesOwn.never rfl (di_range1 m_range (da_cons (de_int (m := .sh)) da_nil)) (dg_name 11 sc_law.nd)
  (dss_cons (ds_par (i := 18) (j := 19) rfl sc_law.nd (da_cons (de_call c__law_draw hr (da_io 1 (da_cons (de_int (m := .sh)) da_nil))) (da_cons (de_call c__law_draw hr (da_io 1 (da_cons (de_int (m := .sh)) da_nil))) da_nil)) rfl)
  (dss_one (ds_if (DW.dt (dw_or (dt_not (dt_tr (de_call c__law_whole hr (da_cons (de_ix (dv 17) (dv 19)) da_nil)))) (dw_or1 (dt_cmp (o_ne hr) (de_cmp (m := .sh) o_le (de_ix (dv 17) (dv 19)) (dv 18) (nomark _)) (de_cmp (m := .sh) o_le (dv 19) (de_ix (dv 15) (dv 18)) (nomark _)) (nomark _)))))
  (dss_one (ds_ret (de_bl (m := .sh))))
  dss_nil))))
  (dss_cons (ds_for PassesOwn.never rfl (di_range1 m_range (da_cons (de_int (m := .sh)) da_nil)) (dg_name 11 sc_law.nd)
  (dss_cons (ds_asg (de_ct (m := (.own .sh)) b_list m_list (da_cons (dv 15) da_nil)) (dg_name 20 sc_law.nd))
  (dss_cons (ds_asg (de_call c__law_draw hr (da_io 1 (da_cons (de_int (m := .sh)) da_nil))) (dg_name 21 sc_law.nd))
  (dss_cons (ds_asg (de_ix (DE.fz (de_lst (m := .sh) (da_cons (de_int (m := .sh)) (da_cons (de_op (m := .sh) o_sub (de_int (m := .sh)) (de_int (m := .sh))) (da_cons (de_non (m := .sh)) (da_cons (de_bl (m := .sh)) (da_cons (de_str (m := .sh)) (da_cons (de_int (m := .sh)) (da_cons (de_int (m := .sh)) da_nil))))))))) (de_call c__law_draw hr (da_io 1 (da_cons (de_int (m := .sh)) da_nil)))) (dg_sub (dp_var 20) (dv 21)))
  (dss_cons (ds_asg (de_ix (DE.fz (de_lst (m := .sh) (da_cons (dfz 20) (da_cons (dv 15) (da_cons (DE.fz (de_sl (dfz 20) do_none (do_some (dv 21)))) (da_cons (DE.fz (de_op (m := (.own .sh)) o_add (dv 15) (DE.fz (de_lst (m := .sh) (da_cons (de_int (m := .sh)) da_nil))))) da_nil)))))) (de_call c__law_draw hr (da_io 1 (da_cons (de_int (m := .sh)) da_nil)))) (dg_shd 20 sc_law.nd))
  (dss_one (ds_if (dt_not (dt_tr (de_call c__law_same hr (da_cons (de_call c__law_told hr (da_cons (DE.fz (de_ct (m := (.own .sh)) b_list m_list (da_cons (dfz 20) da_nil))) da_nil)) (da_cons (de_call c__law_wrong hr (da_cons (dfz 20) da_nil)) da_nil)))))
  (dss_one (ds_ret (de_bl (m := .sh))))
  dss_nil)))))))
  (dss_cons (ds_asg (DE.fz (de_sset m_sorted m_set (DE.fz (de_lc (io' := [0, 1, 2, 3, 4, 5, 6, 7, 8, 9, 10, 12, 13, 14, 15, 16, 17, 18, 19, 20, 21, 22, 23, 24, 25, 26, 27, 28, 29]) [("k", 11)] rfl sc_law.nd (di_range1 m_range (da_cons (DE.fz (de_op (m := (.own .sh)) o_add (de_int (m := .sh)) (de_call c__law_draw hr (da_io 1 (da_cons (de_int (m := .sh)) da_nil))))) da_nil)) (blkOk_by (N := N_law) (sc := defScope s_law) (by decide +kernel)) (fun _ _ _ _ _ => (dg_name 11 sc_law.nd)) (fun _ _ _ _ _ => dts_nil) (fun _ _ _ _ _ => (de_call c__law_draw hr (da_io 1 (da_cons (de_int (m := .sh)) da_nil)))))))) (dg_name 22 sc_law.nd))
  (dss_cons (ds_setLcS 23 (io' := [0, 1, 2, 3, 4, 5, 6, 7, 8, 9, 10, 11, 12, 13, 14, 15, 16, 17, 18, 19, 20, 21, 22, 23, 25, 26, 27, 28, 29]) [("first", 24)] rfl sc_law.nd (di_seq (dv 22)) (blkOk_by (N := N_law) (sc := defScope s_law) (by decide +kernel)) (fun _ _ _ _ _ => (dg_name 24 sc_law.nd)) (fun _ _ _ _ _ => dts_nil) (fun _ _ _ _ _ => (DE.fz (de_tup (m := .sh) (da_cons (dv 24) (da_cons (de_call c__law_draw hr (da_io 1 (da_cons (de_int (m := .sh)) da_nil))) da_nil))))) (sw_true rfl rfl rfl (by decide +kernel)))
  (dss_cons (ds_asg (de_call c_curve_through hr (da_cons (DE.fz (de_ct (m := (.own .sh)) b_list m_list (da_cons (dv 23) da_nil))) da_nil)) (dg_name 25 sc_law.nd))
  (dss_cons (ds_if (dt_cmp (o_ne hr) (de_cb (m := .sh) b_len m_len (da_cons (dv 25) da_nil)) (de_int (m := .sh)) (nomark _))
  (dss_one (ds_ret (de_bl (m := .sh))))
  dss_nil)
  (dss_cons (ds_for PassesOwn.never rfl (di_range1 m_range (da_cons (de_int (m := .sh)) da_nil)) (dg_name 18 sc_law.nd)
  (dss_cons (ds_asg (de_if (dt_cmp o_lt (dv 18) (de_ix (de_ix (dv 23) (de_int (m := .sh))) (de_int (m := .sh))) (nomark _)) (de_ix (de_ix (dv 23) (de_int (m := .sh))) (de_int (m := .sh))) (de_ix (de_ix (dv 23) (de_neg (m := .sh) (de_int (m := .sh)))) (de_int (m := .sh)))) (dg_name 14 sc_law.nd))
  (dss_cons (ds_for PassesOwn.never rfl (di_range1 m_range (da_cons (de_op (m := .sh) o_sub (de_cb (m := .sh) b_len m_len (da_cons (dv 23) da_nil)) (de_int (m := .sh))) da_nil)) (dg_name 11 sc_law.nd)
  (dss_cons (ds_asg (DE.fz (de_tup (m := .sh) (da_cons (de_ix (dv 23) (dv 11)) (da_cons (de_ix (dv 23) (DE.fz (de_op (m := (.own .sh)) o_add (dv 11) (de_int (m := .sh))))) da_nil)))) (dg_tupS rfl (dgs_cons (dg_tupS rfl (dgs_cons (dg_name 26 sc_law.nd) (dgs_cons (dg_name 27 sc_law.nd) dgs_nil))) (dgs_cons (dg_tupS rfl (dgs_cons (dg_name 28 sc_law.nd) (dgs_cons (dg_name 29 sc_law.nd) dgs_nil))) dgs_nil))))
  (dss_one (ds_if (dt_chain o_le o_lt (dv 26) (dv 18) (dv 28))
  (dss_one (ds_asg (de_op (m := .sh) o_fdiv (DE.fz (de_op (m := (.own .sh)) o_add (DE.fz (de_op (m := (.own .sh)) o_mul (dv 27) (de_op (m := .sh) o_sub (dv 28) (dv 18)))) (DE.fz (de_op (m := (.own .sh)) o_mul (dv 29) (de_op (m := .sh) o_sub (dv 18) (dv 26)))))) (de_op (m := .sh) o_sub (dv 28) (dv 26))) (dg_name 14 sc_law.nd)))
  dss_nil))))
  (dss_one (ds_if (dt_not (dt_tr (de_call c__law_same hr (da_cons (de_ix (dv 25) (dv 18)) (da_cons (dv 14) da_nil)))))
  (dss_one (ds_ret (de_bl (m := .sh))))
  dss_nil)))))
  (dss_one (ds_ret (de_bl (m := .sh))))))))))))))))⟩
end Wk
namespace P87
open PySem L2 Dl Wk
local macro_rules | `(tactic| walk_at "ev") => `(tactic| simp (disch := omega) only [mSeq_ap, mVar_ap, mMov_ap, mTk_ap, mFz_ap, mRead_ap, mReadU_ap, mScal_ap, mOp_ap, mUn_ap, mPair_ap, bnd_ap, lft_ap, ret_ap, mCons_ap, mNil_ap, mCall_ap, mCl0_ap, backIo, mIf_ap, mAnd_ap, mOr_ap, mNot_ap, mAndV_ap, mOrV_ap, mNotV_ap, mChain_ap, mAsg_ap, gtName, gtScal, gtAny, gtSub, gtTup, gtCons, gtNil, mSkip_ap, mApp_ap, mPop_ap, popIx, mLen_ap, ixP, anyItems, shItems, getP, setP, kid, putKid, shOf, unsh_non, unsh_bl, unsh_int, unsh_str, unsh_lst, unsh_tup, unsh_frl, unsh_shd, ite_lim, isShd_non, isShd_bl, isShd_int, isShd_str, isShd_lst, isShd_tup, isShd_frl, isShd_shd, dLst_nil, dTup_nil, toNat_lit, dTup_1, dTup_2, dTup_3, dTup_4, dTup_5, dLst_1, dLst_2, dLst_3, dLst_4, dLst_5, Dl.scal, dTr, dBool, dIs, dIsNot, Dl.isNon, dItems, dPart, dSl, bLen, bInt, bList, bTuple, dMul_i, dFdiv_i, dMod_i, dAdd_i, dSub_i, dLt_i, dLe_i, dGt_i, dGe_i, dEq_i, dNe_i, dEq_bl, dTup_c, dLst_c, mRng_ap, dRng1, rgC_map, Int.toNat_natCast, maskIo_nil, bIsi_bool, bIsi_int, bIsi_str, bIsi_dict, bIsi_list, bIsi_tuple, isiD, wipeD, dAdd_l, dAdd_t, dIx_l, dIx_t, ixN_nat, ixN_of, nat_cast_div, nat_cast_mod, nat_cast_mul, nat_cast_add, nat_add_lit, lit_add_nat, nat_mul_lit, lit_mul_nat, nat_div_lit, nat_mod_lit, nat_sub_lit, nat_lt, nat_le, nat_eq, nat_lt_lit, lit_lt_nat, nat_le_lit, lit_le_nat, dRng_two, nat_cast_sub, dRng3, bMin_n, List.length_map, List.length_set, lim,
  Option.bind_some, Option.map_some, List.getElem?_cons_zero, List.getElem?_cons_succ, List.set_cons_zero, List.set_cons_succ, List.length_cons, List.length_nil, reduceIte, Bool.false_eq_true, decide_eq_true_eq, Nat.reduceAdd, List.map_cons, List.map_nil, List.cons_append, List.nil_append, Nat.reduceSub, Nat.reduceLeDiff, List.replicate_succ, List.replicate_zero, Nat.zero_add, Bool.not_true, Bool.not_false, Bool.or_false, Bool.false_or, Bool.or_true, Bool.true_or, reduceCtorEq, decide_false, decide_true, beq_self_eq_true, List.isEmpty_cons, List.isEmpty_nil])
local macro_rules | `(tactic| walk_at "wp") => `(tactic| simp (disch := first | with_reducible assumption | omega | (simp only [List.length_cons, List.length_nil, List.length_map, List.length_append, List.length_range, List.length_replicate, List.length_zip, List.length_reverse, List.length_take, List.length_drop]; omega)) only [wp_seq, wp_bnd, wp_ret, wp_lft, wp_var, wp_mov, wp_fz, wp_tk, wp_pair, wp_nil, wp_cons, wp_op, wp_un, wp_call, wp_rng, wp_scal, wp_scl1, wp_if, wp_not, wp_and, wp_or, wp_ifk, wp_andV, wp_orV, wp_notV, wp_chain, wp_skip, wp_asg, wp_par, wp_par3, wp_aug, wp_read, wp_readU, wp_len, wp_app, wp_appK, wp_disp, wp_pop, wp_for, wp_while, wp_lc, wp_cl0, wp_subK, kG_sub, kB_ok, kB_ex, kL_ok, kL_ex, kC_true, kC_false, kV_some, kG_some, kR_some, kO_some, kI_ok, kS_nx, kS_rt, kS_bk, kS_ct, kA_ok, kLst_some, kApp_ok, kU_ok, kCl_ok, kBk_ok, kBd_rt, kBd_nx, kF_nx, kF_ct, kF_bk, kF_rt, kW_ok, kT_ok, kE_ok, wp_appV, kAppV_ok, dRng2n, dMul_rep, gtUnl, dRng_n, wp_augO, dZipA_t, dZipA_l, zipD_map,  ite_lim2, List.getElem_range, List.length_range, nat_eq_lit, Nat.reduceBEq, Nat.reduceBNe, Int.reduceBEq, Int.reduceLT, Int.reduceLE, Int.reduceEq, Int.reduceNeg, Nat.reduceLT, Nat.reduceEqDiff, Bool.true_and, Bool.and_true, Bool.false_and, Bool.and_false, dNeg, dNe_bl, dIsNot,  maskIo_0, dIx_ln, dIx_tn, List.getElem_map,  mSeq_ap, mVar_ap, mMov_ap, mTk_ap, mFz_ap, mRead_ap, mReadU_ap, mScal_ap, mOp_ap, mUn_ap, mPair_ap, bnd_ap, lft_ap, ret_ap, mCons_ap, mNil_ap, mCall_ap, mCl0_ap, backIo, mIf_ap, mAnd_ap, mOr_ap, mNot_ap, mAndV_ap, mOrV_ap, mNotV_ap, mChain_ap, mAsg_ap, gtName, gtScal, gtAny, gtSub, gtTup, gtCons, gtNil, mSkip_ap, mApp_ap, mPop_ap, popIx, mLen_ap, ixP, anyItems, shItems, getP, setP, kid, putKid, shOf, unsh_non, unsh_bl, unsh_int, unsh_str, unsh_lst, unsh_tup, unsh_frl, unsh_shd, ite_lim, isShd_non, isShd_bl, isShd_int, isShd_str, isShd_lst, isShd_tup, isShd_frl, isShd_shd, dLst_nil, dTup_nil, toNat_lit, dTup_1, dTup_2, dTup_3, dTup_4, dTup_5, dLst_1, dLst_2, dLst_3, dLst_4, dLst_5, Dl.scal, dTr, dBool, dIs, dIsNot, Dl.isNon, dItems, dPart, dSl, bLen, bInt, bList, bTuple, dMul_i, dFdiv_i, dMod_i, dAdd_i, dSub_i, dLt_i, dLe_i, dGt_i, dGe_i, dEq_i, dNe_i, dEq_bl, dTup_c, dLst_c, mRng_ap, dRng1, rgC_map, Int.toNat_natCast, maskIo_nil, bIsi_bool, bIsi_int, bIsi_str, bIsi_dict, bIsi_list, bIsi_tuple, isiD, wipeD, dAdd_l, dAdd_t, dIx_l, dIx_t, ixN_nat, ixN_of, nat_cast_div, nat_cast_mod, nat_cast_mul, nat_cast_add, nat_add_lit, lit_add_nat, nat_mul_lit, lit_mul_nat, nat_div_lit, nat_mod_lit, nat_sub_lit, nat_lt, nat_le, nat_eq, nat_lt_lit, lit_lt_nat, nat_le_lit, lit_le_nat, dRng_two, nat_cast_sub, dRng3, bMin_n, List.length_map, List.length_set, lim,
  Option.bind_some, Option.map_some, List.getElem?_cons_zero, List.getElem?_cons_succ, List.set_cons_zero, List.set_cons_succ, List.length_cons, List.length_nil, reduceIte, Bool.false_eq_true, decide_eq_true_eq, Nat.reduceAdd, List.map_cons, List.map_nil, List.cons_append, List.nil_append, Nat.reduceSub, Nat.reduceLeDiff, List.replicate_succ, List.replicate_zero, Nat.zero_add, Bool.not_true, Bool.not_false, Bool.or_false, Bool.false_or, Bool.or_true, Bool.true_or, reduceCtorEq, decide_false, decide_true, beq_self_eq_true, List.isEmpty_cons, List.isEmpty_nil])
/-- the draws as they stand -/
def drD (cells : List Int) (at' : Nat) (dig mix : Int) : D := .lst [.lst (cells.map .int), .int at', .int dig, .int mix]
def Dr (x : D) : Prop := ∃ cells a dig mix, x = drD cells a dig mix ∧ 0 ≤ dig
theorem Dr.shd {x : D} (h : Dr x) : isShd x = false := by
  obtain ⟨c, a, d, m, rfl, _⟩ := h
  rfl
theorem draws_t (ns : List Int) : F__law_draws [.frl (ns.map .int)] = some (.ok (drD ns 0 0 1) [none]) := by
  refine eq_of_kR ?_
  unfold F__law_draws
  refine kR_fn _ rfl ?_
  unfold b__law_draws
  walk_at "wp"
  rfl
theorem draw_w {x : D} {l : Int} {Q : Rs D → Prop} (h : Dr x) (hl : 0 < l) (hl2 : l < 1000000) (hq : ∀ (y : D) (v : Nat), Dr y → (v : Int) < l → Q (.ok (.int v) [some y, none])) : kR (F__law_draw [x, .int l]) Q := by
  obtain ⟨cells, a, dig, mix, rfl, hd⟩ := h
  have hq' : ∀ (y : D) (i : Int), Dr y → 0 ≤ i → i < l → Q (.ok (.int i) [some y, none]) := fun y i h1 h2 h3 => by
    obtain ⟨v, rfl⟩ := Int.eq_ofNat_of_zero_le h2
    exact hq y v h1 h3
  have e18 : dPow (.int 10) (.int 18) = some (.int 1000000000000000000) := by rfl
  unfold F__law_draw
  refine kR_fn _ rfl ?_
  have fin : ∀ (cells : List Int) (a : Nat) (dig mix : Int) (z w : Option D), 0 ≤ dig → Wp (mSeq (b__law_draw_69) (mSeq (b__law_draw_73) (b__law_draw_74))) [some (drD cells a dig mix), some (.int l), z, w] (kBd [0] 2 Q) := fun cells a dig mix z w hd => by
    unfold b__law_draw_69 b__law_draw_70 b__law_draw_71 b__law_draw_72 b__law_draw_73 b__law_draw_74 drD
    walk_at "wp"
    refine kC_if (fun h => ?_) fun h => ?_
    · walk_at "wp"
      exact hq' _ _ ⟨_, _, _, _, rfl, Int.ediv_nonneg hd (by omega)⟩ (Int.emod_nonneg _ (by omega)) (Int.emod_lt_of_pos _ hl)
    · walk_at "wp"
      exact hq' _ _ ⟨_, _, _, _, rfl, hd⟩ (Int.emod_nonneg _ (by omega)) (Int.emod_lt_of_pos _ hl)
  unfold b__law_draw
  rw [wp_seq]
  unfold b__law_draw_63 b__law_draw_64 b__law_draw_65 b__law_draw_66 b__law_draw_67 b__law_draw_68 drD
  walk_at "wp"
  refine kC_by (fun h0 => ?_) fun h0 => ?_
  · walk_at "wp"
    refine kC_if (fun h1 => ?_) fun h1 => ?_
    · have h1' : a < (cells.map D.int).length := by simpa using h1
      walk_at "wp"
      rw [e18]
      walk_at "wp"
      refine kC_if (fun h2 => ?_) fun h2 => ?_
      · walk_at "wp"
        have := fin cells (a + 1) cells[a] ((mix * 48271 + cells[a] + 13) % 2147483647) (some (.int cells[a])) none (by omega)
        unfold drD at this
        rw [wp_seq] at this
        exact this
      · walk_at "wp"
        have := fin cells (a + 1) dig ((mix * 48271 + cells[a] + 13) % 2147483647) (some (.int cells[a])) none (by omega)
        unfold drD at this
        rw [wp_seq] at this
        exact this
    · walk_at "wp"
      have := fin cells a dig mix none none hd
      unfold drD at this
      rw [wp_seq] at this
      exact this
  · walk_at "wp"
    have := fin cells a dig mix none none hd
    unfold drD at this
    rw [wp_seq] at this
    exact this
/-! the same -/
theorem same_refl : ∀ (n : Nat) (d : D), Dt n d → F__law_same (n + 1) [d, d] = some (.ok (.bl true) [none, none])
  | n, .non, _ => by
    refine eq_of_kR ?_
    unfold F__law_same
    refine kR_fn _ rfl ?_
    unfold b__law_same
    walk_at "wp"
  | n, .int i, _ => by
    refine eq_of_kR ?_
    unfold F__law_same
    refine kR_fn _ rfl ?_
    unfold b__law_same
    walk_at "wp"
  | n, .bl i, _ => by
    refine eq_of_kR ?_
    unfold F__law_same
    refine kR_fn _ rfl ?_
    unfold b__law_same
    walk_at "wp"
  | n, .str i, h => by
    have hi : PyData.strOk i = true := by cases n <;> simpa [Dt] using h
    refine eq_of_kR ?_
    unfold F__law_same
    refine kR_fn _ rfl ?_
    unfold b__law_same
    walk_at "wp"
    rw [dEq_str i i hi hi]
    walk_at "wp"
  | 0, .lst xs, h => by simp [Dt] at h
  | 0, .tup xs, h => by simp [Dt] at h
  | n + 1, .lst xs, h => by
    have hx : xs.length ≤ 16777216 ∧ ∀ x ∈ xs, Dt n x := by
      rcases h with h | ⟨ys, h1, h2, h3⟩
      · simp at h
      · rcases h1 with h1 | h1 <;> cases h1; exact ⟨h2, h3⟩
    refine eq_of_kR ?_
    rw [F__law_same]
    refine kR_fn _ rfl ?_
    unfold b__law_same
    walk_at "wp"
    refine lcG (fun _ => .bl true) (by simpa using hx.1) (fun i hi => ?_) ?_
    · have hi : i < xs.length := List.mem_range.mp hi
      simp only [wipeD]
      walk_at "wp"
      rw [same_refl n _ (hx.2 _ (List.getElem_mem _))]
      walk_at "wp"
      and_intros <;> first | rfl | trivial
    · simp only [wipeD]
      walk_at "wp"
      rw [bAll_true (by simp)]
      walk_at "wp"
  | n + 1, .tup xs, h => by
    have hx : xs.length ≤ 16777216 ∧ ∀ x ∈ xs, Dt n x := by
      rcases h with h | ⟨ys, h1, h2, h3⟩
      · simp at h
      · rcases h1 with h1 | h1 <;> cases h1; exact ⟨h2, h3⟩
    refine eq_of_kR ?_
    rw [F__law_same]
    refine kR_fn _ rfl ?_
    unfold b__law_same
    walk_at "wp"
    refine lcG (fun _ => .bl true) (by simpa using hx.1) (fun i hi => ?_) ?_
    · have hi : i < xs.length := List.mem_range.mp hi
      simp only [wipeD]
      walk_at "wp"
      rw [same_refl n _ (hx.2 _ (List.getElem_mem _))]
      walk_at "wp"
      and_intros <;> first | rfl | trivial
    · simp only [wipeD]
      walk_at "wp"
      rw [bAll_true (by simp)]
      walk_at "wp"
  | 0, .frl _, h => by simp [Dt] at h
  | 0, .ctu _, h => by simp [Dt] at h
  | n + 1, .ctu _, h => by simp [Dt] at h
  | n + 1, .frl _, h => by simp [Dt] at h
  | 0, .dK _ _, h => by simp [Dt] at h
  | n + 1, .dK _ _, h => by simp [Dt] at h
  | 0, .dT _ _, h => by simp [Dt] at h
  | n + 1, .dT _ _, h => by simp [Dt] at h
  | 0, .val _, h => by simp [Dt] at h
  | n + 1, .val _, h => by simp [Dt] at h
  | 0, .shd _, h => by simp [Dt] at h
  | n + 1, .shd _, h => by simp [Dt] at h
theorem same_w {n m : Nat} {x d : D} {Q : Rs D → Prop} (h : Dt n d) (e : x = d) (hm : n < m) (hq : Q (.ok (.bl true) [none, none])) : kR (F__law_same m [x, d]) Q := by
  subst e
  obtain ⟨k, rfl⟩ : ∃ k, m = k + 1 := ⟨m - 1, by omega⟩
  exact kR_of_eq (same_refl k x (h.to (by omega))) hq
end P87
namespace P87
open PySem L2 Dl Wk
theorem isShd_dr {x : D} (h : Dr x) : isShd x = false := h.shd
/-- what may stand in a bent curve -/
def El (d : D) : Prop := (∃ i : Int, d = .int i) ∨ d = .non ∨ d = .bl true ∨ d = .str "1"
def lev : D → Option Int
  | .int i => if 0 ≤ i ∧ i ≤ 255 then some i else none
  | _ => none
def bad (ds : List D) (k : Nat) : Bool := match (ds[k]?).bind lev with
  | none => true
  | some i => match k with
    | 0 => false
    | j + 1 => match (ds[j]?).bind lev with
      | some p => decide (i < p)
      | none => false
def res (ds : List D) : D := match (List.range 256).find? (bad ds) with
  | some k => .tup [.str "wrong", .int (k : Nat)]
  | none => .tup [.str "told", .non]
theorem res_bad {ds : List D} {k : Nat} (hk : k < 256) (h : bad ds k = true) (hj : ∀ j, j < k → bad ds j = false) : res ds = .tup [.str "wrong", .int (k : Nat)] := by
  unfold res
  rw [List.find?_range_eq_some.mpr ⟨h, List.mem_range.mpr hk, fun j hjk => by rw [hj j hjk]; rfl⟩]
theorem res_ok {ds : List D} (h : ∀ j, j < 256 → bad ds j = false) : res ds = .tup [.str "told", .non] := by
  unfold res
  rw [List.find?_range_eq_none.mpr fun j hj => by rw [h j hj]; rfl]
theorem bad_prev {ds : List D} {k : Nat} (h : bad ds k = false) : ∃ p : Int, ds[k]? = some (.int p) ∧ 0 ≤ p ∧ p ≤ 255 := by
  unfold bad at h
  cases e : ds[k]? with
  | none => rw [e] at h; simp at h
  | some d =>
    rw [e] at h
    cases d with
    | int i =>
      by_cases hi : 0 ≤ i ∧ i ≤ 255
      · exact ⟨i, rfl, hi.1, hi.2⟩
      · simp [lev, hi] at h
    | _ => simp [lev] at h
theorem bad_odd {ds : List D} {k : Nat} {d : D} (e : ds[k]? = some d) (h : lev d = none) : bad ds k = true := by
  unfold bad; rw [e]; simp [h]
theorem lev_in {i : Int} (h : 0 ≤ i ∧ i ≤ 255) : lev (.int i) = some i := by simp [lev, h]
theorem lev_out {i : Int} (h : ¬(0 ≤ i ∧ i ≤ 255)) : lev (.int i) = none := by simp [lev, h]
theorem bad_zero {ds : List D} {i : Int} (e : ds[0]? = some (.int i)) (h : 0 ≤ i ∧ i ≤ 255) : bad ds 0 = false := by
  unfold bad; rw [e]; simp [lev_in h]
theorem bad_succ {ds : List D} {k : Nat} {i p : Int} (e : ds[k + 1]? = some (.int i)) (h : 0 ≤ i ∧ i ≤ 255) (e2 : ds[k]? = some (.int p)) (h2 : 0 ≤ p ∧ p ≤ 255) : bad ds (k + 1) = decide (i < p) := by
  simp only [bad, e, e2, Option.bind_some, lev_in h, lev_in h2]
theorem ix_at {ds : List D} {k : Nat} {d : D} (e : ds[k]? = some d) : dIx (.lst ds) (.int (k : Nat)) = some d := by
  show L2.atI _ _ = _
  rw [Dl.atI_nat, e]
theorem sub_1 (k : Nat) : dSub (.int ((k + 1 : Nat) : Int)) (.int 1) = some (.int (k : Nat)) := by
  show some (D.int _) = _
  congr 2; omega
local macro_rules | `(tactic| walk_at "wq") => `(tactic| simp (disch := first | with_reducible assumption | omega | (simp only [List.length_cons, List.length_nil, List.length_map, List.length_append, List.length_range, List.length_replicate, List.length_zip, List.length_reverse, List.length_take, List.length_drop]; omega)) only [isShd_dr, wp_raise, kRs_ok, wp_try, kTry_ok, kTry_ex, wp_clX, kClX_ok, kBkX_ok, kBkX_ex, kBx_rt, kBx_nx, kBx_ex, kF_ex, kS_ex, kB_ex, sub_1, wp_seq, wp_bnd, wp_ret, wp_lft, wp_var, wp_mov, wp_fz, wp_tk, wp_pair, wp_nil, wp_cons, wp_op, wp_un, wp_call, wp_rng, wp_scal, wp_scl1, wp_if, wp_not, wp_and, wp_or, wp_ifk, wp_andV, wp_orV, wp_notV, wp_chain, wp_skip, wp_asg, wp_par, wp_par3, wp_aug, wp_read, wp_readU, wp_len, wp_app, wp_appK, wp_disp, wp_pop, wp_for, wp_while, wp_lc, wp_cl0, wp_subK, kG_sub, kB_ok, kB_ex, kL_ok, kL_ex, kC_true, kC_false, kV_some, kG_some, kR_some, kO_some, kI_ok, kS_nx, kS_rt, kS_bk, kS_ct, kA_ok, kLst_some, kApp_ok, kU_ok, kCl_ok, kBk_ok, kBd_rt, kBd_nx, kF_nx, kF_ct, kF_bk, kF_rt, kW_ok, kT_ok, kE_ok, wp_appV, kAppV_ok, dRng2n, dMul_rep, gtUnl, dRng_n, wp_augO, dZipA_t, dZipA_l, zipD_map,  ite_lim2, List.getElem_range, List.length_range, nat_eq_lit, Nat.reduceBEq, Nat.reduceBNe, Int.reduceBEq, Int.reduceLT, Int.reduceLE, Int.reduceEq, Int.reduceNeg, Nat.reduceLT, Nat.reduceEqDiff, Bool.true_and, Bool.and_true, Bool.false_and, Bool.and_false, dNeg, dNe_bl, dIsNot,  maskIo_0, dIx_ln, dIx_tn, List.getElem_map,  mSeq_ap, mVar_ap, mMov_ap, mTk_ap, mFz_ap, mRead_ap, mReadU_ap, mScal_ap, mOp_ap, mUn_ap, mPair_ap, bnd_ap, lft_ap, ret_ap, mCons_ap, mNil_ap, mCall_ap, mCl0_ap, backIo, mIf_ap, mAnd_ap, mOr_ap, mNot_ap, mAndV_ap, mOrV_ap, mNotV_ap, mChain_ap, mAsg_ap, gtName, gtScal, gtAny, gtSub, gtTup, gtCons, gtNil, mSkip_ap, mApp_ap, mPop_ap, popIx, mLen_ap, ixP, anyItems, shItems, getP, setP, kid, putKid, shOf, unsh_non, unsh_bl, unsh_int, unsh_str, unsh_lst, unsh_tup, unsh_frl, unsh_shd, ite_lim, isShd_non, isShd_bl, isShd_int, isShd_str, isShd_lst, isShd_tup, isShd_frl, isShd_shd, dLst_nil, dTup_nil, toNat_lit, dTup_1, dTup_2, dTup_3, dTup_4, dTup_5, dLst_1, dLst_2, dLst_3, dLst_4, dLst_5, Dl.scal, dTr, dBool, dIs, dIsNot, Dl.isNon, dItems, dPart, dSl, bLen, bInt, bList, bTuple, dMul_i, dFdiv_i, dMod_i, dAdd_i, dSub_i, dLt_i, dLe_i, dGt_i, dGe_i, dEq_i, dNe_i, dEq_bl, dTup_c, dLst_c, mRng_ap, dRng1, rgC_map, Int.toNat_natCast, maskIo_nil, bIsi_bool, bIsi_int, bIsi_str, bIsi_dict, bIsi_list, bIsi_tuple, isiD, wipeD, dAdd_l, dAdd_t, dIx_l, dIx_t, ixN_nat, ixN_of, nat_cast_div, nat_cast_mod, nat_cast_mul, nat_cast_add, nat_add_lit, lit_add_nat, nat_mul_lit, lit_mul_nat, nat_div_lit, nat_mod_lit, nat_sub_lit, nat_lt, nat_le, nat_eq, nat_lt_lit, lit_lt_nat, nat_le_lit, lit_le_nat, dRng_two, nat_cast_sub, dRng3, bMin_n, List.length_map, List.length_set, lim,
  Option.bind_some, Option.map_some, List.getElem?_cons_zero, List.getElem?_cons_succ, List.set_cons_zero, List.set_cons_succ, List.length_cons, List.length_nil, reduceIte, Bool.false_eq_true, decide_eq_true_eq, Nat.reduceAdd, List.map_cons, List.map_nil, List.cons_append, List.nil_append, Nat.reduceSub, Nat.reduceLeDiff, List.replicate_succ, List.replicate_zero, Nat.zero_add, Bool.not_true, Bool.not_false, Bool.or_false, Bool.false_or, Bool.or_true, Bool.true_or, reduceCtorEq, decide_false, decide_true, beq_self_eq_true, List.isEmpty_cons, List.isEmpty_nil])
theorem check_w {ds : List D} {Q : Rs D → Prop} (hl : ds.length = 256) (he : ∀ d ∈ ds, El d) (h1 : ∀ k : Nat, k < 256 → res ds = .tup [.str "wrong", .int (k : Nat)] → Q (.ex (pgX "PackWrong" (.int (k : Nat))) [none])) (h2 : res ds = .tup [.str "told", .non] → Q (.ok .non [none])) : kR (F_check_curve [.lst ds]) Q := by
  unfold F_check_curve
  refine kR_fnX [some (.lst ds), none, none] rfl ?_
  unfold b_check_curve b_check_curve_28
  walk_at "wq"
  rw [show (!(((ds.length : Nat) : Int) == 255 + 1)) = false by rw [hl]; rfl, kC_false]
  walk_at "wq"
  unfold b_check_curve_30
  walk_at "wq"
  rw [hl]
  refine forI (fun ρ0 i ρ => ∃ z1 z2, (∀ j, j < i → bad ds j = false) ∧ ρ = [some (.lst ds), z1, z2]) ⟨none, none, (fun j hj => by omega), rfl⟩ (fun k d ρ' hd ⟨z1, z2, hb, hz⟩ => ?_) fun ρ' ⟨z1, z2, hb, hz⟩ => ?_
  · subst hz
    have hk : k < 256 := by
      have := (List.getElem?_eq_some_iff.mp hd).1
      simpa using this
    obtain rfl : d = .int (k : Nat) := by
      rw [List.getElem?_map, List.getElem?_range hk] at hd
      cases hd; rfl
    obtain ⟨x, hx⟩ : ∃ x, ds[k]? = some x := ⟨ds[k], List.getElem?_eq_getElem (by omega)⟩
    have hE := he x (List.mem_of_getElem? hx)
    walk_at "wq"
    unfold b_check_curve_31
    walk_at "wq"
    have hx2 : ds[k]'(by omega) = x := (List.getElem?_eq_some_iff.mp hx).2
    simp only [hx2]
    unfold b_check_curve_32
    have odd : lev x = none → Q (.ex (pgX "PackWrong" (.int (k : Nat))) [none]) := fun hl => h1 k hk (res_bad hk (bad_odd hx hl) hb)
    rcases hE with ⟨i, rfl⟩ | rfl | rfl | rfl
    · walk_at "wq"
      refine kC_if (fun q1 => ?_) fun q1 => ?_
      · walk_at "wq"
        refine kC_by (fun q2 => ?_) fun q2 => ?_
        · unfold b_check_curve_33
          walk_at "wq"
          exact odd (lev_out (by simp at q2; omega))
        · have q3 : i ≤ 255 := by simpa using q2
          walk_at "wq"
          unfold b_check_curve_34
          rcases k with _ | j
          · walk_at "wq"
            exact ⟨_, _, fun j hj => by rw [show j = 0 by omega]; exact bad_zero hx ⟨q1, q3⟩, rfl⟩
          · obtain ⟨p, hp, hp1, hp2⟩ := bad_prev (hb j (by omega))
            have hp3 : ds[j]'(by omega) = .int p := (List.getElem?_eq_some_iff.mp hp).2
            have hbs := bad_succ hx ⟨q1, q3⟩ hp ⟨hp1, hp2⟩
            walk_at "wq"
            rw [kC_t (by simp)]
            walk_at "wq"
            simp only [Nat.add_sub_cancel, hp3]
            walk_at "wq"
            refine kC_if (fun q4 => ?_) fun q4 => ?_
            · unfold b_check_curve_35
              walk_at "wq"
              exact h1 (j + 1) hk (res_bad hk (by rw [hbs]; simpa using q4) hb)
            · walk_at "wq"
              refine ⟨_, _, fun m hm => ?_, rfl⟩
              rcases Nat.lt_or_ge m (j + 1) with h | h
              · exact hb m h
              · rw [show m = j + 1 by omega, hbs]; simpa using q4
      · walk_at "wq"
        unfold b_check_curve_33
        walk_at "wq"
        exact odd (lev_out (by omega))
    · walk_at "wq"
      unfold b_check_curve_33
      walk_at "wq"
      exact odd rfl
    · walk_at "wq"
      unfold b_check_curve_33
      walk_at "wq"
      exact odd rfl
    · walk_at "wq"
      unfold b_check_curve_33
      walk_at "wq"
      exact odd rfl
  · subst hz
    walk_at "wq"
    simp only [List.length_map, List.length_range] at hb
    exact h2 (res_ok hb)
theorem told_t {ds : List D} (hl : ds.length = 256) (he : ∀ d ∈ ds, El d) : F__law_told [.lst ds] = some (.ok (res ds) [none]) := by
  refine eq_of_kR ?_
  unfold F__law_told
  refine kR_fn [some (.lst ds), none] rfl ?_
  unfold b__law_told b__law_told_96 b__law_told_97
  walk_at "wq"
  refine check_w hl he (fun k hk hr => ?_) fun hr => ?_
  · walk_at "wq"
    rw [hr]
  · walk_at "wq"
    rw [hr]
theorem told_len {ds : List D} (hl : ds.length ≠ 256) (hl2 : ds.length < 1000) : F__law_told [.lst ds] = some (.ok (.tup [.str "wrong", .non]) [none]) := by
  refine eq_of_kR ?_
  unfold F__law_told
  refine kR_fn [some (.lst ds), none] rfl ?_
  unfold b__law_told b__law_told_96 b__law_told_97
  walk_at "wq"
  unfold F_check_curve
  refine kR_fnX [some (.lst ds), none, none] rfl ?_
  unfold b_check_curve b_check_curve_28
  walk_at "wq"
  rw [show (!(((ds.length : Nat) : Int) == 255 + 1)) = true by simp; omega, kC_true]
  unfold b_check_curve_29
  walk_at "wq"
def isI : D → Bool
  | .int _ => true
  | _ => false
theorem whole_w {d : D} (h : El d) : F__law_whole [d] = some (.ok (.bl (isI d)) [none]) := by
  refine eq_of_kR ?_
  unfold F__law_whole
  rcases h with ⟨i, rfl⟩ | rfl | rfl | rfl
  · refine kR_fn [some (.int i)] rfl ?_
    unfold b__law_whole b__law_whole_94
    walk_at "wq"
    rfl
  · refine kR_fn [some .non] rfl ?_
    unfold b__law_whole b__law_whole_94
    walk_at "wq"
    rfl
  · refine kR_fn [some (.bl true)] rfl ?_
    unfold b__law_whole b__law_whole_94
    walk_at "wq"
    rfl
  · refine kR_fn [some (.str "1")] rfl ?_
    unfold b__law_whole b__law_whole_94
    walk_at "wq"
    rfl
theorem wrong_t {ds : List D} (hl : ds.length = 256) (he : ∀ d ∈ ds, El d) : F__law_wrong [.lst ds] = some (.ok (res ds) [none]) := by
  refine eq_of_kR ?_
  unfold F__law_wrong
  refine kR_fn [some (.lst ds), none] rfl ?_
  unfold b__law_wrong b__law_wrong_101
  walk_at "wq"
  rw [show (ds.length == 256) = true by simp [hl]]
  walk_at "wq"
  unfold b__law_wrong_103
  walk_at "wq"
  refine forI (fun ρ0 i ρ => ∃ z1, (∀ j, j < i → bad ds j = false) ∧ ρ = [some (.lst ds), z1]) ⟨none, (fun j hj => by omega), rfl⟩ (fun k d ρ' hd ⟨z1, hb, hz⟩ => ?_) fun ρ' ⟨z1, hb, hz⟩ => ?_
  · subst hz
    have hk : k < 256 := by
      have := (List.getElem?_eq_some_iff.mp hd).1
      simpa using this
    obtain rfl : d = .int (k : Nat) := by
      rw [List.getElem?_map, List.getElem?_range hk] at hd
      cases hd; rfl
    obtain ⟨x, hx⟩ : ∃ x, ds[k]? = some x := ⟨ds[k], List.getElem?_eq_getElem (by omega)⟩
    have hE := he x (List.mem_of_getElem? hx)
    have hx2 : ds[k]'(by omega) = x := (List.getElem?_eq_some_iff.mp hx).2
    walk_at "wq"
    unfold b__law_wrong_104
    walk_at "wq"
    simp only [hx2]
    rw [whole_w hE]
    have odd : lev x = none → res ds = .tup [.str "wrong", .int (k : Nat)] := fun hl => res_bad hk (bad_odd hx hl) hb
    rcases hE with ⟨i, rfl⟩ | rfl | rfl | rfl
    · rw [show isI (.int i) = true from rfl]
      walk_at "wq"
      simp only [hx2]
      walk_at "wq"
      refine kC_if (fun q1 => ?_) fun q1 => ?_
      · walk_at "wq"
        refine kC_by (fun q2 => ?_) fun q2 => ?_
        · walk_at "wq"
          unfold b__law_wrong_105
          walk_at "wq"
          rw [odd (lev_out (by simp at q2; omega))]
        · have q3 : i ≤ 255 := by simpa using q2
          walk_at "wq"
          rcases k with _ | j
          · walk_at "wq"
            exact ⟨_, fun j hj => by rw [show j = 0 by omega]; exact bad_zero hx ⟨q1, q3⟩, rfl⟩
          · obtain ⟨p, hp, hp1, hp2⟩ := bad_prev (hb j (by omega))
            have hp3 : ds[j]'(by omega) = .int p := (List.getElem?_eq_some_iff.mp hp).2
            have hbs := bad_succ hx ⟨q1, q3⟩ hp ⟨hp1, hp2⟩
            rw [kC_t (by simp)]
            walk_at "wq"
            simp only [Nat.add_sub_cancel, hp3, hx2]
            walk_at "wq"
            refine kC_if (fun q4 => ?_) fun q4 => ?_
            · unfold b__law_wrong_105
              walk_at "wq"
              rw [res_bad hk (by rw [hbs]; simpa using q4) hb]
            · walk_at "wq"
              refine ⟨_, fun m hm => ?_, rfl⟩
              rcases Nat.lt_or_ge m (j + 1) with h | h
              · exact hb m h
              · rw [show m = j + 1 by omega, hbs]; simpa using q4
      · walk_at "wq"
        unfold b__law_wrong_105
        walk_at "wq"
        rw [odd (lev_out (by omega))]
    · rw [show isI .non = false from rfl]
      walk_at "wq"
      unfold b__law_wrong_105
      walk_at "wq"
      rw [odd rfl]
    · rw [show isI (.bl true) = false from rfl]
      walk_at "wq"
      unfold b__law_wrong_105
      walk_at "wq"
      rw [odd rfl]
    · rw [show isI (.str "1") = false from rfl]
      walk_at "wq"
      unfold b__law_wrong_105
      walk_at "wq"
      rw [odd rfl]
  · subst hz
    walk_at "wq"
    unfold b__law_wrong_106
    walk_at "wq"
    simp only [List.length_map, List.length_range] at hb
    rw [res_ok hb]
theorem wrong_len {ds : List D} (hl : ds.length ≠ 256) (hl2 : ds.length < 1000) : F__law_wrong [.lst ds] = some (.ok (.tup [.str "wrong", .non]) [none]) := by
  refine eq_of_kR ?_
  unfold F__law_wrong
  refine kR_fn [some (.lst ds), none] rfl ?_
  unfold b__law_wrong b__law_wrong_101
  walk_at "wq"
  rw [show (ds.length == 256) = false by simpa using hl]
  walk_at "wq"
  unfold b__law_wrong_102
  walk_at "wq"
end P87
namespace P87
open PySem L2 Dl Wk
local macro_rules | `(tactic| walk_at "wq") => `(tactic| simp (disch := first | with_reducible assumption | omega | (simp only [List.length_cons, List.length_nil, List.length_map, List.length_append, List.length_range, List.length_replicate, List.length_zip, List.length_reverse, List.length_take, List.length_drop]; omega)) only [isShd_dr, wp_seq, wp_bnd, wp_ret, wp_lft, wp_var, wp_mov, wp_fz, wp_tk, wp_pair, wp_nil, wp_cons, wp_op, wp_un, wp_call, wp_rng, wp_scal, wp_scl1, wp_if, wp_not, wp_and, wp_or, wp_ifk, wp_andV, wp_orV, wp_notV, wp_chain, wp_skip, wp_asg, wp_par, wp_par3, wp_aug, wp_read, wp_readU, wp_len, wp_app, wp_appK, wp_disp, wp_pop, wp_for, wp_while, wp_lc, wp_cl0, wp_subK, kG_sub, kB_ok, kB_ex, kL_ok, kL_ex, kC_true, kC_false, kV_some, kG_some, kR_some, kO_some, kI_ok, kS_nx, kS_rt, kS_bk, kS_ct, kA_ok, kLst_some, kApp_ok, kU_ok, kCl_ok, kBk_ok, kBd_rt, kBd_nx, kF_nx, kF_ct, kF_bk, kF_rt, kW_ok, kT_ok, kE_ok, wp_appV, kAppV_ok, dRng2n, dMul_rep, gtUnl, dRng_n, wp_augO, dZipA_t, dZipA_l, zipD_map,  ite_lim2, List.getElem_range, List.length_range, nat_eq_lit, Nat.reduceBEq, Nat.reduceBNe, Int.reduceBEq, Int.reduceLT, Int.reduceLE, Int.reduceEq, Int.reduceNeg, Nat.reduceLT, Nat.reduceEqDiff, Bool.true_and, Bool.and_true, Bool.false_and, Bool.and_false, dNeg, dNe_bl, dIsNot,  maskIo_0, dIx_ln, dIx_tn, List.getElem_map,  mSeq_ap, mVar_ap, mMov_ap, mTk_ap, mFz_ap, mRead_ap, mReadU_ap, mScal_ap, mOp_ap, mUn_ap, mPair_ap, bnd_ap, lft_ap, ret_ap, mCons_ap, mNil_ap, mCall_ap, mCl0_ap, backIo, mIf_ap, mAnd_ap, mOr_ap, mNot_ap, mAndV_ap, mOrV_ap, mNotV_ap, mChain_ap, mAsg_ap, gtName, gtScal, gtAny, gtSub, gtTup, gtCons, gtNil, mSkip_ap, mApp_ap, mPop_ap, popIx, mLen_ap, ixP, anyItems, shItems, getP, setP, kid, putKid, shOf, unsh_non, unsh_bl, unsh_int, unsh_str, unsh_lst, unsh_tup, unsh_frl, unsh_shd, ite_lim, isShd_non, isShd_bl, isShd_int, isShd_str, isShd_lst, isShd_tup, isShd_frl, isShd_shd, dLst_nil, dTup_nil, toNat_lit, dTup_1, dTup_2, dTup_3, dTup_4, dTup_5, dLst_1, dLst_2, dLst_3, dLst_4, dLst_5, Dl.scal, dTr, dBool, dIs, dIsNot, Dl.isNon, dItems, dPart, dSl, bLen, bInt, bList, bTuple, dMul_i, dFdiv_i, dMod_i, dAdd_i, dSub_i, dLt_i, dLe_i, dGt_i, dGe_i, dEq_i, dNe_i, dEq_bl, dTup_c, dLst_c, mRng_ap, dRng1, rgC_map, Int.toNat_natCast, maskIo_nil, bIsi_bool, bIsi_int, bIsi_str, bIsi_dict, bIsi_list, bIsi_tuple, isiD, wipeD, dAdd_l, dAdd_t, dIx_l, dIx_t, ixN_nat, ixN_of, nat_cast_div, nat_cast_mod, nat_cast_mul, nat_cast_add, nat_add_lit, lit_add_nat, nat_mul_lit, lit_mul_nat, nat_div_lit, nat_mod_lit, nat_sub_lit, nat_lt, nat_le, nat_eq, nat_lt_lit, lit_lt_nat, nat_le_lit, lit_le_nat, dRng_two, nat_cast_sub, dRng3, bMin_n, List.length_map, List.length_set, lim,
  Option.bind_some, Option.map_some, List.getElem?_cons_zero, List.getElem?_cons_succ, List.set_cons_zero, List.set_cons_succ, List.length_cons, List.length_nil, reduceIte, Bool.false_eq_true, decide_eq_true_eq, Nat.reduceAdd, List.map_cons, List.map_nil, List.cons_append, List.nil_append, Nat.reduceSub, Nat.reduceLeDiff, List.replicate_succ, List.replicate_zero, Nat.zero_add, Bool.not_true, Bool.not_false, Bool.or_false, Bool.false_or, Bool.or_true, Bool.true_or, reduceCtorEq, decide_false, decide_true, beq_self_eq_true, List.isEmpty_cons, List.isEmpty_nil])
def c3 (a b c : Int) : D := .tup [.int a, .int b, .int c]
def c4 (a b c d : Int) : D := .tup [.int a, .int b, .int c, .int d]
def min3 (a b c : Int) : Int := min a (min b c)
theorem bMin_3 (a b c : Int) : bMin [.lst [.int a, .int b, .int c]] = some (.int (min3 a b c)) := by
  unfold min3
  show some (D.int (if c < (if b < a then b else a) then c else (if b < a then b else a))) = _
  congr 2
  split <;> split <;> omega
theorem bSum_3 (a b c : Int) : bSum [.lst [.int a, .int b, .int c]] = some (.int (a + b + c)) := by
  have := bSum_i (fun x : Int => x) [a, b, c]
  simp only [List.map_cons, List.map_nil] at this
  rw [this]
  congr 2
  simp
  omega
theorem plates_t (a b c above below : Int) (ha : above.natAbs ≤ 1000) (hb : 0 < below) (hb2 : below ≤ 1000) : F_plates_of [c3 a b c, .int above, .int below] = some (.ok (c4 (255 - a - min3 (255 - a) (255 - b) (255 - c) * above / below) (255 - b - min3 (255 - a) (255 - b) (255 - c) * above / below) (255 - c - min3 (255 - a) (255 - b) (255 - c) * above / below) (min3 (255 - a) (255 - b) (255 - c) * above / below)) [none, none, none]) := by
  refine eq_of_kR ?_
  unfold F_plates_of
  refine kR_fn [some (c3 a b c), some (.int above), some (.int below), none, none, none, none] rfl ?_
  unfold b_plates_of b_plates_of_16 c3
  walk_at "wq"
  refine lcG (α := Int) (enc := .int) (xs := [a, b, c]) (fun x => .int (255 - x)) (by simp) (fun x hx => ?_) ?_
  · simp only [wipeD]
    walk_at "wq"
    and_intros <;> trivial
  simp only [wipeD, List.map_cons, List.map_nil]
  walk_at "wq"
  unfold b_plates_of_17
  walk_at "wq"
  rw [bMin_3]
  walk_at "wq"
  unfold b_plates_of_18
  walk_at "wq"
  refine lcG (α := Int) (enc := .int) (xs := [255 - a, 255 - b, 255 - c]) (fun x => .int (x - min3 (255 - a) (255 - b) (255 - c) * above / below)) (by simp) (fun x hx => ?_) ?_
  · simp only [wipeD]
    walk_at "wq"
    and_intros <;> trivial
  simp only [wipeD, List.map_cons, List.map_nil]
  walk_at "wq"
  rfl
theorem colour_of_t (a b c d : Int) : F_colour_of [c4 a b c d] = some (.ok (c3 (255 - min 255 (a + d)) (255 - min 255 (b + d)) (255 - min 255 (c + d))) [none]) := by
  refine eq_of_kR ?_
  unfold F_colour_of
  refine kR_fn [some (c4 a b c d), none] rfl ?_
  unfold b_colour_of b_colour_of_20 c4
  walk_at "wq"
  rw [show cutD [D.int a, .int b, .int c, .int d] none (some 3) = [.int a, .int b, .int c] from rfl]
  refine lcG (α := Int) (enc := .int) (xs := [a, b, c]) (fun x => .int (255 - min 255 (x + d))) (by simp) (fun x hx => ?_) ?_
  · simp only [wipeD]
    walk_at "wq"
    rw [show bMin [.int 255, .int (x + d)] = some (.int (min 255 (x + d))) by
      show some (D.int (if x + d < 255 then x + d else 255)) = _
      congr 2
      split <;> omega]
    walk_at "wq"
    and_intros <;> trivial
  simp only [wipeD, List.map_cons, List.map_nil]
  walk_at "wq"
  rfl
/-- the least black that keeps the sum within bounds -/
theorem least_w {a b c most : Int} {Q : Rs D → Prop} (n : Nat) (hn : (n : Int) = min3 (255 - a) (255 - b) (255 - c)) (hn2 : n ≤ 255)
    (h1 : ∀ k : Nat, k ≤ n → (255 - a) + (255 - b) + (255 - c) - 2 * (k : Int) ≤ most → (∀ j : Nat, j < k → ¬(255 - a) + (255 - b) + (255 - c) - 2 * (j : Int) ≤ most) → Q (.ok (c4 (255 - a - k) (255 - b - k) (255 - c - k) k) [none, none]))
    (h2 : (∀ j : Nat, j ≤ n → ¬(255 - a) + (255 - b) + (255 - c) - 2 * (j : Int) ≤ most) → Q (.ok .non [none, none])) : kR (F_least_ink [c3 a b c, .int most]) Q := by
  unfold F_least_ink
  refine kR_fn [some (c3 a b c), some (.int most), none, none, none, none] rfl ?_
  unfold b_least_ink b_least_ink_22 c3
  walk_at "wq"
  refine lcG (α := Int) (enc := .int) (xs := [a, b, c]) (fun x => .int (255 - x)) (by simp) (fun x hx => ?_) ?_
  · simp only [wipeD]
    walk_at "wq"
    and_intros <;> trivial
  simp only [wipeD, List.map_cons, List.map_nil]
  walk_at "wq"
  unfold b_least_ink_23
  walk_at "wq"
  rw [bMin_3, ← hn]
  walk_at "wq"
  refine forI (fun ρ0 i ρ => ∃ z3 z4 z5, (∀ j : Nat, j < i → ¬(255 - a) + (255 - b) + (255 - c) - 2 * (j : Int) ≤ most) ∧ ρ = [some (.tup [.int a, .int b, .int c]), some (.int most), some (.lst [.int (255 - a), .int (255 - b), .int (255 - c)]), z3, z4, z5]) ⟨_, _, _, (fun j hj => by omega), rfl⟩ (fun k d ρ' hd ⟨z3, z4, z5, hb, hz⟩ => ?_) fun ρ' ⟨z3, z4, z5, hb, hz⟩ => ?_
  · subst hz
    have hk : k < n + 1 := by
      have := (List.getElem?_eq_some_iff.mp hd).1
      simpa using this
    obtain rfl : d = .int (k : Nat) := by
      rw [List.getElem?_map, List.getElem?_range hk] at hd
      cases hd; rfl
    walk_at "wq"
    unfold b_least_ink_24
    walk_at "wq"
    rw [bSum_3]
    walk_at "wq"
    refine kC_if (fun q1 => ?_) fun q1 => ?_
    · unfold b_least_ink_25
      walk_at "wq"
      refine lcG (α := Int) (enc := .int) (xs := [255 - a, 255 - b, 255 - c]) (fun x => .int (x - k)) (by simp) (fun x hx => ?_) ?_
      · simp only [wipeD]
        walk_at "wq"
        and_intros <;> trivial
      simp only [wipeD, List.map_cons, List.map_nil]
      walk_at "wq"
      exact h1 k (by omega) (by omega) fun j hj => by have := hb j hj; omega
    · walk_at "wq"
      refine ⟨_, _, _, fun j hj => ?_, rfl⟩
      rcases Nat.lt_or_ge j k with h | h
      · exact hb j h
      · rw [show j = k by omega]; exact q1
  · subst hz
    walk_at "wq"
    unfold b_least_ink_26
    walk_at "wq"
    simp only [List.length_map, List.length_range] at hb
    exact h2 fun j hj => hb j (by omega)
theorem colour_w {x : D} {Q : Rs D → Prop} (h : Dr x) (hq : ∀ (y : D) (a b c : Nat), Dr y → a ≤ 255 → b ≤ 255 → c ≤ 255 → Q (.ok (c3 a b c) [some y])) : kR (F__law_colour [x]) Q := by
  unfold F__law_colour
  refine kR_fn [some x, none] rfl ?_
  unfold b__law_colour b__law_colour_116
  walk_at "wq"
  refine lcI (fun ρ0 i acc ρ => ∃ (y : D) (ns : List Nat), Dr y ∧ acc = ns.map (fun n : Nat => .int (n : Nat)) ∧ ns.length = i ∧ (∀ n ∈ ns, n ≤ 255) ∧ ρ = ρ0.set 0 (some y)) (by simp) ⟨x, [], h, rfl, rfl, by simp, rfl⟩ (fun i d acc ρ' hd ha ⟨y, ns, hy, hacc, hn, hb, hz⟩ => ?_) fun acc ρ' ⟨y, ns, hy, hacc, hn, hb, hz⟩ => ?_
  · subst hz
    subst hacc
    simp only [wipeD]
    walk_at "wq"
    refine draw_w hy (by decide) (by decide) fun y2 v2 hy2 hv2 => ?_
    walk_at "wq"
    refine draw_w hy2 (by decide) (by decide) fun y3 v3 hy3 hv3 => ?_
    have mem : ∀ q : Nat, q ≤ 255 → ∀ n ∈ ns ++ [q], n ≤ 255 := fun q hq' n hn' => by
      rcases List.mem_append.mp hn' with h1 | h1
      · exact hb n h1
      · rw [List.mem_singleton] at h1; omega
    have hv : v3 = 0 ∨ v3 = 1 ∨ v3 = 2 ∨ v3 = 3 := by omega
    rcases hv with rfl | rfl | rfl | rfl
    · walk_at "wq"
      exact ⟨y3, ns ++ [0], hy3, by simp, by simp [hn], mem 0 (by omega), rfl⟩
    · walk_at "wq"
      exact ⟨y3, ns ++ [255], hy3, by simp, by simp [hn], mem 255 (by omega), rfl⟩
    · walk_at "wq"
      exact ⟨y3, ns ++ [128], hy3, by simp, by simp [hn], mem 128 (by omega), rfl⟩
    · walk_at "wq"
      exact ⟨y3, ns ++ [v2], hy3, by simp, by simp [hn], mem v2 (by omega), rfl⟩
  · subst hz
    subst hacc
    simp only [wipeD]
    obtain ⟨a, b, c, rfl⟩ : ∃ a b c, ns = [a, b, c] := by
      simp only [List.length_map, List.length_range] at hn
      match ns, hn with
      | [a, b, c], _ => exact ⟨a, b, c, rfl⟩
    simp only [List.map_cons, List.map_nil]
    walk_at "wq"
    exact hq y a b c hy (hb a (by simp)) (hb b (by simp)) (hb c (by simp))
end P87
namespace P87
open PySem L2 Dl Wk
local macro_rules | `(tactic| walk_at "wq") => `(tactic| simp (disch := first | with_reducible assumption | omega | (simp only [List.length_cons, List.length_nil, List.length_map, List.length_append, List.length_range, List.length_replicate, List.length_zip, List.length_reverse, List.length_take, List.length_drop]; omega)) only [isShd_dr, wp_seq, wp_bnd, wp_ret, wp_lft, wp_var, wp_mov, wp_fz, wp_tk, wp_pair, wp_nil, wp_cons, wp_op, wp_un, wp_call, wp_rng, wp_scal, wp_scl1, wp_if, wp_not, wp_and, wp_or, wp_ifk, wp_andV, wp_orV, wp_notV, wp_chain, wp_skip, wp_asg, wp_par, wp_par3, wp_aug, wp_read, wp_readU, wp_len, wp_app, wp_appK, wp_disp, wp_pop, wp_for, wp_while, wp_lc, wp_cl0, wp_subK, kG_sub, kB_ok, kB_ex, kL_ok, kL_ex, kC_true, kC_false, kV_some, kG_some, kR_some, kO_some, kI_ok, kS_nx, kS_rt, kS_bk, kS_ct, kA_ok, kLst_some, kApp_ok, kU_ok, kCl_ok, kBk_ok, kBd_rt, kBd_nx, kF_nx, kF_ct, kF_bk, kF_rt, kW_ok, kT_ok, kE_ok, wp_appV, kAppV_ok, dRng2n, dMul_rep, gtUnl, dRng_n, wp_augO, dZipA_t, dZipA_l, zipD_map,  ite_lim2, List.getElem_range, List.length_range, nat_eq_lit, Nat.reduceBEq, Nat.reduceBNe, Int.reduceBEq, Int.reduceLT, Int.reduceLE, Int.reduceEq, Int.reduceNeg, Nat.reduceLT, Nat.reduceEqDiff, Bool.true_and, Bool.and_true, Bool.false_and, Bool.and_false, dNeg, dNe_bl, dIsNot,  maskIo_0, dIx_ln, dIx_tn, List.getElem_map,  mSeq_ap, mVar_ap, mMov_ap, mTk_ap, mFz_ap, mRead_ap, mReadU_ap, mScal_ap, mOp_ap, mUn_ap, mPair_ap, bnd_ap, lft_ap, ret_ap, mCons_ap, mNil_ap, mCall_ap, mCl0_ap, backIo, mIf_ap, mAnd_ap, mOr_ap, mNot_ap, mAndV_ap, mOrV_ap, mNotV_ap, mChain_ap, mAsg_ap, gtName, gtScal, gtAny, gtSub, gtTup, gtCons, gtNil, mSkip_ap, mApp_ap, mPop_ap, popIx, mLen_ap, ixP, anyItems, shItems, getP, setP, kid, putKid, shOf, unsh_non, unsh_bl, unsh_int, unsh_str, unsh_lst, unsh_tup, unsh_frl, unsh_shd, ite_lim, isShd_non, isShd_bl, isShd_int, isShd_str, isShd_lst, isShd_tup, isShd_frl, isShd_shd, dLst_nil, dTup_nil, toNat_lit, dTup_1, dTup_2, dTup_3, dTup_4, dTup_5, dLst_1, dLst_2, dLst_3, dLst_4, dLst_5, Dl.scal, dTr, dBool, dIs, dIsNot, Dl.isNon, dItems, dPart, dSl, bLen, bInt, bList, bTuple, dMul_i, dFdiv_i, dMod_i, dAdd_i, dSub_i, dLt_i, dLe_i, dGt_i, dGe_i, dEq_i, dNe_i, dEq_bl, dTup_c, dLst_c, mRng_ap, dRng1, rgC_map, Int.toNat_natCast, maskIo_nil, bIsi_bool, bIsi_int, bIsi_str, bIsi_dict, bIsi_list, bIsi_tuple, isiD, wipeD, dAdd_l, dAdd_t, dIx_l, dIx_t, ixN_nat, ixN_of, nat_cast_div, nat_cast_mod, nat_cast_mul, nat_cast_add, nat_add_lit, lit_add_nat, nat_mul_lit, lit_mul_nat, nat_div_lit, nat_mod_lit, nat_sub_lit, nat_lt, nat_le, nat_eq, nat_lt_lit, lit_lt_nat, nat_le_lit, lit_le_nat, dRng_two, nat_cast_sub, dRng3, bMin_n, List.length_map, List.length_set, lim,
  Option.bind_some, Option.map_some, List.getElem?_cons_zero, List.getElem?_cons_succ, List.set_cons_zero, List.set_cons_succ, List.length_cons, List.length_nil, reduceIte, Bool.false_eq_true, decide_eq_true_eq, Nat.reduceAdd, List.map_cons, List.map_nil, List.cons_append, List.nil_append, Nat.reduceSub, Nat.reduceLeDiff, List.replicate_succ, List.replicate_zero, Nat.zero_add, Bool.not_true, Bool.not_false, Bool.or_false, Bool.false_or, Bool.or_true, Bool.true_or, reduceCtorEq, decide_false, decide_true, beq_self_eq_true, List.isEmpty_cons, List.isEmpty_nil])
abbrev iD (n : Nat) : D := .int (n : Nat)
def cD (cs : List Nat) : D := .lst (cs.map iD)
structure Cu (cs : List Nat) : Prop where
  len : cs.length = 256
  top : ∀ n ∈ cs, n ≤ 255
  up : cs.Pairwise (· ≤ ·)
theorem min_n (a b : Nat) : bMin [.int 255, .int ((a + b : Nat) : Int)] = some (.int ((min 255 (a + b) : Nat) : Int)) := by
  show some (D.int (if ((a + b : Nat) : Int) < 255 then ((a + b : Nat) : Int) else 255)) = _
  congr 2
  split <;> omega
theorem curve_w {x : D} {Q : Rs D → Prop} (h : Dr x) (hq : ∀ (y : D) (cs : List Nat), Dr y → Cu cs → Q (.ok (cD cs) [some y])) : kR (F__law_curve [x]) Q := by
  unfold F__law_curve
  refine kR_fn [some x, none, none, none] rfl ?_
  unfold b__law_curve b__law_curve_108
  walk_at "wq"
  unfold b__law_curve_109
  walk_at "wq"
  refine draw_w h (by decide) (by decide) fun y1 v1 hy1 hv1 => ?_
  walk_at "wq"
  unfold b__law_curve_110
  walk_at "wq"
  refine forI (fun ρ0 i ρ => ∃ (y : D) (cs : List Nat) (here : Nat) (z3 : Option D), Dr y ∧ cs.length = i ∧ (∀ n ∈ cs, n ≤ here) ∧ here ≤ 255 ∧ cs.Pairwise (· ≤ ·) ∧ ρ = [some y, some (cD cs), some (iD here), z3]) ⟨y1, [], v1, _, hy1, rfl, by simp, by omega, List.Pairwise.nil, rfl⟩ (fun i d ρ' hd ⟨y, cs, here, z3, hy, hn, hm, ht, hp, hz⟩ => ?_) fun ρ' ⟨y, cs, here, z3, hy, hn, hm, ht, hp, hz⟩ => ?_
  · subst hz
    have hi : i < 256 := by
      have := (List.getElem?_eq_some_iff.mp hd).1
      simpa using this
    have fin : ∀ (y : D) (here : Nat), Dr y → (∀ n ∈ cs, n ≤ here) → here ≤ 255 → Wp b__law_curve_113 [some y, some (cD cs), some (iD here), some d] (kF (fun ρ => ∃ (y : D) (cs : List Nat) (here : Nat) (z3 : Option D), Dr y ∧ cs.length = i + 1 ∧ (∀ n ∈ cs, n ≤ here) ∧ here ≤ 255 ∧ cs.Pairwise (· ≤ ·) ∧ ρ = [some y, some (cD cs), some (iD here), z3]) (kS b__law_curve_114 (kBd [0] 1 Q))) := fun y here hy hm ht => by
      unfold b__law_curve_113 cD
      walk_at "wq"
      refine ⟨y, cs ++ [here], here, some d, hy, by simp [hn], fun n hn' => ?_, ht, List.pairwise_append.mpr ⟨hp, by simp, fun a ha b hb => ?_⟩, by simp⟩
      · rcases List.mem_append.mp hn' with h1 | h1
        · exact hm n h1
        · rw [List.mem_singleton] at h1; omega
      · rw [List.mem_singleton] at hb; subst hb; exact hm a ha
    walk_at "wq"
    unfold b__law_curve_111
    walk_at "wq"
    refine draw_w hy (by decide) (by decide) fun y2 v2 hy2 hv2 => ?_
    walk_at "wq"
    refine kC_by (fun q1 => ?_) fun q1 => ?_
    · unfold b__law_curve_112
      walk_at "wq"
      refine draw_w hy2 (by decide) (by decide) fun y3 v3 hy3 hv3 => ?_
      walk_at "wq"
      rw [min_n]
      walk_at "wq"
      exact fin y3 _ hy3 (fun n hn' => by have := hm n hn'; omega) (by omega)
    · walk_at "wq"
      exact fin y2 _ hy2 hm ht
  · subst hz
    walk_at "wq"
    unfold b__law_curve_114
    walk_at "wq"
    simp only [List.length_map, List.length_range] at hn
    exact hq y cs hy ⟨hn, fun n hn' => by have := hm n hn'; omega, hp⟩
theorem composed_t {one other : List Nat} (h1 : Cu one) (h2 : Cu other) : F_composed [cD one, cD other] = some (.ok (.lst (other.map fun v => iD (one.getD v 0))) [none, none]) := by
  refine eq_of_kR ?_
  unfold F_composed
  refine kR_fn [some (cD one), some (cD other), none] rfl ?_
  unfold b_composed b_composed_50 cD
  walk_at "wq"
  refine lcG (α := Nat) (enc := iD) (fun v => iD (one.getD v 0)) (by rw [h2.len]; omega) (fun v hv => ?_) ?_
  · have hv2 := h2.top v hv
    have hl := h1.len
    simp only [wipeD]
    walk_at "wq"
    refine ⟨?_, trivial⟩
    rw [List.getD_eq_getElem?_getD, List.getElem?_eq_getElem (by omega)]
    rfl
  simp only [wipeD]
  walk_at "wq"
/-- the places back -/
theorem back_w {cs : List Nat} {Q : Rs D → Prop} (h : Cu cs) (hq : ∀ bs : List Nat, bs.length = 256 → (∀ y x : Nat, y < 256 → x < 256 → (bs.getD y 0 ≤ x ↔ y ≤ cs.getD x 0)) → Q (.ok (cD bs) [none])) : kR (F_back_curve [cD cs]) Q := by
  have hl := h.len
  unfold F_back_curve
  refine kR_fn [some (cD cs), none, none, none] rfl ?_
  unfold b_back_curve b_back_curve_52
  walk_at "wq"
  unfold b_back_curve_53
  walk_at "wq"
  unfold b_back_curve_54
  walk_at "wq"
  have mono : ∀ x z : Nat, x ≤ z → z < 256 → cs.getD x 0 ≤ cs.getD z 0 := fun x z hxz hz => by
    rw [List.getD_eq_getElem?_getD, List.getD_eq_getElem?_getD, List.getElem?_eq_getElem (by omega), List.getElem?_eq_getElem (by omega)]
    rcases Nat.lt_or_ge x z with h1 | h1
    · exact List.pairwise_iff_getElem.mp h.up x z (by omega) (by omega) h1
    · obtain rfl : x = z := by omega
      exact Nat.le_refl _
  refine forI (fun ρ0 i ρ => ∃ (bs : List Nat) (a : Nat) (z3 : Option D), bs.length = i ∧ (∀ y x : Nat, y < i → x < 256 → (bs.getD y 0 ≤ x ↔ y ≤ cs.getD x 0)) ∧ a ≤ 256 ∧ (∀ x, x < a → cs.getD x 0 < i) ∧ ρ = [some (cD cs), some (cD bs), some (iD a), z3]) ⟨[], 0, _, rfl, (fun y x hy => by omega), by omega, (fun x hx => by omega), rfl⟩ (fun i d ρ' hd ⟨bs, a, z3, hn, hs, ha, hlo, hz⟩ => ?_) fun ρ' ⟨bs, a, z3, hn, hs, ha, hlo, hz⟩ => ?_
  · subst hz
    have hi : i < 256 := by
      have := (List.getElem?_eq_some_iff.mp hd).1
      simpa using this
    obtain rfl : d = iD i := by
      rw [show (255 + 1 : Int).toNat = 256 from rfl, List.getElem?_map, List.getElem?_range hi] at hd
      cases hd; rfl
    walk_at "wq"
    unfold b_back_curve_55
    walk_at "wq"
    refine whI (fun ρ0 (a : Nat) ρ => a ≤ 256 ∧ (∀ x, x < a → cs.getD x 0 < i) ∧ ρ = [some (cD cs), some (cD bs), some (iD a), some (iD i)]) (fun a => 256 - a) a ⟨ha, fun x hx => by have := hlo x hx; omega, rfl⟩ (by omega) fun a ρ' ⟨h1, h2, h3⟩ => ?_
    subst h3
    have fin : (∀ x, x < a → cs.getD x 0 < i) → (a = 256 ∨ i ≤ cs.getD a 0) → Wp b_back_curve_57 [some (cD cs), some (cD bs), some (iD a), some (iD i)] (kF (fun ρ => ∃ (bs : List Nat) (a : Nat) (z3 : Option D), bs.length = i + 1 ∧ (∀ y x : Nat, y < i + 1 → x < 256 → (bs.getD y 0 ≤ x ↔ y ≤ cs.getD x 0)) ∧ a ≤ 256 ∧ (∀ x, x < a → cs.getD x 0 < i + 1) ∧ ρ = [some (cD cs), some (cD bs), some (iD a), z3]) (kS b_back_curve_58 (kBd [] 1 Q))) := fun h2 h4 => by
      unfold b_back_curve_57
      rw [show cD bs = .lst (bs.map iD) from rfl]
      walk_at "wq"
      refine ⟨bs ++ [a], a, some (iD i), by simp [hn], fun y x hy hx => ?_, h1, fun x hx => by have := h2 x hx; omega, by simp [cD]⟩
      rcases Nat.lt_or_ge y i with hyi | hyi
      · rw [List.getD_eq_getElem?_getD, List.getElem?_append_left (by omega), ← List.getD_eq_getElem?_getD]
        exact hs y x hyi hx
      · obtain rfl : y = i := by omega
        rw [List.getD_eq_getElem?_getD, List.getElem?_append_right (by omega), hn, Nat.sub_self]
        show a ≤ x ↔ _
        constructor
        · intro hax
          rcases h4 with rfl | h4
          · omega
          · exact Nat.le_trans h4 (mono a x hax hx)
        · intro hyx
          rcases Nat.lt_or_ge x a with h5 | h5
          · have := h2 x h5; omega
          · exact h5
    walk_at "wq"
    refine kC_if (fun q1 => ?_) fun q1 => ?_
    · have hix : dIx (cD cs) (iD a) = some (iD (cs.getD a 0)) := by
        show L2.atI _ _ = _
        rw [Dl.atI_nat, List.getElem?_map, List.getD_eq_getElem?_getD, List.getElem?_eq_getElem (by omega)]
        rfl
      walk_at "wq"
      rw [hix]
      walk_at "wq"
      refine kC_if (fun q2 => ?_) fun q2 => ?_
      · unfold b_back_curve_56
        walk_at "wq"
        refine ⟨a + 1, by omega, by omega, fun x hx => ?_, rfl⟩
        rcases Nat.lt_or_ge x a with h5 | h5
        · exact h2 x h5
        · rw [show x = a by omega]; exact q2
      · exact fin h2 (.inr (by omega))
    · walk_at "wq"
      exact fin h2 (.inl (by omega))
  · subst hz
    walk_at "wq"
    unfold b_back_curve_58
    walk_at "wq"
    simp only [List.length_map, List.length_range] at hn hs
    exact hq bs hn hs
end P87
namespace P87
open PySem L2 Dl Wk
abbrev Pn := Nat × Nat
def eP (p : Pn) : D := .tup [iD p.1, iD p.2]
theorem eP0 (p : Pn) : dIx (eP p) (.int 0) = some (iD p.1) := rfl
theorem eP1 (p : Pn) : dIx (eP p) (.int 1) = some (iD p.2) := rfl
theorem unsh_eP (p : Pn) : unsh (eP p) = eP p := rfl
/-- between two points -/
def mid (p q : Pn) (x : Nat) : Int := (p.2 : Int) + ((q.2 : Int) - (p.2 : Int)) * ((x : Int) - (p.1 : Int)) / ((q.1 : Int) - (p.1 : Int))
/-- the points behind a place and ahead of it -/
def beh (ps : List Pn) (x : Nat) : List Pn := ps.filter fun p => decide (p.1 ≤ x)
def ahd (ps : List Pn) (x : Nat) : List Pn := ps.filter fun p => decide (x < p.1)
def thrL : Option Pn → Option Pn → Nat → Int
  | none, some q, _ => q.2
  | none, none, _ => 0
  | some p, none, _ => p.2
  | some p, some q, x => mid p q x
def thr (ps : List Pn) (x : Nat) : Int := thrL (beh ps x).getLast? (ahd ps x).head? x
/-- sorted points are parted by a place -/
theorem parted {ps : List Pn} (h : ps.Pairwise fun p q => p.1 < q.1) (x : Nat) : ps = beh ps x ++ ahd ps x := by
  induction ps with
  | nil => rfl
  | cons p ps ih =>
    obtain ⟨h1, h2⟩ := List.pairwise_cons.mp h
    unfold beh ahd at *
    by_cases hp : p.1 ≤ x
    · rw [List.filter_cons_of_pos (by simpa using hp), List.filter_cons_of_neg (by simpa using hp), List.cons_append, ← ih h2]
    · have hn : ps.filter (fun p => decide (p.1 ≤ x)) = [] := List.filter_eq_nil_iff.mpr fun q hq => by have := h1 q hq; simp; omega
      rw [List.filter_cons_of_neg (by simpa using hp), List.filter_cons_of_pos (by simp; omega), hn, List.nil_append]
      congr 1
      rw [hn, List.nil_append] at ih
      exact ih h2
theorem last_or (l : List Pn) : l = [] ∨ ∃ m p, l = m ++ [p] := by
  rcases List.eq_nil_or_concat l with h | ⟨m, p, h⟩
  · exact .inl h
  · exact .inr ⟨m, p, by simpa using h⟩
theorem ixN_m1 (k : Nat) : ixN (k + 1) (-1) = some k := by
  unfold ixN
  rw [if_neg (by omega), if_pos (by omega)]
  congr 1
  omega
theorem ix_m1 (m : List Pn) (p : Pn) : dIx (.lst ((m ++ [p]).map eP)) (.int (-1)) = some (eP p) := by
  show L2.atI _ _ = _
  unfold L2.atI
  rw [show ((m ++ [p]).map eP).length = m.length + 1 by simp, ixN_m1]
  simp
theorem ix_0 (m : List Pn) (p : Pn) : dIx (.lst ((p :: m).map eP)) (.int 0) = some (eP p) := by
  show L2.atI _ _ = _
  rw [show (0 : Int) = ((0 : Nat) : Int) from rfl, Dl.atI_nat]
  rfl
local macro_rules | `(tactic| walk_at "wq") => `(tactic| simp (disch := first | with_reducible assumption | omega | (simp only [List.length_cons, List.length_nil, List.length_map, List.length_append, List.length_range, List.length_replicate, List.length_zip, List.length_reverse, List.length_take, List.length_drop]; omega)) only [isShd_dr, eP0, eP1, unsh_eP, ix_m1, ix_0, wp_seq, wp_bnd, wp_ret, wp_lft, wp_var, wp_mov, wp_fz, wp_tk, wp_pair, wp_nil, wp_cons, wp_op, wp_un, wp_call, wp_rng, wp_scal, wp_scl1, wp_if, wp_not, wp_and, wp_or, wp_ifk, wp_andV, wp_orV, wp_notV, wp_chain, wp_skip, wp_asg, wp_par, wp_par3, wp_aug, wp_read, wp_readU, wp_len, wp_app, wp_appK, wp_disp, wp_pop, wp_for, wp_while, wp_lc, wp_cl0, wp_subK, kG_sub, kB_ok, kB_ex, kL_ok, kL_ex, kC_true, kC_false, kV_some, kG_some, kR_some, kO_some, kI_ok, kS_nx, kS_rt, kS_bk, kS_ct, kA_ok, kLst_some, kApp_ok, kU_ok, kCl_ok, kBk_ok, kBd_rt, kBd_nx, kF_nx, kF_ct, kF_bk, kF_rt, kW_ok, kT_ok, kE_ok, wp_appV, kAppV_ok, dRng2n, dMul_rep, gtUnl, dRng_n, wp_augO, dZipA_t, dZipA_l, zipD_map,  ite_lim2, List.getElem_range, List.length_range, nat_eq_lit, Nat.reduceBEq, Nat.reduceBNe, Int.reduceBEq, Int.reduceLT, Int.reduceLE, Int.reduceEq, Int.reduceNeg, Nat.reduceLT, Nat.reduceEqDiff, Bool.true_and, Bool.and_true, Bool.false_and, Bool.and_false, dNeg, dNe_bl, dIsNot,  maskIo_0, dIx_ln, dIx_tn, List.getElem_map,  mSeq_ap, mVar_ap, mMov_ap, mTk_ap, mFz_ap, mRead_ap, mReadU_ap, mScal_ap, mOp_ap, mUn_ap, mPair_ap, bnd_ap, lft_ap, ret_ap, mCons_ap, mNil_ap, mCall_ap, mCl0_ap, backIo, mIf_ap, mAnd_ap, mOr_ap, mNot_ap, mAndV_ap, mOrV_ap, mNotV_ap, mChain_ap, mAsg_ap, gtName, gtScal, gtAny, gtSub, gtTup, gtCons, gtNil, mSkip_ap, mApp_ap, mPop_ap, popIx, mLen_ap, ixP, anyItems, shItems, getP, setP, kid, putKid, shOf, unsh_non, unsh_bl, unsh_int, unsh_str, unsh_lst, unsh_tup, unsh_frl, unsh_shd, ite_lim, isShd_non, isShd_bl, isShd_int, isShd_str, isShd_lst, isShd_tup, isShd_frl, isShd_shd, dLst_nil, dTup_nil, toNat_lit, dTup_1, dTup_2, dTup_3, dTup_4, dTup_5, dLst_1, dLst_2, dLst_3, dLst_4, dLst_5, Dl.scal, dTr, dBool, dIs, dIsNot, Dl.isNon, dItems, dPart, dSl, bLen, bInt, bList, bTuple, dMul_i, dFdiv_i, dMod_i, dAdd_i, dSub_i, dLt_i, dLe_i, dGt_i, dGe_i, dEq_i, dNe_i, dEq_bl, dTup_c, dLst_c, mRng_ap, dRng1, rgC_map, Int.toNat_natCast, maskIo_nil, bIsi_bool, bIsi_int, bIsi_str, bIsi_dict, bIsi_list, bIsi_tuple, isiD, wipeD, dAdd_l, dAdd_t, dIx_l, dIx_t, ixN_nat, ixN_of, nat_cast_div, nat_cast_mod, nat_cast_mul, nat_cast_add, nat_add_lit, lit_add_nat, nat_mul_lit, lit_mul_nat, nat_div_lit, nat_mod_lit, nat_sub_lit, nat_lt, nat_le, nat_eq, nat_lt_lit, lit_lt_nat, nat_le_lit, lit_le_nat, dRng_two, nat_cast_sub, dRng3, bMin_n, List.length_map, List.length_set, lim,
  Option.bind_some, Option.map_some, List.getElem?_cons_zero, List.getElem?_cons_succ, List.set_cons_zero, List.set_cons_succ, List.length_cons, List.length_nil, reduceIte, Bool.false_eq_true, decide_eq_true_eq, Nat.reduceAdd, List.map_cons, List.map_nil, List.cons_append, List.nil_append, Nat.reduceSub, Nat.reduceLeDiff, List.replicate_succ, List.replicate_zero, Nat.zero_add, Bool.not_true, Bool.not_false, Bool.or_false, Bool.false_or, Bool.or_true, Bool.true_or, reduceCtorEq, decide_false, decide_true, beq_self_eq_true, List.isEmpty_cons, List.isEmpty_nil])
theorem through_t (ps : List Pn) (hl : ps.length ≤ 60) (h0 : ps ≠ []) (hs : ps.Pairwise fun p q => p.1 < q.1) (hb : ∀ p ∈ ps, p.1 ≤ 255 ∧ p.2 ≤ 255) : F_curve_through [.lst (ps.map eP)] = some (.ok (.lst ((List.range 256).map fun x => .int (thr ps x))) [none]) := by
  refine eq_of_kR ?_
  unfold F_curve_through
  refine kR_fn [some (.lst (ps.map eP)), none, none, none, none, none, none, none, none, none] rfl ?_
  unfold b_curve_through b_curve_through_37
  walk_at "wq"
  unfold b_curve_through_38
  walk_at "wq"
  rw [show (255 + 1 : Int).toNat = 256 from rfl]
  refine forA (α := Nat) (β := D) (fun x => .int (thr ps x)) (fun ρ0 acc ρ => ∃ z2 z3 z4 z5 z6 z7 z8 z9, ρ = [some (.lst (ps.map eP)), some (.lst acc), z2, z3, z4, z5, z6, z7, z8, z9]) ⟨_, _, _, _, _, _, _, _, rfl⟩ (fun acc x ρ' hx ha ⟨z2, z3, z4, z5, z6, z7, z8, z9, hz⟩ => ?_) fun ρ' ⟨z2, z3, z4, z5, z6, z7, z8, z9, hz⟩ => ?_
  · subst hz
    rw [List.length_range] at ha
    walk_at "wq"
    unfold b_curve_through_39
    walk_at "wq"
    refine lcP (α := Pn) (fun p => decide (p.1 ≤ x)) eP (by omega) (fun p hp => ?_) ?_
    · simp only [wipeD]
      walk_at "wq"
      refine kC_if (fun q => ⟨by simpa using q, rfl, rfl⟩) fun q => ⟨by simpa using q, rfl⟩
    simp only [wipeD]
    walk_at "wq"
    unfold b_curve_through_40
    walk_at "wq"
    refine lcP (α := Pn) (fun p => decide (x < p.1)) eP (by omega) (fun p hp => ?_) ?_
    · simp only [wipeD]
      walk_at "wq"
      refine kC_if (fun q => ⟨by simpa using q, rfl, rfl⟩) fun q => ⟨by simpa using q, rfl⟩
    simp only [wipeD]
    walk_at "wq"
    rw [show ps.filter (fun p => decide (p.1 ≤ x)) = beh ps x from rfl, show ps.filter (fun p => decide (x < p.1)) = ahd ps x from rfl]
    have hpt := parted hs x
    unfold b_curve_through_41
    walk_at "wq"
    have ht : thr ps x = thrL (beh ps x).getLast? (ahd ps x).head? x := rfl
    have hbe : ∀ p ∈ beh ps x, p.1 ≤ x ∧ p.1 ≤ 255 ∧ p.2 ≤ 255 := fun p hp => by
      obtain ⟨h1, h2⟩ := List.mem_filter.mp hp
      exact ⟨by simpa using h2, hb p h1⟩
    have hah : ∀ p ∈ ahd ps x, x < p.1 ∧ p.1 ≤ 255 ∧ p.2 ≤ 255 := fun p hp => by
      obtain ⟨h1, h2⟩ := List.mem_filter.mp hp
      exact ⟨by simpa using h2, hb p h1⟩
    generalize thr ps x = w at *
    generalize beh ps x = be at *
    generalize ahd ps x = ah at *
    rcases last_or be with rfl | ⟨m, p, rfl⟩
    · obtain ⟨q, t, rfl⟩ : ∃ q t, ah = q :: t := by
        cases ah with
        | nil => exact absurd hpt h0
        | cons q t => exact ⟨q, t, rfl⟩
      rw [kC_t (by rfl)]
      unfold b_curve_through_42
      walk_at "wq"
      rw [ht]
      exact ⟨_, _, _, _, _, _, _, _, rfl⟩
    · rw [kC_f (by simp)]
      have hp := hbe p (by simp)
      unfold b_curve_through_43
      walk_at "wq"
      cases ah with
      | nil =>
        rw [kC_t (by rfl)]
        unfold b_curve_through_44
        walk_at "wq"
        rw [ht, show thrL (m ++ [p]).getLast? [].head? x = p.2 by simp [thrL]]
        exact ⟨_, _, _, _, _, _, _, _, rfl⟩
      | cons q t =>
        have hq := hah q (by simp)
        rw [kC_f (by simp)]
        rw [show thrL (m ++ [p]).getLast? (q :: t).head? x = mid p q x by simp [thrL]] at ht
        walk_at "wq"
        unfold b_curve_through_46
        walk_at "wq"
        rw [show eP p = .tup [iD p.1, iD p.2] from rfl, show eP q = .tup [iD q.1, iD q.2] from rfl]
        walk_at "wq"
        unfold b_curve_through_47
        walk_at "wq"
        have e1 : ((x - p.1 : Nat) : Int) = (x : Int) - (p.1 : Int) := by omega
        have e2 : ((q.1 - p.1 : Nat) : Int) = (q.1 : Int) - (p.1 : Int) := by omega
        rw [ht, show mid p q x = (p.2 : Int) + ((q.2 : Int) - (p.2 : Int)) * ((x - p.1 : Nat) : Int) / ((q.1 - p.1 : Nat) : Int) by rw [e1, e2]; rfl]
        exact ⟨_, _, _, _, _, _, _, _, rfl⟩
  · subst hz
    walk_at "wq"
    unfold b_curve_through_48
    walk_at "wq"
/-- the law's own sum -/
theorem mid_eq {p q : Pn} (h : p.1 < q.1) (x : Nat) : ((p.2 : Int) * ((q.1 : Int) - x) + (q.2 : Int) * ((x : Int) - p.1)) / ((q.1 : Int) - p.1) = mid p q x := by
  unfold mid
  rw [show (p.2 : Int) * ((q.1 : Int) - x) + (q.2 : Int) * ((x : Int) - p.1) = ((q.2 : Int) - p.2) * ((x : Int) - p.1) + (p.2 : Int) * ((q.1 : Int) - p.1) by
    simp only [Int.mul_sub, Int.sub_mul]; omega]
  rw [Int.add_mul_ediv_right _ _ (by omega)]
  omega
end P87
namespace P87
open PySem L2 Dl Wk
theorem unsh_c3 (a b c : Int) : unsh (c3 a b c) = c3 a b c := rfl
theorem unsh_c4 (a b c d : Int) : unsh (c4 a b c d) = c4 a b c d := rfl
theorem Dt_c3 (a b c : Int) : Dt 1 (c3 a b c) := Dt.t (by simp) fun x hx => by
  simp at hx
  rcases hx with rfl | rfl | rfl <;> exact Dt.int 0 _
theorem Dt_c4 (a b c d : Int) : Dt 1 (c4 a b c d) := Dt.t (by simp) fun x hx => by
  simp at hx
  rcases hx with rfl | rfl | rfl | rfl <;> exact Dt.int 0 _
theorem Dt.l2 {n : Nat} {a b : D} (h1 : Dt n a) (h2 : Dt n b) : Dt (n + 1) (.lst [a, b]) := Dt.l (by simp) fun x hx => by
  simp at hx
  rcases hx with rfl | rfl <;> assumption
theorem min3_n {a b c : Nat} (ha : a ≤ 255) (hb : b ≤ 255) (hc : c ≤ 255) : ∃ n : Nat, (n : Int) = min3 (255 - a) (255 - b) (255 - c) ∧ n + a ≤ 255 ∧ n + b ≤ 255 ∧ n + c ≤ 255 := ⟨min (255 - a) (min (255 - b) (255 - c)), by unfold min3; omega, by omega, by omega, by omega⟩
local macro_rules | `(tactic| walk_at "wq") => `(tactic| simp (disch := first | with_reducible assumption | omega | (simp only [List.length_cons, List.length_nil, List.length_map, List.length_append, List.length_range, List.length_replicate, List.length_zip, List.length_reverse, List.length_take, List.length_drop]; omega)) only [isShd_dr, unsh_c3, unsh_c4, wp_seq, wp_bnd, wp_ret, wp_lft, wp_var, wp_mov, wp_fz, wp_tk, wp_pair, wp_nil, wp_cons, wp_op, wp_un, wp_call, wp_rng, wp_scal, wp_scl1, wp_if, wp_not, wp_and, wp_or, wp_ifk, wp_andV, wp_orV, wp_notV, wp_chain, wp_skip, wp_asg, wp_par, wp_par3, wp_aug, wp_read, wp_readU, wp_len, wp_app, wp_appK, wp_disp, wp_pop, wp_for, wp_while, wp_lc, wp_cl0, wp_subK, kG_sub, kB_ok, kB_ex, kL_ok, kL_ex, kC_true, kC_false, kV_some, kG_some, kR_some, kO_some, kI_ok, kS_nx, kS_rt, kS_bk, kS_ct, kA_ok, kLst_some, kApp_ok, kU_ok, kCl_ok, kBk_ok, kBd_rt, kBd_nx, kF_nx, kF_ct, kF_bk, kF_rt, kW_ok, kT_ok, kE_ok, wp_appV, kAppV_ok, dRng2n, dMul_rep, gtUnl, dRng_n, wp_augO, dZipA_t, dZipA_l, zipD_map,  ite_lim2, List.getElem_range, List.length_range, nat_eq_lit, Nat.reduceBEq, Nat.reduceBNe, Int.reduceBEq, Int.reduceLT, Int.reduceLE, Int.reduceEq, Int.reduceNeg, Nat.reduceLT, Nat.reduceEqDiff, Bool.true_and, Bool.and_true, Bool.false_and, Bool.and_false, dNeg, dNe_bl, dIsNot,  maskIo_0, dIx_ln, dIx_tn, List.getElem_map,  mSeq_ap, mVar_ap, mMov_ap, mTk_ap, mFz_ap, mRead_ap, mReadU_ap, mScal_ap, mOp_ap, mUn_ap, mPair_ap, bnd_ap, lft_ap, ret_ap, mCons_ap, mNil_ap, mCall_ap, mCl0_ap, backIo, mIf_ap, mAnd_ap, mOr_ap, mNot_ap, mAndV_ap, mOrV_ap, mNotV_ap, mChain_ap, mAsg_ap, gtName, gtScal, gtAny, gtSub, gtTup, gtCons, gtNil, mSkip_ap, mApp_ap, mPop_ap, popIx, mLen_ap, ixP, anyItems, shItems, getP, setP, kid, putKid, shOf, unsh_non, unsh_bl, unsh_int, unsh_str, unsh_lst, unsh_tup, unsh_frl, unsh_shd, ite_lim, isShd_non, isShd_bl, isShd_int, isShd_str, isShd_lst, isShd_tup, isShd_frl, isShd_shd, dLst_nil, dTup_nil, toNat_lit, dTup_1, dTup_2, dTup_3, dTup_4, dTup_5, dLst_1, dLst_2, dLst_3, dLst_4, dLst_5, Dl.scal, dTr, dBool, dIs, dIsNot, Dl.isNon, dItems, dPart, dSl, bLen, bInt, bList, bTuple, dMul_i, dFdiv_i, dMod_i, dAdd_i, dSub_i, dLt_i, dLe_i, dGt_i, dGe_i, dEq_i, dNe_i, dEq_bl, dTup_c, dLst_c, mRng_ap, dRng1, rgC_map, Int.toNat_natCast, maskIo_nil, bIsi_bool, bIsi_int, bIsi_str, bIsi_dict, bIsi_list, bIsi_tuple, isiD, wipeD, dAdd_l, dAdd_t, dIx_l, dIx_t, ixN_nat, ixN_of, nat_cast_div, nat_cast_mod, nat_cast_mul, nat_cast_add, nat_add_lit, lit_add_nat, nat_mul_lit, lit_mul_nat, nat_div_lit, nat_mod_lit, nat_sub_lit, nat_lt, nat_le, nat_eq, nat_lt_lit, lit_lt_nat, nat_le_lit, lit_le_nat, dRng_two, nat_cast_sub, dRng3, bMin_n, List.length_map, List.length_set, lim,
  Option.bind_some, Option.map_some, List.getElem?_cons_zero, List.getElem?_cons_succ, List.set_cons_zero, List.set_cons_succ, List.length_cons, List.length_nil, reduceIte, Bool.false_eq_true, decide_eq_true_eq, Nat.reduceAdd, List.map_cons, List.map_nil, List.cons_append, List.nil_append, Nat.reduceSub, Nat.reduceLeDiff, List.replicate_succ, List.replicate_zero, Nat.zero_add, Bool.not_true, Bool.not_false, Bool.or_false, Bool.false_or, Bool.or_true, Bool.true_or, reduceCtorEq, decide_false, decide_true, beq_self_eq_true, List.isEmpty_cons, List.isEmpty_nil])
theorem colturn_w {x : D} (h : Dr x) (z0 z2 z3 z4 z5 z6 z7 z8 z9 z10 z11 z12 z13 z14 z15 z16 z17 z18 z19 z20 z21 z22 z23 z24 z25 z26 z27 z28 z29 : Option D) (Q : Rs Fl → Prop) (hq : ∀ (y : D) (zs : List (Option D)), Dr y → zs.length = 28 → Q (.ok .nx (z0 :: some y :: zs))) :
    Wp (mSeq b_law_120 (mSeq b_law_121 (mSeq b_law_122 (mSeq b_law_123 (mSeq b_law_124 (mSeq b_law_125 (mSeq b_law_126 (mSeq b_law_128 (mSeq b_law_129 (mSeq b_law_131 (mSeq b_law_132 (mSeq b_law_133 b_law_134)))))))))))) [z0, some x, z2, z3, z4, z5, z6, z7, z8, z9, z10, z11, z12, z13, z14, z15, z16, z17, z18, z19, z20, z21, z22, z23, z24, z25, z26, z27, z28, z29] Q := by
  unfold b_law_120
  walk_at "wq"
  refine colour_w h fun x1 a b c h1 ha hb hc => ?_
  walk_at "wq"
  unfold b_law_121
  walk_at "wq"
  refine draw_w h1 (by decide) (by decide) fun x2 v h2 hv => ?_
  walk_at "wq"
  unfold b_law_122
  walk_at "wq"
  refine draw_w h2 (by omega) (by omega) fun x3 above h3 hab => ?_
  walk_at "wq"
  have hbl : 0 < 1 + v := by omega
  have hbl2 : 1 + v ≤ 9 := by omega
  generalize 1 + v = below at *
  unfold b_law_123
  walk_at "wq"
  rw [show c3 (a : Int) b c = .tup (([a, b, c] : List Nat).map fun n : Nat => D.int (n : Nat)) from rfl]
  walk_at "wq"
  refine lcG (α := Int) (enc := .int) (xs := [(a : Int), b, c]) (fun x => .int (255 - x)) (by simp) (fun x hx => ?_) ?_
  · simp only [wipeD]
    walk_at "wq"
    and_intros <;> trivial
  simp only [wipeD, List.map_cons, List.map_nil]
  obtain ⟨n, hn, na, nb, nc⟩ := min3_n ha hb hc
  walk_at "wq"
  unfold b_law_124
  walk_at "wq"
  rw [bMin_3, ← hn]
  walk_at "wq"
  unfold b_law_125
  walk_at "wq"
  rw [show D.tup [.int (a : Nat), .int (b : Nat), .int (c : Nat)] = c3 a b c from rfl, plates_t _ _ _ _ _ (by omega) (by omega) (by omega), ← hn]
  have hblk : (n : Int) * (above : Int) / (below : Int) = ((n * above / below : Nat) : Int) := by rw [Int.natCast_ediv, Int.natCast_mul]
  have hble : n * above / below ≤ n := Nat.div_le_of_le_mul (by rw [Nat.mul_comm]; exact Nat.mul_le_mul_right n (by omega))
  rw [hblk]
  generalize n * above / below = blk at *
  walk_at "wq"
  unfold b_law_126
  walk_at "wq"
  rw [colour_of_t]
  walk_at "wq"
  rw [show c3 (255 - min 255 (255 - (a : Int) - blk + blk)) (255 - min 255 (255 - (b : Int) - blk + blk)) (255 - min 255 (255 - (c : Int) - blk + blk)) = c3 a b c by
    rw [show 255 - min 255 (255 - (a : Int) - blk + blk) = a by omega, show 255 - min 255 (255 - (b : Int) - blk + blk) = b by omega, show 255 - min 255 (255 - (c : Int) - blk + blk) = c by omega]]
  refine same_w (n := 2) (Dt.l2 (Dt_c4 _ _ _ _) (Dt_c3 a b c)) rfl (by decide) ?_
  walk_at "wq"
  unfold b_law_128
  walk_at "wq"
  refine lcI (fun ρ0 i acc ρ => ∃ (y : D) (ns : List Nat), Dr y ∧ acc = ns.map (fun n : Nat => .int (n : Nat)) ∧ ns.length = i ∧ (∀ n ∈ ns, n ≤ 255) ∧ ρ = ρ0.set 1 (some y)) (by simp) ⟨x3, [], h3, rfl, rfl, by simp, rfl⟩ (fun i d acc ρ' hd ha' ⟨y, ns, hy, hacc, hns, hb', hz⟩ => ?_) fun acc ρ' ⟨y, ns, hy, hacc, hns, hb', hz⟩ => ?_
  · subst hz
    subst hacc
    simp only [wipeD]
    walk_at "wq"
    refine draw_w hy (by decide) (by decide) fun y2 v2 hy2 hv2 => ?_
    walk_at "wq"
    refine ⟨y2, ns ++ [v2], hy2, by simp, by simp [hns], fun m hm => ?_, rfl⟩
    rcases List.mem_append.mp hm with h1 | h1
    · exact hb' m h1
    · rw [List.mem_singleton] at h1; omega
  subst hz
  subst hacc
  obtain ⟨p0, p1, p2, p3, rfl⟩ : ∃ p0 p1 p2 p3, ns = [p0, p1, p2, p3] := by
    simp only [List.length_map, List.length_range] at hns
    match ns, hns with
    | [p0, p1, p2, p3], _ => exact ⟨p0, p1, p2, p3, rfl⟩
  have b0 := hb' p0 (by simp)
  have b1 := hb' p1 (by simp)
  have b2 := hb' p2 (by simp)
  have b3 := hb' p3 (by simp)
  simp only [wipeD, List.map_cons, List.map_nil]
  walk_at "wq"
  unfold b_law_129
  walk_at "wq"
  have hc := colour_of_t p0 p1 p2 p3
  unfold c4 at hc
  rw [hc]
  walk_at "wq"
  rw [show cutD [D.int (p0 : Nat), .int (p1 : Nat), .int (p2 : Nat), .int (p3 : Nat)] none (some 3) = [.int (p0 : Nat), .int (p1 : Nat), .int (p2 : Nat)] from rfl]
  refine lcG (α := Int) (enc := .int) (xs := [(p0 : Int), p1, p2]) (fun x => .int (max 0 (255 - x - p3))) (by simp) (fun x hx => ?_) ?_
  · simp only [wipeD]
    walk_at "wq"
    rw [show bMax [.int 0, .int (255 - x - p3)] = some (.int (max 0 (255 - x - p3))) by
      show some (D.int (if 255 - x - p3 > 0 then 255 - x - p3 else 0)) = _
      congr 2
      split <;> omega]
    walk_at "wq"
    and_intros <;> trivial
  simp only [wipeD, List.map_cons, List.map_nil]
  walk_at "wq"
  refine same_w (n := 1) (Dt_c3 _ _ _) ?_ (by decide) ?_
  · show c3 _ _ _ = c3 _ _ _
    rw [show 255 - min 255 ((p0 + p3 : Nat) : Int) = max 0 (255 - (p0 : Int) - p3) by omega, show 255 - min 255 ((p1 + p3 : Nat) : Int) = max 0 (255 - (p1 : Int) - p3) by omega, show 255 - min 255 ((p2 + p3 : Nat) : Int) = max 0 (255 - (p2 : Int) - p3) by omega]
  walk_at "wq"
  unfold b_law_131
  walk_at "wq"
  refine draw_w hy (by decide) (by decide) fun x5 most h5 hmo => ?_
  walk_at "wq"
  unfold b_law_132
  walk_at "wq"
  rw [bMin_3, ← hn]
  walk_at "wq"
  refine lcP (α := Nat) (fun k => decide ((255 - (a : Int)) + (255 - b) + (255 - c) - 3 * (k : Int) + k ≤ most)) (fun k : Nat => .int (k : Nat)) (by rw [List.length_range]; omega) (fun k hk => ?_) ?_
  · simp only [wipeD]
    walk_at "wq"
    rw [bSum_3]
    walk_at "wq"
    refine kC_if (fun q => ⟨by simpa using q, rfl, rfl⟩) fun q => ⟨by simpa using q, rfl⟩
  simp only [wipeD]
  walk_at "wq"
  unfold b_law_133
  walk_at "wq"
  have hhd : ((List.range (n + 1)).filter fun k : Nat => decide (255 - (a : Int) + (255 - (b : Int)) + (255 - (c : Int)) - ((3 * k : Nat) : Int) + (k : Int) ≤ (most : Int))).head? = (List.range (n + 1)).find? fun k : Nat => decide (255 - (a : Int) + (255 - (b : Int)) + (255 - (c : Int)) - ((3 * k : Nat) : Int) + (k : Int) ≤ (most : Int)) := List.head?_filter
  generalize ((List.range (n + 1)).filter fun k : Nat => decide (255 - (a : Int) + (255 - (b : Int)) + (255 - (c : Int)) - ((3 * k : Nat) : Int) + (k : Int) ≤ (most : Int))) = L at *
  cases L with
  | nil =>
    have hno := List.find?_range_eq_none.mp hhd.symm
    rw [kC_t (by rfl)]
    walk_at "wq"
    unfold b_law_134
    walk_at "wq"
    refine least_w n hn (by omega) (fun k hk hle hmin => ?_) fun hall => ?_
    · have := hno k (by omega)
      simp at this
      omega
    · walk_at "wq"
      refine same_w (n := 0) (Dt.non 0) rfl (by decide) ?_
      walk_at "wq"
      exact hq _ _ h5 rfl
  | cons k t =>
    obtain ⟨k1, k2, k3⟩ := List.find?_range_eq_some.mp hhd.symm
    have hk2 : k < n + 1 := by simpa using k2
    rw [kC_f (by simp)]
    walk_at "wq"
    unfold b_law_134
    walk_at "wq"
    have k1' : 255 - (a : Int) + (255 - (b : Int)) + (255 - (c : Int)) - ((3 * k : Nat) : Int) + (k : Int) ≤ (most : Int) := by simpa using k1
    refine least_w n hn (by omega) (fun k' hk' hle hmin => ?_) fun hall => ?_
    · have hkk : k' = k := by
        rcases Nat.lt_trichotomy k' k with h | h | h
        · have := k3 k' h
          simp at this
          omega
        · exact h
        · have := hmin k h
          omega
      subst hkk
      walk_at "wq"
      refine same_w (n := 1) (Dt_c4 _ _ _ _) rfl (by decide) ?_
      walk_at "wq"
      exact hq _ _ h5 rfl
    · have := hall k (by omega)
      omega
end P87
namespace P87
open PySem L2 Dl Wk
theorem bList_c (cs : List Nat) : bList [cD cs] = some (cD cs) := rfl
theorem unsh_c (cs : List Nat) : unsh (cD cs) = cD cs := rfl
theorem isShd_c (cs : List Nat) : isShd (cD cs) = false := rfl
theorem ix_c {cs : List Nat} {x : Nat} (h : x < cs.length) : dIx (cD cs) (.int (x : Nat)) = some (iD (cs.getD x 0)) := by
  show L2.atI _ _ = _
  rw [Dl.atI_nat, List.getElem?_map, List.getD_eq_getElem?_getD, List.getElem?_eq_getElem h]
  rfl
theorem len_c (cs : List Nat) : bLen [cD cs] = some (.int ((cs.length : Nat) : Int)) := by
  show some (D.int (((cs.map iD).length : Nat) : Int)) = _
  rw [List.length_map]
theorem Dt_c (cs : List Nat) (h : cs.length ≤ 1000) : Dt 1 (cD cs) := Dt.lm (by omega) fun n _ => Dt.int 0 _
theorem map_range (other : List Nat) (g : Nat → D) (h : other.length = 256) : other.map g = (List.range 256).map fun k => g (other.getD k 0) := by
  apply List.ext_getElem
  · simp [h]
  · intro i h1 h2
    simp only [List.getElem_map, List.getElem_range]
    rw [List.getD_eq_getElem?_getD, List.getElem?_eq_getElem (by simpa using h1)]
    rfl
local macro_rules | `(tactic| walk_at "wq") => `(tactic| simp (disch := first | with_reducible assumption | omega | (simp only [List.length_cons, List.length_nil, List.length_map, List.length_append, List.length_range, List.length_replicate, List.length_zip, List.length_reverse, List.length_take, List.length_drop]; omega)) only [isShd_dr, bList_c, unsh_c, isShd_c, len_c, wp_seq, wp_bnd, wp_ret, wp_lft, wp_var, wp_mov, wp_fz, wp_tk, wp_pair, wp_nil, wp_cons, wp_op, wp_un, wp_call, wp_rng, wp_scal, wp_scl1, wp_if, wp_not, wp_and, wp_or, wp_ifk, wp_andV, wp_orV, wp_notV, wp_chain, wp_skip, wp_asg, wp_par, wp_par3, wp_aug, wp_read, wp_readU, wp_len, wp_app, wp_appK, wp_disp, wp_pop, wp_for, wp_while, wp_lc, wp_cl0, wp_subK, kG_sub, kB_ok, kB_ex, kL_ok, kL_ex, kC_true, kC_false, kV_some, kG_some, kR_some, kO_some, kI_ok, kS_nx, kS_rt, kS_bk, kS_ct, kA_ok, kLst_some, kApp_ok, kU_ok, kCl_ok, kBk_ok, kBd_rt, kBd_nx, kF_nx, kF_ct, kF_bk, kF_rt, kW_ok, kT_ok, kE_ok, wp_appV, kAppV_ok, dRng2n, dMul_rep, gtUnl, dRng_n, wp_augO, dZipA_t, dZipA_l, zipD_map,  ite_lim2, List.getElem_range, List.length_range, nat_eq_lit, Nat.reduceBEq, Nat.reduceBNe, Int.reduceBEq, Int.reduceLT, Int.reduceLE, Int.reduceEq, Int.reduceNeg, Nat.reduceLT, Nat.reduceEqDiff, Bool.true_and, Bool.and_true, Bool.false_and, Bool.and_false, dNeg, dNe_bl, dIsNot,  maskIo_0, dIx_ln, dIx_tn, List.getElem_map,  mSeq_ap, mVar_ap, mMov_ap, mTk_ap, mFz_ap, mRead_ap, mReadU_ap, mScal_ap, mOp_ap, mUn_ap, mPair_ap, bnd_ap, lft_ap, ret_ap, mCons_ap, mNil_ap, mCall_ap, mCl0_ap, backIo, mIf_ap, mAnd_ap, mOr_ap, mNot_ap, mAndV_ap, mOrV_ap, mNotV_ap, mChain_ap, mAsg_ap, gtName, gtScal, gtAny, gtSub, gtTup, gtCons, gtNil, mSkip_ap, mApp_ap, mPop_ap, popIx, mLen_ap, ixP, anyItems, shItems, getP, setP, kid, putKid, shOf, unsh_non, unsh_bl, unsh_int, unsh_str, unsh_lst, unsh_tup, unsh_frl, unsh_shd, ite_lim, isShd_non, isShd_bl, isShd_int, isShd_str, isShd_lst, isShd_tup, isShd_frl, isShd_shd, dLst_nil, dTup_nil, toNat_lit, dTup_1, dTup_2, dTup_3, dTup_4, dTup_5, dLst_1, dLst_2, dLst_3, dLst_4, dLst_5, Dl.scal, dTr, dBool, dIs, dIsNot, Dl.isNon, dItems, dPart, dSl, bLen, bInt, bList, bTuple, dMul_i, dFdiv_i, dMod_i, dAdd_i, dSub_i, dLt_i, dLe_i, dGt_i, dGe_i, dEq_i, dNe_i, dEq_bl, dTup_c, dLst_c, mRng_ap, dRng1, rgC_map, Int.toNat_natCast, maskIo_nil, bIsi_bool, bIsi_int, bIsi_str, bIsi_dict, bIsi_list, bIsi_tuple, isiD, wipeD, dAdd_l, dAdd_t, dIx_l, dIx_t, ixN_nat, ixN_of, nat_cast_div, nat_cast_mod, nat_cast_mul, nat_cast_add, nat_add_lit, lit_add_nat, nat_mul_lit, lit_mul_nat, nat_div_lit, nat_mod_lit, nat_sub_lit, nat_lt, nat_le, nat_eq, nat_lt_lit, lit_lt_nat, nat_le_lit, lit_le_nat, dRng_two, nat_cast_sub, dRng3, bMin_n, List.length_map, List.length_set, lim,
  Option.bind_some, Option.map_some, List.getElem?_cons_zero, List.getElem?_cons_succ, List.set_cons_zero, List.set_cons_succ, List.length_cons, List.length_nil, reduceIte, Bool.false_eq_true, decide_eq_true_eq, Nat.reduceAdd, List.map_cons, List.map_nil, List.cons_append, List.nil_append, Nat.reduceSub, Nat.reduceLeDiff, List.replicate_succ, List.replicate_zero, Nat.zero_add, Bool.not_true, Bool.not_false, Bool.or_false, Bool.false_or, Bool.or_true, Bool.true_or, reduceCtorEq, decide_false, decide_true, beq_self_eq_true, List.isEmpty_cons, List.isEmpty_nil])
theorem partA_w {x : D} (h : Dr x) {R : Mr Fl} (z0 z1 z2 z3 z4 z5 z6 z7 z8 z9 z10 z11 z12 z13 z14 z15 z16 z17 z18 z19 z20 z21 z22 z23 z24 z25 z26 z27 z28 z29 : Option D) (Q : Rs Fl → Prop)
    (hq : ∀ (y : D) (one other bs : List Nat) (z0 z1 z2 z3 z4 z5 z6 z7 z8 z9 z10 z11 z12 z13 z14 z15 z16 z17 z18 z19 z20 z21 z22 z23 z24 z25 z26 z27 z28 z29 : Option D), Dr y → Cu one → Cu other → Wp R [z0, some y, z2, z3, z4, z5, z6, z7, z8, z9, z10, z11, z12, z13, z14, some (cD one), some (cD other), some (cD bs), z18, z19, z20, z21, z22, z23, z24, z25, z26, z27, z28, z29] Q) :
    Wp (mSeq b_law_136 (mSeq b_law_137 (mSeq b_law_138 (mSeq b_law_140 R)))) [z0, some x, z2, z3, z4, z5, z6, z7, z8, z9, z10, z11, z12, z13, z14, z15, z16, z17, z18, z19, z20, z21, z22, z23, z24, z25, z26, z27, z28, z29] Q := by
  unfold b_law_136
  walk_at "wq"
  refine curve_w h fun x1 one h1 c1 => ?_
  walk_at "wq"
  refine curve_w h1 fun x2 other h2 c2 => ?_
  walk_at "wq"
  unfold b_law_137
  walk_at "wq"
  refine back_w c1 fun bs hbl hbs => ?_
  walk_at "wq"
  unfold b_law_138
  walk_at "wq"
  rw [composed_t c1 c2]
  walk_at "wq"
  show kO (bLen [cD bs]) _ _
  rw [len_c]
  walk_at "wq"
  refine lcG (α := Nat) (enc := iD) (xs := List.range 256) (fun k => iD (one.getD (other.getD k 0) 0)) (by rw [List.length_range]; omega) (fun k hk => ?_) ?_
  · have hk := List.mem_range.mp hk
    have hl1 := c1.len
    have hl2 := c2.len
    have ho : other.getD k 0 ≤ 255 := by
      rw [List.getD_eq_getElem?_getD, List.getElem?_eq_getElem (by omega)]
      exact c2.top _ (List.getElem_mem _)
    simp only [wipeD]
    walk_at "wq"
    rw [ix_c (by omega)]
    walk_at "wq"
    rw [ix_c (by omega)]
    walk_at "wq"
    and_intros <;> first | rfl | trivial
  simp only [wipeD]
  walk_at "wq"
  rw [map_range other _ c2.len, hbl]
  have hrg : (List.range 256).length ≤ 16777216 := by rw [List.length_range]; omega
  rw [show (((256 : Nat) : Int)) = 256 from rfl]
  generalize List.range 256 = rg at hrg ⊢
  refine same_w (n := 2) (Dt.l2 (Dt.lm (by simpa using hrg) fun k _ => Dt.int 0 _) (Dt.int 1 _)) rfl (by decide) ?_
  walk_at "wq"
  unfold b_law_140
  walk_at "wq"
  refine forI (fun ρ0 i ρ => ∃ (y : D) (z11 z18 z19 : Option D), Dr y ∧ ρ = [z0, some y, z2, z3, z4, z5, z6, z7, z8, z9, z10, z11, z12, z13, z14, some (cD one), some (cD other), some (cD bs), z18, z19, z20, z21, z22, z23, z24, z25, z26, z27, z28, z29]) ⟨x2, _, _, _, h2, rfl⟩ (fun i d ρ' hd ⟨y, z11, z18, z19, hy, hz⟩ => ?_) fun ρ' ⟨y, z11, z18, z19, hy, hz⟩ => ?_
  · subst hz
    walk_at "wq"
    unfold b_law_141
    walk_at "wq"
    refine draw_w hy (by decide) (by decide) fun y2 xx hy2 hxx => ?_
    walk_at "wq"
    refine draw_w hy2 (by decide) (by decide) fun y3 yy hy3 hyy => ?_
    walk_at "wq"
    unfold b_law_142
    walk_at "wq"
    have hl1 := c1.len
    rw [ix_c (by omega)]
    walk_at "wq"
    rw [whole_w (.inl ⟨_, rfl⟩)]
    walk_at "wq"
    rw [show (!isI (iD (bs.getD yy 0))) = false from rfl, kC_false]
    walk_at "wq"
    rw [ix_c (by omega)]
    walk_at "wq"
    rw [ix_c (by omega)]
    walk_at "wq"
    have hb := hbs yy xx (by omega) (by omega)
    rw [show (!(decide (bs.getD yy 0 ≤ xx) == decide (yy ≤ one.getD xx 0))) = false by simp only [hb, beq_self_eq_true, Bool.not_true], kC_false]
    walk_at "wq"
    exact ⟨y3, _, _, _, hy3, rfl⟩
  · subst hz
    walk_at "wq"
    exact hq y one other bs z0 none z2 z3 z4 z5 z6 z7 z8 z9 z10 z11 z12 z13 z14 none none none z18 z19 z20 z21 z22 z23 z24 z25 z26 z27 z28 z29 hy c1 c2
end P87
namespace P87
open PySem L2 Dl Wk
theorem el7 {v : Nat} (h : v < 7) : El ([D.int 256, D.int (0 - 1), D.non, D.bl true, D.str (Str.ofString "1"), D.int 0, D.int 255][v]'h) := by
  obtain rfl | rfl | rfl | rfl | rfl | rfl | rfl : v = 0 ∨ v = 1 ∨ v = 2 ∨ v = 3 ∨ v = 4 ∨ v = 5 ∨ v = 6 := by omega
  · exact .inl ⟨_, rfl⟩
  · exact .inl ⟨_, rfl⟩
  · exact .inr (.inl rfl)
  · exact .inr (.inr (.inl rfl))
  · exact .inr (.inr (.inr rfl))
  · exact .inl ⟨_, rfl⟩
  · exact .inl ⟨_, rfl⟩
theorem El_set {os : List D} {k : Nat} {e : D} (h : ∀ d ∈ os, El d) (he : El e) : ∀ d ∈ os.set k e, El d := fun d hd => by
  rcases List.mem_or_eq_of_mem_set hd with h1 | h1
  · exact h d h1
  · exact h1 ▸ he
theorem El_c {cs : List Nat} : ∀ d ∈ cs.map iD, El d := fun d hd => by
  obtain ⟨n, _, rfl⟩ := List.mem_map.mp hd
  exact .inl ⟨_, rfl⟩
theorem pick4 {ds os : List D} {a w : Nat} (hd1 : ds.length = 256) (hd2 : ∀ d ∈ ds, El d) (hl1 : os.length = 256) (hel : ∀ d ∈ os, El d) (ha : a < 256) (hw : w < 4) :
    ∃ us : List D, [D.lst ds, D.lst os, D.lst (cutD ds none (some (a : Int))), D.lst (os ++ [D.int 255])][w]'hw = .lst us ∧ ((us.length = 256 ∧ ∀ d ∈ us, El d) ∨ (us.length ≠ 256 ∧ us.length < 1000)) := by
  obtain rfl | rfl | rfl | rfl : w = 0 ∨ w = 1 ∨ w = 2 ∨ w = 3 := by omega
  · exact ⟨_, rfl, .inl ⟨hd1, hd2⟩⟩
  · exact ⟨_, rfl, .inl ⟨hl1, hel⟩⟩
  · refine ⟨_, rfl, .inr ?_⟩
    have : (cutD ds none (some (a : Int))).length = a := by
      unfold cutD HT.sIx
      have h0 : ¬ ((a : Int) < 0) := by omega
      simp only [h0, if_false, Int.toNat_natCast, List.drop_zero, List.length_take, Nat.sub_zero]
      omega
    omega
  · refine ⟨_, rfl, .inr ?_⟩
    simp [hl1]
theorem Dt_res (ds : List D) : Dt 1 (res ds) := by
  unfold res
  split
  · exact Dt.t (by simp) (Dt.cons (.str 0 _ (by decide +kernel)) (Dt.cons (.int 0 _) (Dt.nil (f := D.lst))))
  · exact Dt.t (by simp) (Dt.cons (.str 0 _ (by decide +kernel)) (Dt.cons (.non 0) (Dt.nil (f := D.lst))))
local macro_rules | `(tactic| walk_at "wq") => `(tactic| simp (disch := first | with_reducible assumption | omega | (simp only [List.length_cons, List.length_nil, List.length_map, List.length_append, List.length_range, List.length_replicate, List.length_zip, List.length_reverse, List.length_take, List.length_drop]; omega)) only [isShd_dr, bList_c, unsh_c, isShd_c, wp_seq, wp_bnd, wp_ret, wp_lft, wp_var, wp_mov, wp_fz, wp_tk, wp_pair, wp_nil, wp_cons, wp_op, wp_un, wp_call, wp_rng, wp_scal, wp_scl1, wp_if, wp_not, wp_and, wp_or, wp_ifk, wp_andV, wp_orV, wp_notV, wp_chain, wp_skip, wp_asg, wp_par, wp_par3, wp_aug, wp_read, wp_readU, wp_len, wp_app, wp_appK, wp_disp, wp_pop, wp_for, wp_while, wp_lc, wp_cl0, wp_subK, kG_sub, kB_ok, kB_ex, kL_ok, kL_ex, kC_true, kC_false, kV_some, kG_some, kR_some, kO_some, kI_ok, kS_nx, kS_rt, kS_bk, kS_ct, kA_ok, kLst_some, kApp_ok, kU_ok, kCl_ok, kBk_ok, kBd_rt, kBd_nx, kF_nx, kF_ct, kF_bk, kF_rt, kW_ok, kT_ok, kE_ok, wp_appV, kAppV_ok, dRng2n, dMul_rep, gtUnl, dRng_n, wp_augO, dZipA_t, dZipA_l, zipD_map,  ite_lim2, List.getElem_range, List.length_range, nat_eq_lit, Nat.reduceBEq, Nat.reduceBNe, Int.reduceBEq, Int.reduceLT, Int.reduceLE, Int.reduceEq, Int.reduceNeg, Nat.reduceLT, Nat.reduceEqDiff, Bool.true_and, Bool.and_true, Bool.false_and, Bool.and_false, dNeg, dNe_bl, dIsNot,  maskIo_0, dIx_ln, dIx_tn, List.getElem_map,  mSeq_ap, mVar_ap, mMov_ap, mTk_ap, mFz_ap, mRead_ap, mReadU_ap, mScal_ap, mOp_ap, mUn_ap, mPair_ap, bnd_ap, lft_ap, ret_ap, mCons_ap, mNil_ap, mCall_ap, mCl0_ap, backIo, mIf_ap, mAnd_ap, mOr_ap, mNot_ap, mAndV_ap, mOrV_ap, mNotV_ap, mChain_ap, mAsg_ap, gtName, gtScal, gtAny, gtSub, gtTup, gtCons, gtNil, mSkip_ap, mApp_ap, mPop_ap, popIx, mLen_ap, ixP, anyItems, shItems, getP, setP, kid, putKid, shOf, unsh_non, unsh_bl, unsh_int, unsh_str, unsh_lst, unsh_tup, unsh_frl, unsh_shd, ite_lim, isShd_non, isShd_bl, isShd_int, isShd_str, isShd_lst, isShd_tup, isShd_frl, isShd_shd, dLst_nil, dTup_nil, toNat_lit, dTup_1, dTup_2, dTup_3, dTup_4, dTup_5, dLst_1, dLst_2, dLst_3, dLst_4, dLst_5, Dl.scal, dTr, dBool, dIs, dIsNot, Dl.isNon, dItems, dPart, dSl, bLen, bInt, bList, bTuple, dMul_i, dFdiv_i, dMod_i, dAdd_i, dSub_i, dLt_i, dLe_i, dGt_i, dGe_i, dEq_i, dNe_i, dEq_bl, dTup_c, dLst_c, mRng_ap, dRng1, rgC_map, Int.toNat_natCast, maskIo_nil, bIsi_bool, bIsi_int, bIsi_str, bIsi_dict, bIsi_list, bIsi_tuple, isiD, wipeD, dAdd_l, dAdd_t, dIx_l, dIx_t, ixN_nat, ixN_of, nat_cast_div, nat_cast_mod, nat_cast_mul, nat_cast_add, nat_add_lit, lit_add_nat, nat_mul_lit, lit_mul_nat, nat_div_lit, nat_mod_lit, nat_sub_lit, nat_lt, nat_le, nat_eq, nat_lt_lit, lit_lt_nat, nat_le_lit, lit_le_nat, dRng_two, nat_cast_sub, dRng3, bMin_n, List.length_map, List.length_set, lim,
  Option.bind_some, Option.map_some, List.getElem?_cons_zero, List.getElem?_cons_succ, List.set_cons_zero, List.set_cons_succ, List.length_cons, List.length_nil, reduceIte, Bool.false_eq_true, decide_eq_true_eq, Nat.reduceAdd, List.map_cons, List.map_nil, List.cons_append, List.nil_append, Nat.reduceSub, Nat.reduceLeDiff, List.replicate_succ, List.replicate_zero, Nat.zero_add, Bool.not_true, Bool.not_false, Bool.or_false, Bool.false_or, Bool.or_true, Bool.true_or, reduceCtorEq, decide_false, decide_true, beq_self_eq_true, List.isEmpty_cons, List.isEmpty_nil])
theorem partB_w {x : D} (h : Dr x) {os : List D} (hl1 : os.length = 256) (hel : ∀ d ∈ os, El d) {R : Mr Fl} (z0 z1 z2 z3 z4 z5 z6 z7 z8 z9 z10 z11 z12 z13 z14 z15 z16 z17 z18 z19 z20 z21 z22 z23 z24 z25 z26 z27 z28 z29 : Option D) (Q : Rs Fl → Prop)
    (hq : ∀ (y : D) (z0 z1 z2 z3 z4 z5 z6 z7 z8 z9 z10 z11 z12 z13 z14 z15 z16 z17 z18 z19 z20 z21 z22 z23 z24 z25 z26 z27 z28 z29 : Option D), Dr y → Wp R [z0, some y, z2, z3, z4, z5, z6, z7, z8, z9, z10, z11, z12, z13, z14, some (.lst os), z16, z17, z18, z19, z20, z21, z22, z23, z24, z25, z26, z27, z28, z29] Q) :
    Wp (mSeq b_law_144 R) [z0, some x, z2, z3, z4, z5, z6, z7, z8, z9, z10, z11, z12, z13, z14, some (.lst os), z16, z17, z18, z19, z20, z21, z22, z23, z24, z25, z26, z27, z28, z29] Q := by
  unfold b_law_144
  walk_at "wq"
  refine forI (fun ρ0 i ρ => ∃ (y : D) (z11 z20 z21 : Option D), Dr y ∧ ρ = [z0, some y, z2, z3, z4, z5, z6, z7, z8, z9, z10, z11, z12, z13, z14, some (.lst os), z16, z17, z18, z19, z20, z21, z22, z23, z24, z25, z26, z27, z28, z29]) ⟨x, _, _, _, h, rfl⟩ (fun i d ρ' hd ⟨y, z11, z20, z21, hy, hz⟩ => ?_) fun ρ' ⟨y, z11, z20, z21, hy, hz⟩ => ?_
  · subst hz
    walk_at "wq"
    unfold b_law_145
    walk_at "wq"
    unfold b_law_146
    walk_at "wq"
    refine draw_w hy (by decide) (by decide) fun y2 at_ hy2 hat => ?_
    walk_at "wq"
    unfold b_law_147
    walk_at "wq"
    refine draw_w hy2 (by decide) (by decide) fun y3 v hy3 hv => ?_
    walk_at "wq"
    have he := el7 (v := v) (by omega)
    generalize [D.int 256, D.int (0 - 1), D.non, D.bl true, D.str (Str.ofString "1"), D.int 0, D.int 255][v]'(by simp; omega) = e at he ⊢
    have hd1 : (os.set at_ e).length = 256 := by rw [List.length_set]; exact hl1
    have hd2 := El_set (k := at_) hel he
    generalize os.set at_ e = ds at hd1 hd2 ⊢
    unfold b_law_148
    walk_at "wq"
    refine draw_w hy3 (by decide) (by decide) fun y4 w hy4 hw => ?_
    walk_at "wq"
    obtain ⟨us, hu, hc⟩ := pick4 hd1 hd2 hl1 hel (show at_ < 256 by omega) (show w < 4 by omega)
    rw [hu]
    simp only [gtShd, List.set_cons_succ, List.set_cons_zero]
    walk_at "wq"
    unfold b_law_149
    walk_at "wq"
    rcases hc with ⟨u1, u2⟩ | ⟨u1, u2⟩
    · refine kR_of_eq (told_t u1 u2) ?_
      walk_at "wq"
      refine kR_of_eq (wrong_t u1 u2) ?_
      walk_at "wq"
      refine same_w (n := 1) (Dt_res us) rfl (by decide) ?_
      walk_at "wq"
      exact ⟨y4, _, _, _, hy4, rfl⟩
    · refine kR_of_eq (told_len u1 u2) ?_
      walk_at "wq"
      refine kR_of_eq (wrong_len u1 u2) ?_
      walk_at "wq"
      refine same_w (n := 1) (Dt.t (by simp) (Dt.cons (.str 0 _ (by decide +kernel)) (Dt.cons (.non 0) (Dt.nil (f := D.lst))))) rfl (by decide) ?_
      walk_at "wq"
      exact ⟨y4, _, _, _, hy4, rfl⟩
  · subst hz
    walk_at "wq"
    exact hq y z0 none z2 z3 z4 z5 z6 z7 z8 z9 z10 z11 z12 z13 z14 none z16 z17 z18 z19 z20 z21 z22 z23 z24 z25 z26 z27 z28 z29 hy
end P87
namespace P87
open PySem L2 Dl Wk
theorem insU_len (k : Int) : ∀ l : List Int, (insU k l).length ≤ l.length + 1
  | [] => by simp [insU]
  | j :: l => by
    have := insU_len k l
    unfold insU
    split
    · simp
    · split <;> simp <;> omega
theorem sset_len : ∀ l : List Int, (sset l).length ≤ l.length
  | [] => by simp [sset]
  | n :: l => by
    have := sset_len l
    have h2 := insU_len n (sset l)
    show (insU n (sset l)).length ≤ _
    simp only [List.length_cons]; omega
theorem fs_of (ns : List Nat) : ∃ fs : List Nat, sset (ns.map fun n : Nat => (n : Int)) = fs.map (fun n : Nat => (n : Int)) ∧ fs.length ≤ ns.length ∧ fs.Pairwise (· < ·) ∧ (∀ n ∈ fs, n ∈ ns) ∧ (ns ≠ [] → fs ≠ []) := by
  have hm : ∀ j, j ∈ sset (ns.map fun n : Nat => (n : Int)) → ∃ n ∈ ns, (n : Int) = j := fun j hj => by
    have := mem_sset.mp hj
    simpa using this
  have he : ((sset (ns.map fun n : Nat => (n : Int))).map Int.toNat).map (fun n : Nat => (n : Int)) = sset (ns.map fun n : Nat => (n : Int)) := by
    rw [List.map_map]
    conv => rhs; rw [← List.map_id (sset (ns.map fun n : Nat => (n : Int)))]
    refine List.map_congr_left fun j hj => ?_
    obtain ⟨n, _, rfl⟩ := hm j hj
    simp
  refine ⟨(sset (ns.map fun n : Nat => (n : Int))).map Int.toNat, he.symm, ?_, ?_, ?_, ?_⟩
  · have := sset_len (ns.map fun n : Nat => (n : Int))
    simpa using this
  · rw [List.pairwise_map]
    refine (srt_sset _).imp_of_mem ?_
    intro a b ha hb hab
    obtain ⟨n, _, rfl⟩ := hm a ha
    obtain ⟨k, _, rfl⟩ := hm b hb
    simp; omega
  · intro n hn
    obtain ⟨j, hj, rfl⟩ := List.mem_map.mp hn
    obtain ⟨k, hk, rfl⟩ := hm j hj
    simpa using hk
  · intro h0 h1
    obtain ⟨n, hn⟩ := List.exists_mem_of_ne_nil ns h0
    have : (n : Int) ∈ sset (ns.map fun n : Nat => (n : Int)) := mem_sset.mpr (List.mem_map.mpr ⟨n, hn, rfl⟩)
    rw [List.map_eq_nil_iff.mp h1] at this
    exact nomatch this
theorem ints_n : ∀ ns : List Nat, intsD (ns.map iD) = some (ns.map fun n : Nat => (n : Int))
  | [] => rfl
  | n :: ns => by
    have := ints_n ns
    simp only [List.map_cons, intsD, this]
    rfl
theorem dsset_t {ns fs : List Nat} (h : sset (ns.map fun n : Nat => (n : Int)) = fs.map (fun n : Nat => (n : Int))) (hl : ns.length ≤ 60) : dSSet (.lst (ns.map iD)) = some (.lst (fs.map iD)) := by
  unfold dSSet
  show (intsD (ns.map iD)).bind _ = _
  rw [ints_n]
  show (if _ then _ else none) = _
  rw [if_pos (by simpa using hl), h, List.map_map]
  rfl
/-- how far the turns have come -/
def dueZ (ps : List Pn) (x i : Nat) : Int :=
  if 1 ≤ (beh ps x).length ∧ (beh ps x).length ≤ i then mid (ps.getD ((beh ps x).length - 1) (0, 0)) (ps.getD (beh ps x).length (0, 0)) x
  else if x < (ps.getD 0 (0, 0)).1 then (ps.getD 0 (0, 0)).2 else (ps.getD (ps.length - 1) (0, 0)).2
theorem beh_lt {ps : List Pn} (h : ps.Pairwise fun p q => p.1 < q.1) (x : Nat) {j : Nat} (hj : j < ps.length) : (ps.getD j (0, 0)).1 ≤ x ↔ j < (beh ps x).length := by
  have hp := parted h x
  have hb : ∀ p ∈ beh ps x, p.1 ≤ x := fun p hp => by
    obtain ⟨_, h2⟩ := List.mem_filter.mp hp
    simpa using h2
  have ha : ∀ p ∈ ahd ps x, x < p.1 := fun p hp => by
    obtain ⟨_, h2⟩ := List.mem_filter.mp hp
    simpa using h2
  generalize beh ps x = be at *
  generalize ahd ps x = ah at *
  subst hp
  rw [List.getD_eq_getElem?_getD]
  rcases Nat.lt_or_ge j be.length with h1 | h1
  · rw [List.getElem?_append_left h1, List.getElem?_eq_getElem h1]
    have := hb _ (List.getElem_mem h1)
    exact ⟨fun _ => h1, fun _ => this⟩
  · have h2 : j - be.length < ah.length := by rw [List.length_append] at hj; omega
    rw [List.getElem?_append_right h1, List.getElem?_eq_getElem h2]
    have := ha _ (List.getElem_mem h2)
    simp only [Option.getD_some]
    omega
theorem due_yes {ps : List Pn} (h : ps.Pairwise fun p q => p.1 < q.1) {x k : Nat} (hk : k + 1 < ps.length) (h1 : (ps.getD k (0, 0)).1 ≤ x) (h2 : x < (ps.getD (k + 1) (0, 0)).1) : dueZ ps x (k + 1) = mid (ps.getD k (0, 0)) (ps.getD (k + 1) (0, 0)) x := by
  have e1 := (beh_lt h x (j := k) (by omega)).mp h1
  have e2 := beh_lt h x (j := k + 1) (by omega)
  have e3 : (beh ps x).length = k + 1 := by
    have : ¬ (k + 1 < (beh ps x).length) := fun h3 => by have := e2.mpr h3; omega
    omega
  unfold dueZ
  rw [e3, if_pos (by omega)]
  rfl
theorem due_no {ps : List Pn} (h : ps.Pairwise fun p q => p.1 < q.1) {x k : Nat} (hk : k + 1 < ps.length) (h1 : ¬((ps.getD k (0, 0)).1 ≤ x ∧ x < (ps.getD (k + 1) (0, 0)).1)) : dueZ ps x (k + 1) = dueZ ps x k := by
  have e1 := beh_lt h x (j := k) (by omega)
  have e2 := beh_lt h x (j := k + 1) (by omega)
  have e3 : (beh ps x).length ≠ k + 1 := fun h3 => h1 ⟨e1.mpr (by omega), by
    have : ¬ ((ps.getD (k + 1) (0, 0)).1 ≤ x) := fun h4 => by have := e2.mp h4; omega
    omega⟩
  unfold dueZ
  by_cases hm : 1 ≤ (beh ps x).length ∧ (beh ps x).length ≤ k
  · rw [if_pos (by omega), if_pos hm]
  · rw [if_neg (by omega), if_neg hm]
theorem due_end {ps : List Pn} (h : ps.Pairwise fun p q => p.1 < q.1) (h0 : ps ≠ []) (x : Nat) : dueZ ps x (ps.length - 1) = thr ps x := by
  have hl : 0 < ps.length := List.length_pos_iff.mpr h0
  have e0 := beh_lt h x (j := 0) hl
  have hp := parted h x
  unfold dueZ thr
  generalize beh ps x = be at *
  generalize ahd ps x = ah at *
  subst hp
  rcases last_or be with rfl | ⟨m, p, rfl⟩
  · cases ah with
    | nil => exact absurd rfl h0
    | cons q t =>
      rw [if_neg (by simp), if_pos (by have : ¬ _ := fun h4 => absurd (e0.mp h4) (by simp); omega)]
      rfl
  · cases ah with
    | nil =>
      rw [if_neg (by simp), if_neg (by have := e0.mpr (by simp); omega)]
      simp [thrL]
    | cons q t =>
      rw [if_pos (by simp)]
      simp [thrL]
theorem due_0 {ps : List Pn} (x : Nat) : dueZ ps x 0 = if x < (ps.getD 0 (0, 0)).1 then ((ps.getD 0 (0, 0)).2 : Int) else ((ps.getD (ps.length - 1) (0, 0)).2 : Int) := by
  unfold dueZ
  rw [if_neg (by omega)]
end P87
namespace P87
open PySem L2 Dl Wk
/-- points that rise -/
structure Pns (ps : List Pn) : Prop where
  ne : ps ≠ []
  le : ps.length ≤ 60
  up : ps.Pairwise fun p q => p.1 < q.1
  top : ∀ p ∈ ps, p.1 ≤ 255 ∧ p.2 ≤ 255
local macro_rules | `(tactic| walk_at "wq") => `(tactic| simp (disch := first | with_reducible assumption | omega | (simp only [List.length_cons, List.length_nil, List.length_map, List.length_append, List.length_range, List.length_replicate, List.length_zip, List.length_reverse, List.length_take, List.length_drop]; omega)) only [isShd_dr, eP0, eP1, unsh_eP, wp_seq, wp_bnd, wp_ret, wp_lft, wp_var, wp_mov, wp_fz, wp_tk, wp_pair, wp_nil, wp_cons, wp_op, wp_un, wp_call, wp_rng, wp_scal, wp_scl1, wp_if, wp_not, wp_and, wp_or, wp_ifk, wp_andV, wp_orV, wp_notV, wp_chain, wp_skip, wp_asg, wp_par, wp_par3, wp_aug, wp_read, wp_readU, wp_len, wp_app, wp_appK, wp_disp, wp_pop, wp_for, wp_while, wp_lc, wp_cl0, wp_subK, kG_sub, kB_ok, kB_ex, kL_ok, kL_ex, kC_true, kC_false, kV_some, kG_some, kR_some, kO_some, kI_ok, kS_nx, kS_rt, kS_bk, kS_ct, kA_ok, kLst_some, kApp_ok, kU_ok, kCl_ok, kBk_ok, kBd_rt, kBd_nx, kF_nx, kF_ct, kF_bk, kF_rt, kW_ok, kT_ok, kE_ok, wp_appV, kAppV_ok, dRng2n, dMul_rep, gtUnl, dRng_n, wp_augO, dZipA_t, dZipA_l, zipD_map,  ite_lim2, List.getElem_range, List.length_range, nat_eq_lit, Nat.reduceBEq, Nat.reduceBNe, Int.reduceBEq, Int.reduceLT, Int.reduceLE, Int.reduceEq, Int.reduceNeg, Nat.reduceLT, Nat.reduceEqDiff, Bool.true_and, Bool.and_true, Bool.false_and, Bool.and_false, dNeg, dNe_bl, dIsNot,  maskIo_0, dIx_ln, dIx_tn, List.getElem_map,  mSeq_ap, mVar_ap, mMov_ap, mTk_ap, mFz_ap, mRead_ap, mReadU_ap, mScal_ap, mOp_ap, mUn_ap, mPair_ap, bnd_ap, lft_ap, ret_ap, mCons_ap, mNil_ap, mCall_ap, mCl0_ap, backIo, mIf_ap, mAnd_ap, mOr_ap, mNot_ap, mAndV_ap, mOrV_ap, mNotV_ap, mChain_ap, mAsg_ap, gtName, gtScal, gtAny, gtSub, gtTup, gtCons, gtNil, mSkip_ap, mApp_ap, mPop_ap, popIx, mLen_ap, ixP, anyItems, shItems, getP, setP, kid, putKid, shOf, unsh_non, unsh_bl, unsh_int, unsh_str, unsh_lst, unsh_tup, unsh_frl, unsh_shd, ite_lim, isShd_non, isShd_bl, isShd_int, isShd_str, isShd_lst, isShd_tup, isShd_frl, isShd_shd, dLst_nil, dTup_nil, toNat_lit, dTup_1, dTup_2, dTup_3, dTup_4, dTup_5, dLst_1, dLst_2, dLst_3, dLst_4, dLst_5, Dl.scal, dTr, dBool, dIs, dIsNot, Dl.isNon, dItems, dPart, dSl, bLen, bInt, bList, bTuple, dMul_i, dFdiv_i, dMod_i, dAdd_i, dSub_i, dLt_i, dLe_i, dGt_i, dGe_i, dEq_i, dNe_i, dEq_bl, dTup_c, dLst_c, mRng_ap, dRng1, rgC_map, Int.toNat_natCast, maskIo_nil, bIsi_bool, bIsi_int, bIsi_str, bIsi_dict, bIsi_list, bIsi_tuple, isiD, wipeD, dAdd_l, dAdd_t, dIx_l, dIx_t, ixN_nat, ixN_of, nat_cast_div, nat_cast_mod, nat_cast_mul, nat_cast_add, nat_add_lit, lit_add_nat, nat_mul_lit, lit_mul_nat, nat_div_lit, nat_mod_lit, nat_sub_lit, nat_lt, nat_le, nat_eq, nat_lt_lit, lit_lt_nat, nat_le_lit, lit_le_nat, dRng_two, nat_cast_sub, dRng3, bMin_n, List.length_map, List.length_set, lim,
  Option.bind_some, Option.map_some, List.getElem?_cons_zero, List.getElem?_cons_succ, List.set_cons_zero, List.set_cons_succ, List.length_cons, List.length_nil, reduceIte, Bool.false_eq_true, decide_eq_true_eq, Nat.reduceAdd, List.map_cons, List.map_nil, List.cons_append, List.nil_append, Nat.reduceSub, Nat.reduceLeDiff, List.replicate_succ, List.replicate_zero, Nat.zero_add, Bool.not_true, Bool.not_false, Bool.or_false, Bool.false_or, Bool.or_true, Bool.true_or, reduceCtorEq, decide_false, decide_true, beq_self_eq_true, List.isEmpty_cons, List.isEmpty_nil])
theorem partC_w {x : D} (h : Dr x) {R : Mr Fl} (z0 z1 z2 z3 z4 z5 z6 z7 z8 z9 z10 z11 z12 z13 z14 z15 z16 z17 z18 z19 z20 z21 z22 z23 z24 z25 z26 z27 z28 z29 : Option D) (Q : Rs Fl → Prop)
    (hq : ∀ (y : D) (ps : List Pn) (z0 z1 z2 z3 z4 z5 z6 z7 z8 z9 z10 z11 z12 z13 z14 z15 z16 z17 z18 z19 z20 z21 z22 z23 z24 z25 z26 z27 z28 z29 : Option D), Dr y → Pns ps → Wp R [z0, some y, z2, z3, z4, z5, z6, z7, z8, z9, z10, z11, z12, z13, z14, z15, z16, z17, z18, z19, z20, z21, z22, some (.lst (ps.map eP)), z24, z25, z26, z27, z28, z29] Q) :
    Wp (mSeq b_law_151 (mSeq b_law_152 R)) [z0, some x, z2, z3, z4, z5, z6, z7, z8, z9, z10, z11, z12, z13, z14, z15, z16, z17, z18, z19, z20, z21, z22, z23, z24, z25, z26, z27, z28, z29] Q := by
  unfold b_law_151
  walk_at "wq"
  refine draw_w h (by decide) (by decide) fun y v hy hv => ?_
  walk_at "wq"
  refine lcI (fun ρ0 i acc ρ => ∃ (y : D) (ns : List Nat), Dr y ∧ acc = ns.map iD ∧ ns.length = i ∧ (∀ n ∈ ns, n ≤ 255) ∧ ρ = ρ0.set 1 (some y)) (by simp; omega) ⟨y, [], hy, rfl, rfl, by simp, rfl⟩ (fun i d acc ρ' hd ha' ⟨y, ns, hy, hacc, hns, hb', hz⟩ => ?_) fun acc ρ' ⟨y, ns, hy, hacc, hns, hb', hz⟩ => ?_
  · subst hz; subst hacc
    simp only [wipeD]
    walk_at "wq"
    refine draw_w hy (by decide) (by decide) fun y2 v2 hy2 hv2 => ?_
    walk_at "wq"
    refine ⟨y2, ns ++ [v2], hy2, by simp, by simp [hns], fun n hn => ?_, rfl⟩
    rcases List.mem_append.mp hn with h1 | h1
    · exact hb' n h1
    · rw [List.mem_singleton] at h1; omega
  subst hz; subst hacc
  simp only [wipeD]
  walk_at "wq"
  obtain ⟨fs, hf1, hf2, hf3, hf4, hf5⟩ := fs_of ns
  rw [List.length_map, List.length_range] at hns
  show kO (dSSet (.lst (ns.map iD))) _ _
  rw [dsset_t hf1 (by omega)]
  walk_at "wq"
  unfold b_law_152
  walk_at "wq"
  refine lcI (fun ρ0 i acc ρ => ∃ (y : D) (ps : List Pn), Dr y ∧ acc = ps.map eP ∧ ps.map Prod.fst = fs.take i ∧ (∀ p ∈ ps, p.2 ≤ 255) ∧ ρ = ρ0.set 1 (some y)) (by simp; omega) ⟨y, [], hy, rfl, rfl, by simp, rfl⟩ (fun i d acc ρ' hd ha' ⟨y, ps, hy, hacc, hps, hb2, hz⟩ => ?_) fun acc ρ' ⟨y, ps, hy, hacc, hps, hb2, hz⟩ => ?_
  · subst hz; subst hacc
    obtain ⟨n, hn, rfl⟩ : ∃ n, fs[i]? = some n ∧ iD n = d := by
      rw [List.getElem?_map] at hd
      exact Option.map_eq_some_iff.mp hd
    simp only [wipeD]
    walk_at "wq"
    refine draw_w hy (by decide) (by decide) fun y2 v2 hy2 hv2 => ?_
    walk_at "wq"
    refine ⟨y2, ps ++ [(n, v2)], hy2, by simp [eP], ?_, fun p hp => ?_, rfl⟩
    · rw [List.map_append, hps, List.take_add_one, hn]; rfl
    rcases List.mem_append.mp hp with h1 | h1
    · exact hb2 p h1
    · rw [List.mem_singleton] at h1; subst h1; show v2 ≤ 255; omega
  subst hz; subst hacc
  rw [List.length_map, List.take_length] at hps
  simp only [wipeD]
  walk_at "wq"
  have hPns : Pns ps := {
    ne := fun h0 => by
      subst h0
      exact hf5 (fun h1 => by subst h1; simp at hns; omega) hps.symm
    le := by
      have : (ps.map Prod.fst).length = fs.length := by rw [hps]
      rw [List.length_map] at this; omega
    up := by
      have := hf3
      rw [← hps, List.pairwise_map] at this
      exact this
    top := fun p hp => by
      refine ⟨hb' _ (hf4 _ ?_), hb2 p hp⟩
      rw [← hps]
      exact List.mem_map.mpr ⟨p, hp, rfl⟩ }
  exact hq y ps z0 z1 z2 z3 z4 z5 z6 z7 z8 z9 z10 none z12 z13 z14 z15 z16 z17 z18 z19 z20 z21 (some (.lst (fs.map iD))) z23 none z25 z26 z27 z28 z29 hy hPns
end P87
namespace P87
open PySem L2 Dl Wk
theorem getD_of {ps : List Pn} {k : Nat} (h : k < ps.length) : ps[k] = ps.getD k (0, 0) := by
  rw [List.getD_eq_getElem?_getD, List.getElem?_eq_getElem h]; rfl
theorem ixp {ps : List Pn} {k : Nat} (h : k < ps.length) : dIx (.lst (ps.map eP)) (.int (k : Nat)) = some (eP (ps.getD k (0, 0))) := by
  show L2.atI _ _ = _
  rw [Dl.atI_nat, List.getElem?_map, List.getElem?_eq_getElem h, ← getD_of h]
  rfl
theorem ixp0 {ps : List Pn} (h : 0 < ps.length) : dIx (.lst (ps.map eP)) (.int 0) = some (eP (ps.getD 0 (0, 0))) := ixp h
theorem ixp1 {ps : List Pn} (h : 0 < ps.length) : dIx (.lst (ps.map eP)) (.int (-1)) = some (eP (ps.getD (ps.length - 1) (0, 0))) := by
  rcases last_or ps with rfl | ⟨m, p, rfl⟩
  · exact absurd h (by simp)
  · rw [ix_m1]
    simp
theorem ePg {ps : List Pn} {k : Nat} (h : k < ps.length) : eP (ps[k]'h) = .tup [.int ((ps.getD k (0, 0)).1 : Nat), .int ((ps.getD k (0, 0)).2 : Nat)] := by
  rw [getD_of h]; rfl
theorem up_k {ps : List Pn} (h : Pns ps) {k : Nat} (hk : k + 1 < ps.length) : (ps.getD k (0, 0)).1 < (ps.getD (k + 1) (0, 0)).1 := by
  rw [← getD_of (show k < ps.length by omega), ← getD_of hk]
  exact List.pairwise_iff_getElem.mp h.up k (k + 1) _ _ (by omega)
local macro_rules | `(tactic| walk_at "wq") => `(tactic| simp (disch := first | with_reducible assumption | omega | (simp only [List.length_cons, List.length_nil, List.length_map, List.length_append, List.length_range, List.length_replicate, List.length_zip, List.length_reverse, List.length_take, List.length_drop]; omega)) only [isShd_dr, eP0, eP1, unsh_eP, ixp0, ixp1, wp_seq, wp_bnd, wp_ret, wp_lft, wp_var, wp_mov, wp_fz, wp_tk, wp_pair, wp_nil, wp_cons, wp_op, wp_un, wp_call, wp_rng, wp_scal, wp_scl1, wp_if, wp_not, wp_and, wp_or, wp_ifk, wp_andV, wp_orV, wp_notV, wp_chain, wp_skip, wp_asg, wp_par, wp_par3, wp_aug, wp_read, wp_readU, wp_len, wp_app, wp_appK, wp_disp, wp_pop, wp_for, wp_while, wp_lc, wp_cl0, wp_subK, kG_sub, kB_ok, kB_ex, kL_ok, kL_ex, kC_true, kC_false, kV_some, kG_some, kR_some, kO_some, kI_ok, kS_nx, kS_rt, kS_bk, kS_ct, kA_ok, kLst_some, kApp_ok, kU_ok, kCl_ok, kBk_ok, kBd_rt, kBd_nx, kF_nx, kF_ct, kF_bk, kF_rt, kW_ok, kT_ok, kE_ok, wp_appV, kAppV_ok, dRng2n, dMul_rep, gtUnl, dRng_n, wp_augO, dZipA_t, dZipA_l, zipD_map,  ite_lim2, List.getElem_range, List.length_range, nat_eq_lit, Nat.reduceBEq, Nat.reduceBNe, Int.reduceBEq, Int.reduceLT, Int.reduceLE, Int.reduceEq, Int.reduceNeg, Nat.reduceLT, Nat.reduceEqDiff, Bool.true_and, Bool.and_true, Bool.false_and, Bool.and_false, dNeg, dNe_bl, dIsNot,  maskIo_0, dIx_ln, dIx_tn, List.getElem_map,  mSeq_ap, mVar_ap, mMov_ap, mTk_ap, mFz_ap, mRead_ap, mReadU_ap, mScal_ap, mOp_ap, mUn_ap, mPair_ap, bnd_ap, lft_ap, ret_ap, mCons_ap, mNil_ap, mCall_ap, mCl0_ap, backIo, mIf_ap, mAnd_ap, mOr_ap, mNot_ap, mAndV_ap, mOrV_ap, mNotV_ap, mChain_ap, mAsg_ap, gtName, gtScal, gtAny, gtSub, gtTup, gtCons, gtNil, mSkip_ap, mApp_ap, mPop_ap, popIx, mLen_ap, ixP, anyItems, shItems, getP, setP, kid, putKid, shOf, unsh_non, unsh_bl, unsh_int, unsh_str, unsh_lst, unsh_tup, unsh_frl, unsh_shd, ite_lim, isShd_non, isShd_bl, isShd_int, isShd_str, isShd_lst, isShd_tup, isShd_frl, isShd_shd, dLst_nil, dTup_nil, toNat_lit, dTup_1, dTup_2, dTup_3, dTup_4, dTup_5, dLst_1, dLst_2, dLst_3, dLst_4, dLst_5, Dl.scal, dTr, dBool, dIs, dIsNot, Dl.isNon, dItems, dPart, dSl, bLen, bInt, bList, bTuple, dMul_i, dFdiv_i, dMod_i, dAdd_i, dSub_i, dLt_i, dLe_i, dGt_i, dGe_i, dEq_i, dNe_i, dEq_bl, dTup_c, dLst_c, mRng_ap, dRng1, rgC_map, Int.toNat_natCast, maskIo_nil, bIsi_bool, bIsi_int, bIsi_str, bIsi_dict, bIsi_list, bIsi_tuple, isiD, wipeD, dAdd_l, dAdd_t, dIx_l, dIx_t, ixN_nat, ixN_of, nat_cast_div, nat_cast_mod, nat_cast_mul, nat_cast_add, nat_add_lit, lit_add_nat, nat_mul_lit, lit_mul_nat, nat_div_lit, nat_mod_lit, nat_sub_lit, nat_lt, nat_le, nat_eq, nat_lt_lit, lit_lt_nat, nat_le_lit, lit_le_nat, dRng_two, nat_cast_sub, dRng3, bMin_n, List.length_map, List.length_set, lim,
  Option.bind_some, Option.map_some, List.getElem?_cons_zero, List.getElem?_cons_succ, List.set_cons_zero, List.set_cons_succ, List.length_cons, List.length_nil, reduceIte, Bool.false_eq_true, decide_eq_true_eq, Nat.reduceAdd, List.map_cons, List.map_nil, List.cons_append, List.nil_append, Nat.reduceSub, Nat.reduceLeDiff, List.replicate_succ, List.replicate_zero, Nat.zero_add, Bool.not_true, Bool.not_false, Bool.or_false, Bool.false_or, Bool.or_true, Bool.true_or, reduceCtorEq, decide_false, decide_true, beq_self_eq_true, List.isEmpty_cons, List.isEmpty_nil])
theorem partD_w {ps : List Pn} (h : Pns ps) (z0 z1 z2 z3 z4 z5 z6 z7 z8 z9 z10 z11 z12 z13 z14 z15 z16 z17 z18 z19 z20 z21 z22 z23 z24 z25 z26 z27 z28 z29 : Option D) (Q : Rs Fl → Prop)
    (hq : ∀ (z0 z1 z2 z3 z4 z5 z6 z7 z8 z9 z10 z11 z12 z13 z14 z15 z16 z17 z18 z19 z20 z21 z22 z23 z24 z25 z26 z27 z28 z29 : Option D), Q (.ok (.rt (.bl true)) [z0, z1, z2, z3, z4, z5, z6, z7, z8, z9, z10, z11, z12, z13, z14, z15, z16, z17, z18, z19, z20, z21, z22, z23, z24, z25, z26, z27, z28, z29])) :
    Wp (mSeq b_law_153 (mSeq b_law_154 (mSeq b_law_156 b_law_164))) [z0, z1, z2, z3, z4, z5, z6, z7, z8, z9, z10, z11, z12, z13, z14, z15, z16, z17, z18, z19, z20, z21, z22, some (.lst (ps.map eP)), z24, z25, z26, z27, z28, z29] Q := by
  have hl : 0 < ps.length := List.length_pos_iff.mpr h.ne
  have hle := h.le
  unfold b_law_153
  walk_at "wq"
  refine kR_of_eq (through_t ps h.le h.ne h.up h.top) ?_
  have ht1 : ((List.range 256).map fun x => D.int (thr ps x)).length = 256 := by rw [List.length_map, List.length_range]
  have ht2 : ∀ (k : Nat), k < 256 → dIx (.lst ((List.range 256).map fun x => D.int (thr ps x))) (.int (k : Nat)) = some (.int (thr ps k)) := fun k hk => by
    show L2.atI _ _ = _
    rw [Dl.atI_nat, List.getElem?_map, List.getElem?_range hk]
    rfl
  generalize ((List.range 256).map fun x => D.int (thr ps x)) = ts at ht1 ht2 ⊢
  walk_at "wq"
  unfold b_law_154
  walk_at "wq"
  rw [ht1]
  walk_at "wq"
  unfold b_law_156
  walk_at "wq"
  refine forI (fun ρ0 i ρ => ∃ (z11 z14 z18 z26 z27 z28 z29 : Option D), ρ = [z0, z1, z2, z3, z4, z5, z6, z7, z8, z9, z10, z11, z12, z13, z14, z15, z16, z17, z18, z19, z20, z21, z22, some (.lst (ps.map eP)), z24, some (.lst ts), z26, z27, z28, z29]) ⟨_, _, _, _, _, _, _, rfl⟩ (fun i d ρ' hd ⟨z11, z14, z18, z26, z27, z28, z29, hz⟩ => ?_) fun ρ' ⟨z11, z14, z18, z26, z27, z28, z29, hz⟩ => ?_
  · subst hz
    have hi : i < 256 := by
      have := (List.getElem?_eq_some_iff.mp hd).1
      simpa using this
    obtain rfl : d = .int (i : Nat) := by
      rw [List.getElem?_map, List.getElem?_range (by simpa using hi)] at hd
      cases hd; rfl
    walk_at "wq"
    unfold b_law_157
    walk_at "wq"
    have hq0 : (ps.map eP)[0]? = some (eP (ps.getD 0 (0, 0))) := by
      rw [List.getElem?_map, List.getElem?_eq_getElem hl, ← getD_of hl]; rfl
    rw [hq0]
    walk_at "wq"
    have hin : Wp b_law_158 [z0, z1, z2, z3, z4, z5, z6, z7, z8, z9, z10, z11, z12, z13, some (.int (dueZ ps i 0)), z15, z16, z17, some (iD i), z19, z20, z21, z22, some (.lst (ps.map eP)), z24, some (.lst ts), z26, z27, z28, z29] (kS b_law_162 (kF (fun ρ => ∃ (z11 z14 z18 z26 z27 z28 z29 : Option D), ρ = [z0, z1, z2, z3, z4, z5, z6, z7, z8, z9, z10, z11, z12, z13, z14, z15, z16, z17, z18, z19, z20, z21, z22, some (.lst (ps.map eP)), z24, some (.lst ts), z26, z27, z28, z29]) (kS b_law_164 Q))) := by
      unfold b_law_158
      walk_at "wq"
      refine forI (fun ρ0 k ρ => ∃ (z11 z26 z27 z28 z29 : Option D), ρ = [z0, z1, z2, z3, z4, z5, z6, z7, z8, z9, z10, z11, z12, z13, some (.int (dueZ ps i k)), z15, z16, z17, some (iD i), z19, z20, z21, z22, some (.lst (ps.map eP)), z24, some (.lst ts), z26, z27, z28, z29]) ⟨_, _, _, _, _, rfl⟩ (fun k d ρ' hd ⟨z11, z26, z27, z28, z29, hz⟩ => ?_) fun ρ' ⟨z11, z26, z27, z28, z29, hz⟩ => ?_
      · subst hz
        have hk : k < ps.length - 1 := by
          have := (List.getElem?_eq_some_iff.mp hd).1
          simpa using this
        obtain rfl : d = .int (k : Nat) := by
          rw [List.getElem?_map, List.getElem?_range hk] at hd
          cases hd; rfl
        walk_at "wq"
        unfold b_law_159
        walk_at "wq"
        have hu := up_k h (show k + 1 < ps.length by omega)
        have hy := due_yes h.up (x := i) (show k + 1 < ps.length by omega)
        have hn := due_no h.up (x := i) (show k + 1 < ps.length by omega)
        have hpb := h.top _ (List.getElem_mem (show k < ps.length by omega))
        have hqb := h.top _ (List.getElem_mem (show k + 1 < ps.length by omega))
        rw [getD_of] at hpb hqb
        simp only [ePg]
        generalize ps.getD k (0, 0) = p at *
        generalize ps.getD (k + 1) (0, 0) = q at *
        walk_at "wq"
        unfold b_law_160
        walk_at "wq"
        refine kC_if (fun q1 => ?_) fun q1 => ?_
        · walk_at "wq"
          refine kC_if (fun q2 => ?_) fun q2 => ?_
          · unfold b_law_161
            walk_at "wq"
            rw [hy (by omega) (by omega), ← mid_eq hu, show ((q.1 : Int) - i) = ((q.1 - i : Nat) : Int) by omega, show ((i : Int) - p.1) = ((i - p.1 : Nat) : Int) by omega, show ((q.1 : Int) - p.1) = ((q.1 - p.1 : Nat) : Int) by omega]
            exact ⟨_, _, _, _, _, rfl⟩
          · walk_at "wq"
            rw [hn (by omega)]
            exact ⟨_, _, _, _, _, rfl⟩
        · walk_at "wq"
          rw [hn (by omega)]
          exact ⟨_, _, _, _, _, rfl⟩
      · subst hz
        walk_at "wq"
        rw [due_end h.up h.ne]
        unfold b_law_162
        walk_at "wq"
        rw [show ts[i]'(by omega) = .int (thr ps i) by
          have := ht2 i hi
          rw [show dIx (.lst ts) (.int (i : Nat)) = L2.atI ts (i : Nat) from rfl, Dl.atI_nat, List.getElem?_eq_getElem (by omega)] at this
          exact Option.some.inj this]
        refine same_w (n := 0) (Dt.int 0 _) rfl (by decide) ?_
        walk_at "wq"
        exact ⟨_, _, _, _, _, _, _, rfl⟩
    refine kC_if (fun q => ?_) fun q => ?_
    · walk_at "wq"
      rw [hq0]
      walk_at "wq"
      rw [due_0, if_pos (by omega)] at hin
      exact hin
    · walk_at "wq"
      rw [due_0, if_neg (by omega)] at hin
      exact hin
  · subst hz
    walk_at "wq"
    unfold b_law_164
    walk_at "wq"
    exact hq _ _ _ _ _ _ _ _ _ _ _ _ _ _ _ _ _ _ _ _ _ _ _ _ _ _ _ _ _ _
end P87
namespace P87
open PySem L2 Dl Wk
theorem Pns_len {ps : List Pn} (h : Pns ps) : ps.length ≤ 60 := h.le
local macro_rules | `(tactic| walk_at "wp") => `(tactic| simp (disch := first | with_reducible assumption | omega | (simp only [List.length_cons, List.length_nil, List.length_map, List.length_append, List.length_range, List.length_replicate, List.length_zip, List.length_reverse, List.length_take, List.length_drop]; omega)) only [wp_seq, wp_bnd, wp_ret, wp_lft, wp_var, wp_mov, wp_fz, wp_tk, wp_pair, wp_nil, wp_cons, wp_op, wp_un, wp_call, wp_rng, wp_scal, wp_scl1, wp_if, wp_not, wp_and, wp_or, wp_ifk, wp_andV, wp_orV, wp_notV, wp_chain, wp_skip, wp_asg, wp_par, wp_par3, wp_aug, wp_read, wp_readU, wp_len, wp_app, wp_appK, wp_disp, wp_pop, wp_for, wp_while, wp_lc, wp_cl0, wp_subK, kG_sub, kB_ok, kB_ex, kL_ok, kL_ex, kC_true, kC_false, kV_some, kG_some, kR_some, kO_some, kI_ok, kS_nx, kS_rt, kS_bk, kS_ct, kA_ok, kLst_some, kApp_ok, kU_ok, kCl_ok, kBk_ok, kBd_rt, kBd_nx, kF_nx, kF_ct, kF_bk, kF_rt, kW_ok, kT_ok, kE_ok, wp_appV, kAppV_ok, dRng2n, dMul_rep, gtUnl, dRng_n, wp_augO, dZipA_t, dZipA_l, zipD_map,  ite_lim2, List.getElem_range, List.length_range, nat_eq_lit, Nat.reduceBEq, Nat.reduceBNe, Int.reduceBEq, Int.reduceLT, Int.reduceLE, Int.reduceEq, Int.reduceNeg, Nat.reduceLT, Nat.reduceEqDiff, Bool.true_and, Bool.and_true, Bool.false_and, Bool.and_false, dNeg, dNe_bl, dIsNot,  maskIo_0, dIx_ln, dIx_tn, List.getElem_map,  mSeq_ap, mVar_ap, mMov_ap, mTk_ap, mFz_ap, mRead_ap, mReadU_ap, mScal_ap, mOp_ap, mUn_ap, mPair_ap, bnd_ap, lft_ap, ret_ap, mCons_ap, mNil_ap, mCall_ap, mCl0_ap, backIo, mIf_ap, mAnd_ap, mOr_ap, mNot_ap, mAndV_ap, mOrV_ap, mNotV_ap, mChain_ap, mAsg_ap, gtName, gtScal, gtAny, gtSub, gtTup, gtCons, gtNil, mSkip_ap, mApp_ap, mPop_ap, popIx, mLen_ap, ixP, anyItems, shItems, getP, setP, kid, putKid, shOf, unsh_non, unsh_bl, unsh_int, unsh_str, unsh_lst, unsh_tup, unsh_frl, unsh_shd, ite_lim, isShd_non, isShd_bl, isShd_int, isShd_str, isShd_lst, isShd_tup, isShd_frl, isShd_shd, dLst_nil, dTup_nil, toNat_lit, dTup_1, dTup_2, dTup_3, dTup_4, dTup_5, dLst_1, dLst_2, dLst_3, dLst_4, dLst_5, Dl.scal, dTr, dBool, dIs, dIsNot, Dl.isNon, dItems, dPart, dSl, bLen, bInt, bList, bTuple, dMul_i, dFdiv_i, dMod_i, dAdd_i, dSub_i, dLt_i, dLe_i, dGt_i, dGe_i, dEq_i, dNe_i, dEq_bl, dTup_c, dLst_c, mRng_ap, dRng1, rgC_map, Int.toNat_natCast, maskIo_nil, bIsi_bool, bIsi_int, bIsi_str, bIsi_dict, bIsi_list, bIsi_tuple, isiD, wipeD, dAdd_l, dAdd_t, dIx_l, dIx_t, ixN_nat, ixN_of, nat_cast_div, nat_cast_mod, nat_cast_mul, nat_cast_add, nat_add_lit, lit_add_nat, nat_mul_lit, lit_mul_nat, nat_div_lit, nat_mod_lit, nat_sub_lit, nat_lt, nat_le, nat_eq, nat_lt_lit, lit_lt_nat, nat_le_lit, lit_le_nat, dRng_two, nat_cast_sub, dRng3, bMin_n, List.length_map, List.length_set, lim,
  Option.bind_some, Option.map_some, List.getElem?_cons_zero, List.getElem?_cons_succ, List.set_cons_zero, List.set_cons_succ, List.length_cons, List.length_nil, reduceIte, Bool.false_eq_true, decide_eq_true_eq, Nat.reduceAdd, List.map_cons, List.map_nil, List.cons_append, List.nil_append, Nat.reduceSub, Nat.reduceLeDiff, List.replicate_succ, List.replicate_zero, Nat.zero_add, Bool.not_true, Bool.not_false, Bool.or_false, Bool.false_or, Bool.or_true, Bool.true_or, reduceCtorEq, decide_false, decide_true, beq_self_eq_true, List.isEmpty_cons, List.isEmpty_nil])
theorem law_true (ns : List Int) (h : ns.length ≤ 63) : ∃ fs, F_law [.frl (ns.map .int)] = some (.ok (.bl true) fs) := by
  refine ⟨_, eq_of_kR (r := .ok (D.bl true) [none]) ?_⟩
  unfold F_law
  refine kR_fn (n := 30) (ds := [.frl (ns.map .int)]) _ rfl ?_
  unfold b_law
  simp only [List.map_cons, List.map_nil, List.length_cons, List.length_nil, Nat.reduceAdd, Nat.reduceSub, List.replicate_succ, List.replicate_zero, List.cons_append, List.nil_append]
  walk_at "wp"
  unfold b_law_118
  walk_at "wp"
  rw [draws_t]
  walk_at "wp"
  unfold b_law_119
  walk_at "wp"
  refine forI (fun ρ0 i ρ => ∃ (y : D) (zs : List (Option D)), Dr y ∧ zs.length = 28 ∧ ρ = some (.frl (ns.map .int)) :: some y :: zs) ⟨_, _, ⟨_, _, _, _, rfl, by decide⟩, rfl, rfl⟩ (fun i d ρ' hd ⟨y, zs, hy, hz, hr⟩ => ?_) fun ρ' ⟨y, zs, hy, hz, hr⟩ => ?_
  · match zs, hz with
    | [z2, z3, z4, z5, z6, z7, z8, z9, z10, z11, z12, z13, z14, z15, z16, z17, z18, z19, z20, z21, z22, z23, z24, z25, z26, z27, z28, z29], _ =>
      subst hr
      walk_at "wp"
      rw [← wp_seq]
      refine colturn_w hy _ _ _ _ _ _ _ _ _ _ _ _ _ _ _ _ _ _ _ _ _ _ _ _ _ _ _ _ _ _ fun y2 zs2 h4 h5 => ?_
      exact ⟨y2, zs2, h4, h5, rfl⟩
  · match zs, hz with
    | [z2, z3, z4, z5, z6, z7, z8, z9, z10, z11, z12, z13, z14, z15, z16, z17, z18, z19, z20, z21, z22, z23, z24, z25, z26, z27, z28, z29], _ =>
      subst hr
      walk_at "wp"
      rw [← wp_seq]
      refine partA_w hy _ none _ _ _ _ _ _ _ _ _ _ _ _ _ _ _ _ _ _ _ _ _ _ _ _ _ _ _ _ _ fun y2 one other bs a0 a1 a2 a3 a4 a5 a6 a7 a8 a9 a10 a11 a12 a13 a14 a15 a16 a17 a18 a19 a20 a21 a22 a23 a24 a25 a26 a27 a28 a29 h2 c1 c2 => ?_
      refine partB_w h2 (os := one.map iD) (by rw [List.length_map]; exact c1.len) El_c _ none _ _ _ _ _ _ _ _ _ _ _ _ _ none _ _ _ _ _ _ _ _ _ _ _ _ _ _ _ fun y3 e0 e1 e2 e3 e4 e5 e6 e7 e8 e9 e10 e11 e12 e13 e14 e15 e16 e17 e18 e19 e20 e21 e22 e23 e24 e25 e26 e27 e28 e29 h3 => ?_
      refine partC_w h3 _ none _ _ _ _ _ _ _ _ _ _ _ _ _ _ _ _ _ _ _ _ _ _ _ _ _ _ _ _ _ fun y4 ps i0 i1 i2 i3 i4 i5 i6 i7 i8 i9 i10 i11 i12 i13 i14 i15 i16 i17 i18 i19 i20 i21 i22 i23 i24 i25 i26 i27 i28 i29 h4 hp => ?_
      refine partD_w hp _ _ _ _ _ _ _ _ _ _ _ _ _ _ _ _ _ _ _ _ _ _ _ none _ _ _ _ _ _ _ fun o0 o1 o2 o3 o4 o5 o6 o7 o8 o9 o10 o11 o12 o13 o14 o15 o16 o17 o18 o19 o20 o21 o22 o23 o24 o25 o26 o27 o28 o29 => ?_
      walk_at "wp"
end P87
set_option pp.maxSteps 600
set_option pp.deepTerms false
set_option pp.deepTerms.threshold 2
namespace P87
open PySem L2 Dl DlX Wk
abbrev e_PackWrong : Stmt := mth (top 3)
abbrev e_PageError : Stmt := mth (top 1)
theorem all_mk {l : PySem.W.OpenLaw} {w : World} {K : PySem.W.Frag} {h : Heap} {mg : Str → Option Value} {fa : Addr} (X : K.In h) (G : h.Ns mainGlobals mg) (hfa : mg "law" = some (.ref fa))
    {od0 an0 : Option Addr} {sl0 : Array (Option Value)} {oc0 kV0 dc0 pm0 cd0 ct0 : Value} {f0 : Addr} (a0 : PySem.W.nsIn K mainGlobals "_law_draws" = some (some (.ref f0))) (l0 : K.lookup f0 = some ⟨oc0, od0, .func (PySem.W.fnOf "_law_draws" "_law_draws" (defArgs s__law_draws) (defBody s__law_draws) (defScope s__law_draws) .none kV0 dc0 pm0 an0 cd0 ct0), sl0⟩) (c0 : PySem.W.codeIn K cd0 "_law_draws" = true) (k0 : PySem.W.keepIn K (.ref f0) = true)
    {od1 an1 : Option Addr} {sl1 : Array (Option Value)} {oc1 kV1 dc1 pm1 cd1 ct1 : Value} {f1 : Addr} (a1 : PySem.W.nsIn K mainGlobals "back_curve" = some (some (.ref f1))) (l1 : K.lookup f1 = some ⟨oc1, od1, .func (PySem.W.fnOf "back_curve" "back_curve" (defArgs s_back_curve) (defBody s_back_curve) (defScope s_back_curve) .none kV1 dc1 pm1 an1 cd1 ct1), sl1⟩) (c1 : PySem.W.codeIn K cd1 "back_curve" = true) (k1 : PySem.W.keepIn K (.ref f1) = true)
    {od2 an2 : Option Addr} {sl2 : Array (Option Value)} {oc2 kV2 dc2 pm2 cd2 ct2 : Value} {f2 : Addr} (a2 : PySem.W.nsIn K mainGlobals "curve_through" = some (some (.ref f2))) (l2 : K.lookup f2 = some ⟨oc2, od2, .func (PySem.W.fnOf "curve_through" "curve_through" (defArgs s_curve_through) (defBody s_curve_through) (defScope s_curve_through) .none kV2 dc2 pm2 an2 cd2 ct2), sl2⟩) (c2 : PySem.W.codeIn K cd2 "curve_through" = true) (k2 : PySem.W.keepIn K (.ref f2) = true)
    {od3 an3 : Option Addr} {sl3 : Array (Option Value)} {oc3 kV3 dc3 pm3 cd3 ct3 : Value} {f3 : Addr} (a3 : PySem.W.nsIn K mainGlobals "_law_draw" = some (some (.ref f3))) (l3 : K.lookup f3 = some ⟨oc3, od3, .func (PySem.W.fnOf "_law_draw" "_law_draw" (defArgs s__law_draw) (defBody s__law_draw) (defScope s__law_draw) .none kV3 dc3 pm3 an3 cd3 ct3), sl3⟩) (c3 : PySem.W.codeIn K cd3 "_law_draw" = true) (k3 : PySem.W.keepIn K (.ref f3) = true)
    {od4 an4 : Option Addr} {sl4 : Array (Option Value)} {oc4 kV4 dc4 pm4 cd4 ct4 : Value} {f4 : Addr} (a4 : PySem.W.nsIn K mainGlobals "_law_colour" = some (some (.ref f4))) (l4 : K.lookup f4 = some ⟨oc4, od4, .func (PySem.W.fnOf "_law_colour" "_law_colour" (defArgs s__law_colour) (defBody s__law_colour) (defScope s__law_colour) .none kV4 dc4 pm4 an4 cd4 ct4), sl4⟩) (c4 : PySem.W.codeIn K cd4 "_law_colour" = true) (k4 : PySem.W.keepIn K (.ref f4) = true)
    {od5 an5 : Option Addr} {sl5 : Array (Option Value)} {oc5 kV5 dc5 pm5 cd5 ct5 : Value} {f5 : Addr} (a5 : PySem.W.nsIn K mainGlobals "plates_of" = some (some (.ref f5))) (l5 : K.lookup f5 = some ⟨oc5, od5, .func (PySem.W.fnOf "plates_of" "plates_of" (defArgs s_plates_of) (defBody s_plates_of) (defScope s_plates_of) .none kV5 dc5 pm5 an5 cd5 ct5), sl5⟩) (c5 : PySem.W.codeIn K cd5 "plates_of" = true) (k5 : PySem.W.keepIn K (.ref f5) = true)
    {od6 an6 : Option Addr} {sl6 : Array (Option Value)} {oc6 kV6 dc6 pm6 cd6 ct6 : Value} {f6 : Addr} (a6 : PySem.W.nsIn K mainGlobals "_law_curve" = some (some (.ref f6))) (l6 : K.lookup f6 = some ⟨oc6, od6, .func (PySem.W.fnOf "_law_curve" "_law_curve" (defArgs s__law_curve) (defBody s__law_curve) (defScope s__law_curve) .none kV6 dc6 pm6 an6 cd6 ct6), sl6⟩) (c6 : PySem.W.codeIn K cd6 "_law_curve" = true) (k6 : PySem.W.keepIn K (.ref f6) = true)
    {od7 an7 : Option Addr} {sl7 : Array (Option Value)} {oc7 kV7 dc7 pm7 cd7 ct7 : Value} {f7 : Addr} (a7 : PySem.W.nsIn K mainGlobals "_law_same" = some (some (.ref f7))) (l7 : K.lookup f7 = some ⟨oc7, od7, .func (PySem.W.fnOf "_law_same" "_law_same" (defArgs s__law_same) (defBody s__law_same) (defScope s__law_same) .none kV7 dc7 pm7 an7 cd7 ct7), sl7⟩) (c7 : PySem.W.codeIn K cd7 "_law_same" = true) (k7 : PySem.W.keepIn K (.ref f7) = true)
    {od8 an8 : Option Addr} {sl8 : Array (Option Value)} {oc8 kV8 dc8 pm8 cd8 ct8 : Value} {f8 : Addr} (a8 : PySem.W.nsIn K mainGlobals "colour_of" = some (some (.ref f8))) (l8 : K.lookup f8 = some ⟨oc8, od8, .func (PySem.W.fnOf "colour_of" "colour_of" (defArgs s_colour_of) (defBody s_colour_of) (defScope s_colour_of) .none kV8 dc8 pm8 an8 cd8 ct8), sl8⟩) (c8 : PySem.W.codeIn K cd8 "colour_of" = true) (k8 : PySem.W.keepIn K (.ref f8) = true)
    {od9 an9 : Option Addr} {sl9 : Array (Option Value)} {oc9 kV9 dc9 pm9 cd9 ct9 : Value} {f9 : Addr} (a9 : PySem.W.nsIn K mainGlobals "least_ink" = some (some (.ref f9))) (l9 : K.lookup f9 = some ⟨oc9, od9, .func (PySem.W.fnOf "least_ink" "least_ink" (defArgs s_least_ink) (defBody s_least_ink) (defScope s_least_ink) .none kV9 dc9 pm9 an9 cd9 ct9), sl9⟩) (c9 : PySem.W.codeIn K cd9 "least_ink" = true) (k9 : PySem.W.keepIn K (.ref f9) = true)
    {od10 an10 : Option Addr} {sl10 : Array (Option Value)} {oc10 kV10 dc10 pm10 cd10 ct10 : Value} {f10 : Addr} (a10 : PySem.W.nsIn K mainGlobals "composed" = some (some (.ref f10))) (l10 : K.lookup f10 = some ⟨oc10, od10, .func (PySem.W.fnOf "composed" "composed" (defArgs s_composed) (defBody s_composed) (defScope s_composed) .none kV10 dc10 pm10 an10 cd10 ct10), sl10⟩) (c10 : PySem.W.codeIn K cd10 "composed" = true) (k10 : PySem.W.keepIn K (.ref f10) = true)
    {od11 an11 : Option Addr} {sl11 : Array (Option Value)} {oc11 kV11 dc11 pm11 cd11 ct11 : Value} {f11 : Addr} (a11 : PySem.W.nsIn K mainGlobals "_law_whole" = some (some (.ref f11))) (l11 : K.lookup f11 = some ⟨oc11, od11, .func (PySem.W.fnOf "_law_whole" "_law_whole" (defArgs s__law_whole) (defBody s__law_whole) (defScope s__law_whole) .none kV11 dc11 pm11 an11 cd11 ct11), sl11⟩) (c11 : PySem.W.codeIn K cd11 "_law_whole" = true) (k11 : PySem.W.keepIn K (.ref f11) = true)
    {od12 an12 : Option Addr} {sl12 : Array (Option Value)} {oc12 kV12 dc12 pm12 cd12 ct12 : Value} {f12 : Addr} (a12 : PySem.W.nsIn K mainGlobals "check_curve" = some (some (.ref f12))) (l12 : K.lookup f12 = some ⟨oc12, od12, .func (PySem.W.fnOf "check_curve" "check_curve" (defArgs s_check_curve) (defBody s_check_curve) (defScope s_check_curve) .none kV12 dc12 pm12 an12 cd12 ct12), sl12⟩) (c12 : PySem.W.codeIn K cd12 "check_curve" = true) (k12 : PySem.W.keepIn K (.ref f12) = true)
    {od13 an13 : Option Addr} {sl13 : Array (Option Value)} {oc13 kV13 dc13 pm13 cd13 ct13 : Value} {f13 : Addr} (a13 : PySem.W.nsIn K mainGlobals "_law_told" = some (some (.ref f13))) (l13 : K.lookup f13 = some ⟨oc13, od13, .func (PySem.W.fnOf "_law_told" "_law_told" (defArgs s__law_told) (defBody s__law_told) (defScope s__law_told) .none kV13 dc13 pm13 an13 cd13 ct13), sl13⟩) (c13 : PySem.W.codeIn K cd13 "_law_told" = true) (k13 : PySem.W.keepIn K (.ref f13) = true)
    {od14 an14 : Option Addr} {sl14 : Array (Option Value)} {oc14 kV14 dc14 pm14 cd14 ct14 : Value} {f14 : Addr} (a14 : PySem.W.nsIn K mainGlobals "_law_wrong" = some (some (.ref f14))) (l14 : K.lookup f14 = some ⟨oc14, od14, .func (PySem.W.fnOf "_law_wrong" "_law_wrong" (defArgs s__law_wrong) (defBody s__law_wrong) (defScope s__law_wrong) .none kV14 dc14 pm14 an14 cd14 ct14), sl14⟩) (c14 : PySem.W.codeIn K cd14 "_law_wrong" = true) (k14 : PySem.W.keepIn K (.ref f14) = true)
    {od15 an15 : Option Addr} {sl15 : Array (Option Value)} {oc15 kV15 dc15 pm15 cd15 ct15 : Value} {f15 : Addr} (a15 : PySem.W.nsIn K mainGlobals "law" = some (some (.ref f15))) (l15 : K.lookup f15 = some ⟨oc15, od15, .func (PySem.W.fnOf "law" "law" (defArgs s_law) (defBody s_law) (defScope s_law) .none kV15 dc15 pm15 an15 cd15 ct15), sl15⟩) (c15 : PySem.W.codeIn K cd15 "law" = true) (k15 : PySem.W.keepIn K (.ref f15) = true)
    {nm_PackWrong qc_PackWrong fileI_PackWrong fileB_PackWrong : Str} {C_PackWrong N_PackWrong D_PackWrong fI_PackWrong fB_PackWrong ccI_PackWrong ccB_PackWrong cdI_PackWrong cdB_PackWrong T_PackWrong : Addr} {bs_PackWrong bm_PackWrong sub_PackWrong : List Value} {sn_PackWrong : List Str} {ab_PackWrong : Bool} {col_PackWrong : Option Bool} {dd_PackWrong anI_PackWrong anB_PackWrong odI_PackWrong odB_PackWrong cddI_PackWrong cddB_PackWrong cldI_PackWrong cldB_PackWrong odT_PackWrong : Option Addr} {k0_PackWrong k1_PackWrong k2_PackWrong k3_PackWrong k5_PackWrong : Option Value} {kVI_PackWrong docI_PackWrong pmI_PackWrong ctI_PackWrong ocI_PackWrong kVB_PackWrong docB_PackWrong pmB_PackWrong ctB_PackWrong ocB_PackWrong cclI_PackWrong clI_PackWrong cclB_PackWrong clB_PackWrong clsT_PackWrong dv_PackWrong : Value} {slI_PackWrong slB_PackWrong ccsI_PackWrong ccsB_PackWrong cslI_PackWrong cslB_PackWrong slT_PackWrong : Array (Option Value)} {vsI_PackWrong vsB_PackWrong : Array Value} {tfI_PackWrong tfB_PackWrong : Tok} {nT_PackWrong : Nat} {cd_PackWrong cdD_PackWrong : ClassData} (zx_PackWrong : PySem.W.nsIn K mainGlobals "PackWrong" = some (some (.ref C_PackWrong))) (lC_PackWrong : K.lookup C_PackWrong = some (excClassObj nm_PackWrong qc_PackWrong C_PackWrong N_PackWrong bs_PackWrong bm_PackWrong true sn_PackWrong sub_PackWrong ab_PackWrong col_PackWrong dd_PackWrong k0_PackWrong k1_PackWrong k2_PackWrong k3_PackWrong k5_PackWrong "ValueError.__new__")) (rC_PackWrong : PySem.HandSPX.refsVE bm_PackWrong = true) (sa_PackWrong : PySem.W.findIn K (.ref C_PackWrong) "__setattr__" = some (some (.builtin "object.__setattr__"))) (exC_PackWrong : PySem.W.subIn K (.ref C_PackWrong) (.type "BaseException") = some true) (tyC_PackWrong : PySem.W.typeIn K (.ref C_PackWrong) = some (.type "type")) (kC_PackWrong : PySem.W.keepIn K (.ref C_PackWrong) = true) (op_PackWrong : PySem.W.nsIn K cStatics "thirdparty.any" = some none) (cC_PackWrong : PySem.W.clsIn K C_PackWrong = some cd_PackWrong) (ga_PackWrong : PySem.W.findIn K (.ref C_PackWrong) "__getattribute__" = some (some (.builtin "BaseException.__getattribute__"))) (gg_PackWrong : PySem.W.findIn K (.ref C_PackWrong) "__getattr__" = some none) (hd_PackWrong : PySem.W.hasDictIn K C_PackWrong = true) (me_PackWrong : PySem.W.mroIn K C_PackWrong (.ref C_PackWrong) = some true) (isV_PackWrong : PySem.W.subIn K (.ref C_PackWrong) (.type "ValueError") = some true) (fa_PackWrong : PySem.W.findIn K (.ref C_PackWrong) "at" = some none) (fn_PackWrong : PySem.W.findIn K (.ref C_PackWrong) "name" = some none) (iC_PackWrong : PySem.W.findIn K (.ref C_PackWrong) "__init__" = some (some (.ref fI_PackWrong))) (tI_PackWrong : PySem.W.typeIn K (.ref fI_PackWrong) = some (.type "function")) (lI_PackWrong : K.lookup fI_PackWrong = some ⟨ocI_PackWrong, odI_PackWrong, .func (PySem.W.ksFn "__init__" "PackWrong.__init__" (defArgs e_PackWrong) (defBody e_PackWrong) DlX.scS .none kVI_PackWrong docI_PackWrong pmI_PackWrong anI_PackWrong (.ref cdI_PackWrong) ctI_PackWrong ccI_PackWrong), slI_PackWrong⟩) (cI_PackWrong : PySem.W.codeIn K (.ref cdI_PackWrong) "PackWrong.__init__" = true) (lcI_PackWrong : K.lookup cdI_PackWrong = some ⟨cclI_PackWrong, cddI_PackWrong, .fields vsI_PackWrong, ccsI_PackWrong⟩) (hvI_PackWrong : vsI_PackWrong[2]? = some (.str fileI_PackWrong tfI_PackWrong)) (hfI_PackWrong : ((l.prog.main.file : Str) == fileI_PackWrong) = true) (leI_PackWrong : K.lookup ccI_PackWrong = some ⟨clI_PackWrong, cldI_PackWrong, .cell (some (.ref C_PackWrong)), cslI_PackWrong⟩) (sB_PackWrong : PySem.W.ks_superIn K C_PackWrong C_PackWrong "__init__" = some (some (.ref fB_PackWrong))) (tB_PackWrong : PySem.W.typeIn K (.ref fB_PackWrong) = some (.type "function")) (lB_PackWrong : K.lookup fB_PackWrong = some ⟨ocB_PackWrong, odB_PackWrong, .func (PySem.W.ksFn "__init__" "PageError.__init__" (defArgs e_PageError) (defBody e_PageError) DlX.scB (.ref T_PackWrong) kVB_PackWrong docB_PackWrong pmB_PackWrong anB_PackWrong (.ref cdB_PackWrong) ctB_PackWrong ccB_PackWrong), slB_PackWrong⟩) (cB_PackWrong : PySem.W.codeIn K (.ref cdB_PackWrong) "PageError.__init__" = true) (lcB_PackWrong : K.lookup cdB_PackWrong = some ⟨cclB_PackWrong, cddB_PackWrong, .fields vsB_PackWrong, ccsB_PackWrong⟩) (hvB_PackWrong : vsB_PackWrong[2]? = some (.str fileB_PackWrong tfB_PackWrong)) (hfB_PackWrong : ((l.prog.main.file : Str) == fileB_PackWrong) = true) (leB_PackWrong : K.lookup ccB_PackWrong = some ⟨clB_PackWrong, cldB_PackWrong, .cell (some (.ref D_PackWrong)), cslB_PackWrong⟩) (lT_PackWrong : K.lookup T_PackWrong = some ⟨clsT_PackWrong, odT_PackWrong, .seq #[dv_PackWrong] nT_PackWrong, slT_PackWrong⟩) (cD_PackWrong : PySem.W.clsIn K D_PackWrong = some cdD_PackWrong) (sD_PackWrong : PySem.W.mroIn K C_PackWrong (.ref D_PackWrong) = some true) (sV_PackWrong : PySem.W.ks_superIn K C_PackWrong D_PackWrong "__init__" = some (some (.builtin "ValueError.__init__"))) (fB1_PackWrong : PySem.W.fnIn K fB_PackWrong = true) (ht_PackWrong : (l.prog.main.scope.names.lookup ("super" : Str)).isSome = false)
    (z_list : PySem.W.nsIn K mainGlobals "list" = some none) (z_TOP : ∃ t, PySem.W.nsIn K mainGlobals "TOP" = some (some (.int 255 t))) (z_range : PySem.W.nsIn K mainGlobals "range" = some none) (z_len : PySem.W.nsIn K mainGlobals "len" = some none) (z_int : PySem.W.nsIn K mainGlobals "int" = some none) (z_tuple : PySem.W.nsIn K mainGlobals "tuple" = some none) (z_min : PySem.W.nsIn K mainGlobals "min" = some none) (z_isinstance : PySem.W.nsIn K mainGlobals "isinstance" = some none) (z_bool : PySem.W.nsIn K mainGlobals "bool" = some none) (z_str : PySem.W.nsIn K mainGlobals "str" = some none) (z_dict : PySem.W.nsIn K mainGlobals "dict" = some none) (z_all : PySem.W.nsIn K mainGlobals "all" = some none) (z_sum : PySem.W.nsIn K mainGlobals "sum" = some none) (z_max : PySem.W.nsIn K mainGlobals "max" = some none) (z_sorted : PySem.W.nsIn K mainGlobals "sorted" = some none) (z_set : PySem.W.nsIn K mainGlobals "set" = some none) (z_super : PySem.W.nsIn K mainGlobals "super" = some none) :
    ∃ fd : FuncData, (∀ (s : Shared) (v : Value), BindsTo s fd ⟨[v], []⟩ [("script", v)]) ∧ ∀ base : Heap, K.In base → base.Ns mainGlobals mg → FnOk l.prog w K mg base CX0 10 fa fd ["script"] (spD K [.sh] .sh (F_law)) := by
  have e := hfa.symm.trans (PySem.W.mg_of X G a15)
  cases e
  have m_list := PySem.W.mg_none_of X G z_list
  have m_TOP := z_TOP.imp fun t e => PySem.W.mg_of X G e
  have m_range := PySem.W.mg_none_of X G z_range
  have m_len := PySem.W.mg_none_of X G z_len
  have m_int := PySem.W.mg_none_of X G z_int
  have m_tuple := PySem.W.mg_none_of X G z_tuple
  have m_min := PySem.W.mg_none_of X G z_min
  have m_isinstance := PySem.W.mg_none_of X G z_isinstance
  have m_bool := PySem.W.mg_none_of X G z_bool
  have m_str := PySem.W.mg_none_of X G z_str
  have m_dict := PySem.W.mg_none_of X G z_dict
  have m_all := PySem.W.mg_none_of X G z_all
  have m_sum := PySem.W.mg_none_of X G z_sum
  have m_max := PySem.W.mg_none_of X G z_max
  have m_sorted := PySem.W.mg_none_of X G z_sorted
  have m_set := PySem.W.mg_none_of X G z_set
  have m_super := PySem.W.mg_none_of X G z_super
  have x_PackWrong : Xc l.prog K mg C_PackWrong "PackWrong" := xc_mk (i0 := ⟨12, 8, 12, 13⟩) (i1 := ⟨12, 8, 12, 15⟩) (i2 := ⟨12, 8, 12, 24⟩) (i3 := ⟨12, 8, 12, 41⟩) (i4 := ⟨12, 8, 12, 41⟩) (i5 := ⟨12, 25, 12, 27⟩) (i6 := ⟨12, 29, 12, 40⟩) (kk := 0) (p0 := ⟨5, 8, 5, 13⟩) (p1 := ⟨5, 8, 5, 15⟩) (p2 := ⟨5, 8, 5, 24⟩) (p3 := ⟨5, 8, 5, 28⟩) (p4 := ⟨5, 8, 5, 28⟩) (p5 := ⟨5, 25, 5, 27⟩) (q0 := ⟨6, 8, 6, 12⟩) (q1 := ⟨6, 8, 6, 15⟩) (q2 := ⟨6, 18, 6, 20⟩) (q3 := ⟨6, 8, 6, 20⟩) (r0 := ⟨7, 8, 7, 12⟩) (r1 := ⟨7, 8, 7, 17⟩) (r2 := ⟨7, 20, 7, 24⟩) (r3 := ⟨7, 8, 7, 24⟩) (boI := defBody e_PackWrong) (boB := defBody e_PageError) (paI := defArgs e_PackWrong) (paB := defArgs e_PageError) (dB := .ref T_PackWrong) (odI := odI_PackWrong) (odB := odB_PackWrong) (ocI := ocI_PackWrong) (ocB := ocB_PackWrong) (slI := slI_PackWrong) (slB := slB_PackWrong) X G zx_PackWrong z_super lC_PackWrong rC_PackWrong sa_PackWrong exC_PackWrong tyC_PackWrong kC_PackWrong op_PackWrong cC_PackWrong ga_PackWrong gg_PackWrong hd_PackWrong me_PackWrong isV_PackWrong fa_PackWrong fn_PackWrong iC_PackWrong tI_PackWrong cI_PackWrong rfl (fun L => ⟨ccI_PackWrong, ⟨⟨_, _, _, lI_PackWrong⟩, ⟨_, rfl, rfl⟩, ⟨_, _, _, _, _, _, _, rfl, lcI_PackWrong, hvI_PackWrong, hfI_PackWrong⟩, ⟨_, _, _, leI_PackWrong⟩, ht_PackWrong⟩⟩) (fun env => ⟨_, by rfl⟩) (fun _ _ _ => .of_eq rfl) cD_PackWrong sD_PackWrong sB_PackWrong tB_PackWrong sV_PackWrong rfl (fun L => ⟨ccB_PackWrong, ⟨⟨_, _, _, lB_PackWrong⟩, ⟨_, rfl, rfl⟩, ⟨_, _, _, _, _, _, _, rfl, lcB_PackWrong, hvB_PackWrong, hfB_PackWrong⟩, ⟨_, _, _, leB_PackWrong⟩, ht_PackWrong⟩⟩) cB_PackWrong fB1_PackWrong (fun env => ⟨_, by rfl⟩) (fun s a u n X => .of_defaults (items := #[dv_PackWrong]) (n := nT_PackWrong) rfl (X _ _ lT_PackWrong) rfl (by rfl) (by first | rfl | kernel_rfl | (simp; rfl)))
  have F0 := fun_mk (st := s__law_draws) l0 c0 k0
  have b0 := F0.binds (ps := ["script"]) fun _ _ _ _ _ _ us hl => match us, hl with | [_], _ => rfl
  have F1 := fun_mk (st := s_back_curve) l1 c1 k1
  have b1 := F1.binds (ps := ["curve"]) fun _ _ _ _ _ _ us hl => match us, hl with | [_], _ => rfl
  have F2 := fun_mk (st := s_curve_through) l2 c2 k2
  have b2 := F2.binds (ps := ["points"]) fun _ _ _ _ _ _ us hl => match us, hl with | [_], _ => rfl
  have F3 := fun_mk (st := s__law_draw) l3 c3 k3
  have b3 := F3.binds (ps := ["draws", "limit"]) fun _ _ _ _ _ _ us hl => match us, hl with | [_, _], _ => rfl
  have F4 := fun_mk (st := s__law_colour) l4 c4 k4
  have b4 := F4.binds (ps := ["draws"]) fun _ _ _ _ _ _ us hl => match us, hl with | [_], _ => rfl
  have F5 := fun_mk (st := s_plates_of) l5 c5 k5
  have b5 := F5.binds (ps := ["colour", "above", "below"]) fun _ _ _ _ _ _ us hl => match us, hl with | [_, _, _], _ => rfl
  have F6 := fun_mk (st := s__law_curve) l6 c6 k6
  have b6 := F6.binds (ps := ["draws"]) fun _ _ _ _ _ _ us hl => match us, hl with | [_], _ => rfl
  have F7 := fun_mk (st := s__law_same) l7 c7 k7
  have b7 := F7.binds (ps := ["x", "due"]) fun _ _ _ _ _ _ us hl => match us, hl with | [_, _], _ => rfl
  have F8 := fun_mk (st := s_colour_of) l8 c8 k8
  have b8 := F8.binds (ps := ["plates"]) fun _ _ _ _ _ _ us hl => match us, hl with | [_], _ => rfl
  have F9 := fun_mk (st := s_least_ink) l9 c9 k9
  have b9 := F9.binds (ps := ["colour", "most"]) fun _ _ _ _ _ _ us hl => match us, hl with | [_, _], _ => rfl
  have F10 := fun_mk (st := s_composed) l10 c10 k10
  have b10 := F10.binds (ps := ["one", "other"]) fun _ _ _ _ _ _ us hl => match us, hl with | [_, _], _ => rfl
  have F11 := fun_mk (st := s__law_whole) l11 c11 k11
  have b11 := F11.binds (ps := ["thing"]) fun _ _ _ _ _ _ us hl => match us, hl with | [_], _ => rfl
  have F12 := fun_mk (st := s_check_curve) l12 c12 k12
  have b12 := F12.binds (ps := ["curve"]) fun _ _ _ _ _ _ us hl => match us, hl with | [_], _ => rfl
  have F13 := fun_mk (st := s__law_told) l13 c13 k13
  have b13 := F13.binds (ps := ["curve"]) fun _ _ _ _ _ _ us hl => match us, hl with | [_], _ => rfl
  have F14 := fun_mk (st := s__law_wrong) l14 c14 k14
  have b14 := F14.binds (ps := ["curve"]) fun _ _ _ _ _ _ us hl => match us, hl with | [_], _ => rfl
  have F15 := fun_mk (st := s_law) l15 c15 k15
  refine ⟨PySem.W.fnOf "law" "law" (defArgs s_law) (defBody s_law) (defScope s_law) .none kV15 dc15 pm15 an15 cd15 ct15, fun s v => .of_eq rfl, fun base _ _ => ?_⟩
  have cl__law_draws : Cl l.prog w K mg base CX0 1 "_law_draws" [.sh] (.own .sh) (F__law_draws) := ⟨f0, _, _, ok__law_draws (k := 0) F0  m_list, PySem.W.mg_of X G a0, k0, b0⟩
  have cl_back_curve : Cl l.prog w K mg base CX0 1 "back_curve" [.sh] .sh (F_back_curve) := ⟨f1, _, _, ok_back_curve (k := 0) F1  m_TOP m_range, PySem.W.mg_of X G a1, k1, b1⟩
  have cl_curve_through : Cl l.prog w K mg base CX0 1 "curve_through" [.sh] .sh (F_curve_through) := ⟨f2, _, _, ok_curve_through (k := 0) F2  m_TOP m_range m_len, PySem.W.mg_of X G a2, k2, b2⟩
  have cl__law_draw : Cl l.prog w K mg base CX0 1 "_law_draw" [(.own .sh), .sh] .sh (F__law_draw) := ⟨f3, _, _, ok__law_draw (k := 0) F3  m_len m_int, PySem.W.mg_of X G a3, k3, b3⟩
  have cl__law_colour : Cl l.prog w K mg base CX0 2 "_law_colour" [(.own .sh)] .sh (F__law_colour) := ⟨f4, _, _, ok__law_colour (k := 1) F4 (cl__law_draw.le (by decide)) m_range m_tuple, PySem.W.mg_of X G a4, k4, b4⟩
  have cl_plates_of : Cl l.prog w K mg base CX0 1 "plates_of" [.sh, .sh, .sh] .sh (F_plates_of) := ⟨f5, _, _, ok_plates_of (k := 0) F5  m_TOP m_min m_tuple, PySem.W.mg_of X G a5, k5, b5⟩
  have cl__law_curve : Cl l.prog w K mg base CX0 2 "_law_curve" [(.own .sh)] .sh (F__law_curve) := ⟨f6, _, _, ok__law_curve (k := 1) F6 (cl__law_draw.le (by decide)) m_range m_min, PySem.W.mg_of X G a6, k6, b6⟩
  have rc__law_same : ∀ n : Nat, Cl l.prog w K mg base CX0 (0 + n) "_law_same" [.sh, .sh] .sh (F__law_same n) := fun n => by
    induction n with
    | zero => exact ⟨f7, _, _, fn_none, PySem.W.mg_of X G a7, k7, b7⟩
    | succ n ih => exact ⟨f7, _, _, ok__law_same (k := 0 + n) F7 ih m_isinstance m_bool m_int m_str m_dict m_len m_all m_list m_tuple m_range, PySem.W.mg_of X G a7, k7, b7⟩
  have cl__law_same := rc__law_same 9
  have cl_colour_of : Cl l.prog w K mg base CX0 1 "colour_of" [.sh] .sh (F_colour_of) := ⟨f8, _, _, ok_colour_of (k := 0) F8  m_TOP m_min m_tuple, PySem.W.mg_of X G a8, k8, b8⟩
  have cl_least_ink : Cl l.prog w K mg base CX0 1 "least_ink" [.sh, .sh] .sh (F_least_ink) := ⟨f9, _, _, ok_least_ink (k := 0) F9  m_TOP m_min m_range m_sum m_tuple, PySem.W.mg_of X G a9, k9, b9⟩
  have cl_composed : Cl l.prog w K mg base CX0 1 "composed" [.sh, .sh] .sh (F_composed) := ⟨f10, _, _, ok_composed (k := 0) F10  , PySem.W.mg_of X G a10, k10, b10⟩
  have cl__law_whole : Cl l.prog w K mg base CX0 1 "_law_whole" [.sh] .sh (F__law_whole) := ⟨f11, _, _, ok__law_whole (k := 0) F11  m_isinstance m_int m_bool, PySem.W.mg_of X G a11, k11, b11⟩
  have cl_check_curve : Cl l.prog w K mg base (L2.CX l.prog w) 1 "check_curve" [.sh] .sh (F_check_curve) := ⟨f12, _, _, ok_check_curve (k := 0) F12  m_len m_TOP m_range m_isinstance m_int m_bool x_PackWrong, PySem.W.mg_of X G a12, k12, b12⟩
  have cl__law_told : Cl l.prog w K mg base CX0 2 "_law_told" [.sh] .sh (F__law_told) := ⟨f13, _, _, ok__law_told (k := 1) F13 (cl_check_curve.le (by decide)) x_PackWrong, PySem.W.mg_of X G a13, k13, b13⟩
  have cl__law_wrong : Cl l.prog w K mg base CX0 2 "_law_wrong" [.sh] .sh (F__law_wrong) := ⟨f14, _, _, ok__law_wrong (k := 1) F14 (cl__law_whole.le (by decide)) m_len m_range, PySem.W.mg_of X G a14, k14, b14⟩
  exact ok_law (k := 9) F15 (cl__law_draws.le (by decide)) (cl__law_colour.le (by decide)) (cl__law_draw.le (by decide)) (cl_plates_of.le (by decide)) (cl__law_same.le (by decide)) (cl_colour_of.le (by decide)) (cl_least_ink.le (by decide)) (cl__law_curve.le (by decide)) (cl_back_curve.le (by decide)) (cl_composed.le (by decide)) (cl__law_whole.le (by decide)) (cl__law_told.le (by decide)) (cl__law_wrong.le (by decide)) (cl_curve_through.le (by decide)) m_range m_min m_tuple m_max m_sum m_len m_list m_sorted m_set
theorem walk {l : PySem.W.OpenLaw} {q : Program} {loose : List Str} {XP : (Str → Option Value) → Heap → Prop} {YP : World → Heap → Prop} {d : DefRec} {K : Params → PySem.W.Frag} (hn : l.most = some 63) (hdf : d.params.defaults = [])
    (hY : ∀ (w : World) (h : Heap), YP w h → (K w.params).In h)
    (F : ∀ (w : World) (mg : Str → Option Value) (fa : Addr) (h : Heap), (K w.params).In h → h.Ns mainGlobals mg → mg d.name = some (.ref fa) →
      ∃ fd : FuncData, (∀ (s : Shared) (u : Value), BindsTo s fd ⟨[u], []⟩ [("script", u)]) ∧ ∀ base : Heap, (K w.params).In base → base.Ns mainGlobals mg → FnOk l.prog w (K w.params) mg base CX0 10 fa fd ["script"] (spD (K w.params) [.sh] .sh (F_law))) :
    PySem.W.WalkO q loose XP YP l.row.toRowW d [] (fun f vs => PySem.call f vs) :=
  L2.walk_of (n := 63) (k := 10) (x := "script") (CX := fun _ => CX0) (sp := fun w => spD (K w.params) [.sh] .sh (F_law)) hn (by decide) hdf ⟨rfl, by decide, by decide⟩ hY F (fun w H a ns hl _ hS => law_sp hS (law_true ns hl)) fun _ _ _ _ _ z => z
end P87
open PySem PySem.W PyProof.Rows in
set_option maxRecDepth 100000 in
set_option maxHeartbeats 0 in
theorem PySem.Challenge.cw_pagewright_k87_whole_colours_and_curves_holds : PySem.Challenge.rw_pagewright_k87_whole_colours_and_curves.Holds := by
  w_on; o_law; k_head; (case hw => w_witness2)
  k_fill
  refine P87.walk (l := PySem.Challenge.rw_pagewright_k87_whole_colours_and_curves) rfl rfl (fun w h Y => PySem.W.kIn_of Y) ?F
  case F =>
    intro w mg fa h KX G hmg
    refine' P87.all_mk KX G hmg ?a0 ?l0 ?c0 ?k0 ?a1 ?l1 ?c1 ?k1 ?a2 ?l2 ?c2 ?k2 ?a3 ?l3 ?c3 ?k3 ?a4 ?l4 ?c4 ?k4 ?a5 ?l5 ?c5 ?k5 ?a6 ?l6 ?c6 ?k6 ?a7 ?l7 ?c7 ?k7 ?a8 ?l8 ?c8 ?k8 ?a9 ?l9 ?c9 ?k9 ?a10 ?l10 ?c10 ?k10 ?a11 ?l11 ?c11 ?k11 ?a12 ?l12 ?c12 ?k12 ?a13 ?l13 ?c13 ?k13 ?a14 ?l14 ?c14 ?k14 ?a15 ?l15 ?c15 ?k15 ?zx_PackWrong ?lC_PackWrong ?rC_PackWrong ?sa_PackWrong ?exC_PackWrong ?tyC_PackWrong ?kC_PackWrong ?op_PackWrong ?cC_PackWrong ?ga_PackWrong ?gg_PackWrong ?hd_PackWrong ?me_PackWrong ?isV_PackWrong ?fa_PackWrong ?fn_PackWrong ?iC_PackWrong ?tI_PackWrong ?lI_PackWrong ?cI_PackWrong ?lcI_PackWrong ?hvI_PackWrong ?hfI_PackWrong ?leI_PackWrong ?sB_PackWrong ?tB_PackWrong ?lB_PackWrong ?cB_PackWrong ?lcB_PackWrong ?hvB_PackWrong ?hfB_PackWrong ?leB_PackWrong ?lT_PackWrong ?cD_PackWrong ?sD_PackWrong ?sV_PackWrong ?fB1_PackWrong ?ht_PackWrong ?z_list ?z_TOP ?z_range ?z_len ?z_int ?z_tuple ?z_min ?z_isinstance ?z_bool ?z_str ?z_dict ?z_all ?z_sum ?z_max ?z_sorted ?z_set ?z_super
    (case zx_PackWrong => k_is)
    (case lC_PackWrong => k_is)
    (case rC_PackWrong => first | rfl | kernel_rfl | decide +kernel)
    (case sa_PackWrong => k_is)
    (case exC_PackWrong => k_is)
    (case tyC_PackWrong => k_is)
    (case kC_PackWrong => k_is)
    (case op_PackWrong => k_is)
    (case cC_PackWrong => k_is)
    (case ga_PackWrong => k_is)
    (case gg_PackWrong => k_is)
    (case hd_PackWrong => k_is)
    (case me_PackWrong => k_is)
    (case isV_PackWrong => k_is)
    (case fa_PackWrong => k_is)
    (case fn_PackWrong => k_is)
    (case iC_PackWrong => k_is)
    (case tI_PackWrong => k_is)
    (case lI_PackWrong => k_is)
    (case cI_PackWrong => k_is)
    (case lcI_PackWrong => k_is)
    (case hvI_PackWrong => first | rfl | kernel_rfl | decide +kernel)
    (case hfI_PackWrong => first | rfl | kernel_rfl | decide +kernel)
    (case leI_PackWrong => k_is)
    (case sB_PackWrong => ks_is)
    (case tB_PackWrong => k_is)
    (case lB_PackWrong => k_is)
    (case cB_PackWrong => k_is)
    (case lcB_PackWrong => k_is)
    (case hvB_PackWrong => first | rfl | kernel_rfl | decide +kernel)
    (case hfB_PackWrong => first | rfl | kernel_rfl | decide +kernel)
    (case leB_PackWrong => k_is)
    (case lT_PackWrong => k_is)
    (case cD_PackWrong => k_is)
    (case sD_PackWrong => k_is)
    (case sV_PackWrong => ks_is)
    (case fB1_PackWrong => k_is)
    (case ht_PackWrong => first | rfl | kernel_rfl | decide +kernel)
    (case a0 => k_is)
    (case l0 => k_is)
    (case c0 => k_is)
    (case k0 => k_is)
    (case a1 => k_is)
    (case l1 => k_is)
    (case c1 => k_is)
    (case k1 => k_is)
    (case a2 => k_is)
    (case l2 => k_is)
    (case c2 => k_is)
    (case k2 => k_is)
    (case a3 => k_is)
    (case l3 => k_is)
    (case c3 => k_is)
    (case k3 => k_is)
    (case a4 => k_is)
    (case l4 => k_is)
    (case c4 => k_is)
    (case k4 => k_is)
    (case a5 => k_is)
    (case l5 => k_is)
    (case c5 => k_is)
    (case k5 => k_is)
    (case a6 => k_is)
    (case l6 => k_is)
    (case c6 => k_is)
    (case k6 => k_is)
    (case a7 => k_is)
    (case l7 => k_is)
    (case c7 => k_is)
    (case k7 => k_is)
    (case a8 => k_is)
    (case l8 => k_is)
    (case c8 => k_is)
    (case k8 => k_is)
    (case a9 => k_is)
    (case l9 => k_is)
    (case c9 => k_is)
    (case k9 => k_is)
    (case a10 => k_is)
    (case l10 => k_is)
    (case c10 => k_is)
    (case k10 => k_is)
    (case a11 => k_is)
    (case l11 => k_is)
    (case c11 => k_is)
    (case k11 => k_is)
    (case a12 => k_is)
    (case l12 => k_is)
    (case c12 => k_is)
    (case k12 => k_is)
    (case a13 => k_is)
    (case l13 => k_is)
    (case c13 => k_is)
    (case k13 => k_is)
    (case a14 => k_is)
    (case l14 => k_is)
    (case c14 => k_is)
    (case k14 => k_is)
    (case a15 => k_is)
    (case l15 => k_is)
    (case c15 => k_is)
    (case k15 => k_is)
    (case z_list => k_is)
    (case z_TOP => exact ⟨_, by k_is⟩)
    (case z_range => k_is)
    (case z_len => k_is)
    (case z_int => k_is)
    (case z_tuple => k_is)
    (case z_min => k_is)
    (case z_isinstance => k_is)
    (case z_bool => k_is)
    (case z_str => k_is)
    (case z_dict => k_is)
    (case z_all => k_is)
    (case z_sum => k_is)
    (case z_max => k_is)
    (case z_sorted => k_is)
    (case z_set => k_is)
    (case z_super => k_is)
